import PyProof.Rows.All
import HandS.ForMost
import HandS.IsInst
import HandS.TupAny
import HandS.Exc
import HandS.ExcOwn
import HandS.TryOnly
import HandS.WordsExc
import HandS.CallSlots
import HandS.AnyAll
import HandS.Style
import HandS.Deep
import HandS.Nested
import HandS.SortInts
import HandS.SortRule
import HandS.More
import HandS.Conv
import HandS.Strs
import HandS.Iter
import HandS.GenList
import KE.KNest
import HandS.Small
import HandS.SetFor
import HandS.ExcValue
import HandS.Zip
import HandS.EndOwn
import HandS.NestedK
import HandS.Lambda
import PySem.Challenge.RW_onefriend_k06_whole_shares
set_option Elab.async false
set_option linter.all false
set_option maxRecDepth 100000
set_option maxHeartbeats 4000000
section
/-! D1: the data layer, its core: values, store, the relation with the abstract heap, the judgements' readings made from mirrors. -/
namespace DL
open PySem PySem.Spec PyProof.Rows L2

/-! ### values, store, results -/
/-- an item of a mixed list: data, an empty dict, a place -/
inductive It1 where
  | d (p : PyData) | e | m (k : Nat)
inductive DV where
  | d (p : PyData) | dk (ks : List Int) | dl (kss : List (List Int)) | mu (k : Nat) | xl (xs : List It1)
inductive Ct where
  | lst (ds : List PyData) | dk (ks : List Int) | clo (j : Nat)
abbrev Sto := List Ct
structure Xn where
  cls : Str
  flds : List (Str × PyData)
inductive Rs (α : Type) where
  | ok (a : α) | er (x : Xn)
abbrev MM (α : Type) := Sto → Option (Rs α × Sto)
abbrev Rho := List (Option DV)
abbrev EF := Rho → MM DV
abbrev TF := Rho → MM Bool
abbrev AF := Rho → MM (List DV)
inductive Fl where
  | nx | rt (v : DV) | bk | ct
inductive SR where
  | fl (f : Fl) (r : Rho) | er (x : Xn) (r : Rho)
abbrev SF := Rho → Sto → Option (SR × Sto)

def ret {α : Type} (a : α) : MM α := fun st => some (.ok a, st)
def bnd {α β : Type} (m : MM α) (f : α → MM β) : MM β := fun st => match m st with
  | none => none
  | some (.ok a, st') => f a st'
  | some (.er x, st') => some (.er x, st')
/-- an operation that reads the store -/
def lft {α : Type} (g : Sto → Option α) : MM α := fun st => match g st with
  | none => none
  | some a => some (.ok a, st)

theorem nodup_at {α : Type} : ∀ {l : List α} {i j : Nat} {x : α}, l.Nodup → l[i]? = some x → l[j]? = some x → i = j
  | [], _, _, _, _, h, _ => by simp at h
  | a :: l, 0, 0, _, _, _, _ => rfl
  | a :: l, 0, j + 1, x, n, h, k => by
    simp at h k
    subst h
    exact absurd (List.mem_of_getElem? k) (List.nodup_cons.mp n).1
  | a :: l, i + 1, 0, x, n, h, k => by
    simp at h k
    subst k
    exact absurd (List.mem_of_getElem? h) (List.nodup_cons.mp n).1
  | a :: l, i + 1, j + 1, x, n, h, k => by
    simp at h k
    rw [nodup_at (List.nodup_cons.mp n).2 h k]

/-! ### what represents what -/
structure Wd where
  Hs : Hp
  L : List Addr
structure Wd.le (a b : Wd) : Prop where
  hs : ∀ p o, a.Hs p = some o → b.Hs p = some o
  more : ∃ m, b.L = a.L ++ m
theorem Wd.le.refl (a : Wd) : a.le a := ⟨fun _ _ h => h, [], by simp⟩
theorem Wd.le.trans {a b c : Wd} (h : a.le b) (k : b.le c) : a.le c := by
  obtain ⟨h1, m, h2⟩ := h
  obtain ⟨k1, n, k2⟩ := k
  exact ⟨fun p o e => k1 p o (h1 p o e), m ++ n, by rw [k2, h2, List.append_assoc]⟩
/-- a lambda's function: its words, the cells that it captured, its code object, its tuple of defaults -/
structure LF where
  qual : Str
  params : Arguments
  body : Expr
  scope : Scope
  cl : List (Str × Addr)
  c : Addr
  dT : Option Addr
def LF.dv (F : LF) : Value := match F.dT with
  | none => .none
  | some t => .ref t
abbrev LF.fd (F : LF) (pm ctv : Value) : FuncData := { PySem.W.kla_fn "<lambda>" F.qual F.params F.body F.scope F.cl pm (.ref F.c) ctv with defaults := F.dv }
def FnL (f : Addr) (F : LF) : HO := .ext fun h => ∃ (od : Option Addr) (sl : Array (Option Value)) (pm ctv : Value), h.get? f = some (⟨.type "function", od, .func (F.fd pm ctv), sl⟩ : Obj)
theorem fnL_ne {f : Addr} {F : LF} (ps : Array Value) : FnL f F ≠ .tbl ps := fun z => by
  unfold FnL at z
  cases z
/-- what a walk knows of the text: the tables of code objects, the names in them, the lambdas -/
structure Tb where
  tab : Addr → Prop
  lam : Addr → Nat → Nat → Str → Prop
  nf : Nat → LF → Prop
  cap : List (V × DV)
/-- a table; the code objects at the places of lambdas are known -/
def TabZ (lam : Nat → Nat → Str → Prop) (Hs H : Hp) (P : Addr) : Prop := ∃ ps : Array Value, H P = some (.tbl ps) ∧ TriplesOk ps.toList ∧
  ∀ (pos : Pos) (cv : Value) (q : Str), lam pos.line pos.col q → codeAmong pos ps.toList = some cv → ∃ c, cv = .ref c ∧ Hs c = some (LamX.CodeO c q)
theorem TabZ.g {lam : Nat → Nat → Str → Prop} {Hs H : Hp} {P : Addr} (h : TabZ lam Hs H P) : GxR.TabG H P := by
  obtain ⟨ps, h1, h2, _⟩ := h
  exact ⟨ps, h1, h2⟩
theorem TabZ.imp {lam : Nat → Nat → Str → Prop} {Hs Hs' H H' : Hp} {P : Addr} (h : TabZ lam Hs H P) (e : ∀ ps, H P = some (.tbl ps) → H' P = some (.tbl ps)) (k : ∀ c q, Hs c = some (LamX.CodeO c q) → Hs' c = some (LamX.CodeO c q)) : TabZ lam Hs' H' P := by
  obtain ⟨ps, h1, h2, h3⟩ := h
  refine ⟨ps, e ps h1, h2, fun pos cv q a b => ?_⟩
  obtain ⟨c, e1, e2⟩ := h3 pos cv q a b
  exact ⟨c, e1, k c q e2⟩
def okFrz : HO → Prop
  | .lst xs => xs.length ≤ sizeLine
  | .tup xs => xs.length ≤ sizeLine
  | .dK kvs => kvs.length ≤ sizeLine
  | .frz _ (.lst xs) => xs.length ≤ sizeLine
  | .frz _ (.dK xs) => xs.length ≤ sizeLine
  | .ext _ => True
  | _ => False
def tmap (ks : List Int) : List (Key × V) := ks.map fun k => (.inl k, .bl true)
def CRep (K : PySem.W.Frag) (T : Tb) (Hs H : Hp) (a : Addr) : Ct → Prop
  | .lst ds => ∃ vs, H a = some (.lst vs) ∧ vs.length ≤ sizeLine ∧ DpAll K Hs vs ds
  | .dk ks => H a = some (.dK (tmap ks)) ∧ ks.length ≤ sizeLine
  | .clo j => ∃ F, T.nf j F ∧ H a = some (FnL a F) ∧ Hs F.c = some (LamX.CodeO F.c F.qual) ∧ ∀ t, F.dT = some t → Hs t = some (.tup [.int 0])
inductive DkAll (Hs : Hp) : List V → List (List Int) → Prop
  | nil : DkAll Hs [] []
  | cons {a : Addr} {vs : List V} {ks : List Int} {kss : List (List Int)} : Rd Hs a (.dK (tmap ks)) → DkAll Hs vs kss → DkAll Hs (.ref a :: vs) (ks :: kss)
def RepI (K : PySem.W.Frag) (W : Wd) (v : V) : It1 → Prop
  | .d p => Dp K W.Hs v p
  | .e => ∃ a, v = .ref a ∧ Rd W.Hs a (.dK (tmap []))
  | .m k => ∃ a, v = .ref a ∧ W.L[k]? = some a
inductive XlAll (K : PySem.W.Frag) (W : Wd) : List V → List It1 → Prop
  | nil : XlAll K W [] []
  | cons {v : V} {vs : List V} {x : It1} {xs : List It1} : RepI K W v x → XlAll K W vs xs → XlAll K W (v :: vs) (x :: xs)
def RepV (K : PySem.W.Frag) (W : Wd) (v : V) : DV → Prop
  | .d p => Dp K W.Hs v p
  | .dk ks => ∃ a, v = .ref a ∧ Rd W.Hs a (.dK (tmap ks))
  | .dl kss => ∃ a vs, v = .ref a ∧ W.Hs a = some (.lst vs) ∧ DkAll W.Hs vs kss
  | .mu k => ∃ a, v = .ref a ∧ W.L[k]? = some a
  | .xl xs => ∃ a vs, v = .ref a ∧ W.Hs a = some (.lst vs) ∧ XlAll K W vs xs
inductive RepVs (K : PySem.W.Frag) (W : Wd) : List V → List DV → Prop
  | nil : RepVs K W [] []
  | cons {v : V} {vs : List V} {x : DV} {xs : List DV} : RepV K W v x → RepVs K W vs xs → RepVs K W (v :: vs) (x :: xs)
structure RelH (K : PySem.W.Frag) (T : Tb) (W : Wd) (st : Sto) (H : Hp) : Prop where
  frz : ∀ p o, W.Hs p = some o → H p = some o ∧ okFrz o
  tab : ∀ P, T.tab P → TabZ (T.lam P) W.Hs H P
  len : W.L.length = st.length
  nd : W.L.Nodup
  sto : ∀ (k : Nat) (a : Addr) (c : Ct), W.L[k]? = some a → st[k]? = some c → W.Hs a = none ∧ CRep K T W.Hs H a c
  cap : ∀ q ∈ T.cap, RepV K W q.1 q.2
structure RelS (K : PySem.W.Frag) (W : Wd) (r : Rho) (σ : L2.St) : Prop where
  len : r.length = σ.length
  at_ : ∀ (i : Nat) (x : DV), r[i]? = some (some x) → ∃ v, σ[i]? = some (some v) ∧ RepV K W v x
def sc : PyData → V → Prop
  | .int i, v => v = .int i
  | .str x, v => v = .str x
  | _, _ => False
def XRep (mg : Str → Option Value) (H : Hp) (c : Value) (dd : Option Addr) (x : Xn) : Prop :=
  (∃ C, mg x.cls = some (.ref C) ∧ c = .ref C) ∧ (x.flds = [] ∨ ∃ d fs, dd = some d ∧ H d = some (.xd fs) ∧ ∀ n p, (n, p) ∈ x.flds → ∃ v, fs.lookup n = some v ∧ sc p v)

section
variable {K : PySem.W.Frag} {T : Tb} {W W' : Wd} {st : Sto} {H H' : Hp} {v : V} {x : DV} {r : Rho} {σ : L2.St}

theorem rd_mono {Hs Hs' : Hp} (h : ∀ p o, Hs p = some o → Hs' p = some o) {a : Addr} {u : HO} (q : Rd Hs a u) : Rd Hs' a u := by
  rcases q with q | ⟨o, q⟩
  · exact .inl (h _ _ q)
  · exact .inr ⟨o, h _ _ q⟩
theorem sql_mono {Hs Hs' : Hp} (h : ∀ p o, Hs p = some o → Hs' p = some o) {a : Addr} {xs : List V} (q : SqL K Hs a xs) : SqL K Hs' a xs := by
  rcases q with q | q
  · exact .inl (rd_mono h q)
  · exact .inr q
theorem sqt_mono {Hs Hs' : Hp} (h : ∀ p o, Hs p = some o → Hs' p = some o) {a : Addr} {xs : List V} (q : SqT K Hs a xs) : SqT K Hs' a xs := by
  rcases q with q | q
  · exact .inl (rd_mono h q)
  · exact .inr q
mutual
theorem dp_mono {Hs Hs' : Hp} (h : ∀ p o, Hs p = some o → Hs' p = some o) : ∀ (p : PyData) (v : V), Dp K Hs v p → Dp K Hs' v p
  | .none, _, q => by cases q; exact .non
  | .bool b, _, q => by cases q; exact .bl b
  | .int b, _, q => by cases q; exact .int b
  | .str b, _, q => by cases q; exact .str b
  | .list ds, _, q => by
    cases q with
    | lst hs ha => exact .lst (sql_mono h hs) (dpall_mono h ds _ ha)
  | .tuple ds, _, q => by
    cases q with
    | tup hs ha => exact .tup (sqt_mono h hs) (dpall_mono h ds _ ha)
  | .dict _, _, q => by cases q
theorem dpall_mono {Hs Hs' : Hp} (h : ∀ p o, Hs p = some o → Hs' p = some o) : ∀ (ds : List PyData) (vs : List V), DpAll K Hs vs ds → DpAll K Hs' vs ds
  | [], _, q => by cases q; exact .nil
  | d :: ds, _, q => by
    cases q with
    | cons h1 h2 => exact .cons (dp_mono h d _ h1) (dpall_mono h ds _ h2)
end
theorem dkall_mono {Hs Hs' : Hp} (h : ∀ p o, Hs p = some o → Hs' p = some o) : ∀ {vs : List V} {kss : List (List Int)}, DkAll Hs vs kss → DkAll Hs' vs kss
  | _, _, .nil => .nil
  | _, _, .cons a b => .cons (rd_mono h a) (dkall_mono h b)
theorem mu_mono (l : W.le W') {k : Nat} {a : Addr} (h : W.L[k]? = some a) : W'.L[k]? = some a := by
  obtain ⟨_, m, e2⟩ := l
  rw [e2, List.getElem?_append_left (List.getElem?_eq_some_iff.mp h).1]
  exact h
theorem RepI.mono (l : W.le W') : ∀ {x : It1}, RepI K W v x → RepI K W' v x
  | .d p, h => dp_mono l.1 p v h
  | .e, ⟨a, e, h⟩ => ⟨a, e, rd_mono l.1 h⟩
  | .m k, ⟨a, e, h⟩ => ⟨a, e, mu_mono l h⟩
theorem XlAll.mono (l : W.le W') : ∀ {vs : List V} {xs : List It1}, XlAll K W vs xs → XlAll K W' vs xs
  | _, _, .nil => .nil
  | _, _, .cons a b => .cons (a.mono l) (XlAll.mono l b)
theorem RepV.mono (l : W.le W') : ∀ {x : DV}, RepV K W v x → RepV K W' v x
  | .d p, h => dp_mono l.1 p v h
  | .dk ks, ⟨a, e, h⟩ => ⟨a, e, rd_mono l.1 h⟩
  | .dl kss, ⟨a, vs, e, h, q⟩ => ⟨a, vs, e, l.1 _ _ h, dkall_mono l.1 q⟩
  | .xl xs, ⟨a, vs, e, h, q⟩ => ⟨a, vs, e, l.1 _ _ h, q.mono l⟩
  | .mu k, ⟨a, e, h⟩ => by
    obtain ⟨_, m, e2⟩ := l
    refine ⟨a, e, ?_⟩
    rw [e2, List.getElem?_append_left (List.getElem?_eq_some_iff.mp h).1]
    exact h
theorem RepVs.mono (l : W.le W') : ∀ {vs : List V} {xs : List DV}, RepVs K W vs xs → RepVs K W' vs xs
  | _, _, .nil => .nil
  | _, _, .cons a b => .cons (a.mono l) (RepVs.mono l b)
theorem RepVs.length : ∀ {vs : List V} {xs : List DV}, RepVs K W vs xs → vs.length = xs.length
  | _, _, .nil => rfl
  | _, _, .cons _ b => by rw [List.length_cons, List.length_cons, RepVs.length b]
theorem RelS.mono (l : W.le W') (h : RelS K W r σ) : RelS K W' r σ := ⟨h.len, fun i x e => by
  obtain ⟨v, e1, q⟩ := h.at_ i x e
  exact ⟨v, e1, q.mono l⟩⟩
theorem RelS.set {i : Nat} (h : RelS K W r σ) (q : RepV K W v x) : RelS K W (r.set i (some x)) (σ.set i (some v)) := by
  refine ⟨by rw [List.length_set, List.length_set, h.len], fun j y e => ?_⟩
  by_cases hj : i = j
  · subst hj
    by_cases hi : i < r.length
    · rw [List.getElem?_set_self hi] at e
      cases e
      exact ⟨v, by rw [List.getElem?_set_self (by rw [← h.len]; exact hi)], q⟩
    · rw [List.getElem?_eq_none (by rw [List.length_set]; omega)] at e
      cases e
  · rw [List.getElem?_set_ne hj] at e
    obtain ⟨w, e1, q1⟩ := h.at_ j y e
    exact ⟨w, by rw [List.getElem?_set_ne hj]; exact e1, q1⟩
theorem RelS.forget {i : Nat} {o : Option V} (h : RelS K W r σ) : RelS K W (r.set i none) (σ.set i o) := by
  refine ⟨by rw [List.length_set, List.length_set, h.len], fun j y e => ?_⟩
  by_cases hj : i = j
  · subst hj
    by_cases hi : i < r.length
    · rw [List.getElem?_set_self hi] at e
      cases e
    · rw [List.getElem?_eq_none (by rw [List.length_set]; omega)] at e
      cases e
  · rw [List.getElem?_set_ne hj] at e
    obtain ⟨w, e1, q1⟩ := h.at_ j y e
    exact ⟨w, by rw [List.getElem?_set_ne hj]; exact e1, q1⟩
/-- what is read through the full heap -/
theorem RelH.rd (h : RelH K T W st H) {a : Addr} {u : HO} (q : Rd W.Hs a u) : Rd H a u := rd_mono (fun p o e => (h.frz p o e).1) q
theorem RelH.dp (h : RelH K T W st H) {p : PyData} (q : Dp K W.Hs v p) : Dp K H v p := dp_mono (fun p o e => (h.frz p o e).1) p v q
theorem RelH.dpall (h : RelH K T W st H) {vs : List V} {ds : List PyData} (q : DpAll K W.Hs vs ds) : DpAll K H vs ds := dpall_mono (fun p o e => (h.frz p o e).1) ds vs q
theorem RelH.fresh (h : RelH K T W st H) {p : Addr} (n : H p = none) : W.Hs p = none := by
  cases q : W.Hs p with
  | none => rfl
  | some o =>
    have := (h.frz p o q).1
    rw [n] at this
    cases this
theorem RelH.capOf (h : RelH K T W st H) (l : W.le W') : ∀ q ∈ T.cap, RepV K W' q.1 q.2 := fun q hq => (h.cap q hq).mono l
/-- a new frozen object -/
def Wd.put (W : Wd) (p : Addr) (o : HO) : Wd := ⟨upd W.Hs p o, W.L⟩
theorem Wd.le_put {p : Addr} {o : HO} (n : W.Hs p = none) : W.le (W.put p o) := ⟨fun b u e => by
  show upd W.Hs p o b = some u
  rw [upd_ne (ne_of_none e n)]
  exact e, [], by simp [Wd.put]⟩
theorem CRep.mono {Hs Hs' : Hp} {a : Addr} (h : ∀ p o, Hs p = some o → Hs' p = some o) (e : ∀ u, H a = some u → H' a = some u) : ∀ {c : Ct}, CRep K T Hs H a c → CRep K T Hs' H' a c
  | .lst ds, ⟨vs, e1, l, q⟩ => ⟨vs, e _ e1, l, dpall_mono h ds vs q⟩
  | .dk ks, ⟨e1, l⟩ => ⟨e _ e1, l⟩
  | .clo j, ⟨F, e1, e2, e3, e4⟩ => ⟨F, e1, e _ e2, h _ _ e3, fun t z => h _ _ (e4 t z)⟩
theorem CRep.some {Hs : Hp} {a : Addr} : ∀ {c : Ct}, CRep K T Hs H a c → ∃ u, H a = some u ∧ ∀ ps, u ≠ .tbl ps
  | .lst ds, ⟨vs, e1, l, q⟩ => ⟨_, e1, fun _ z => nomatch z⟩
  | .dk ks, ⟨e1, l⟩ => ⟨_, e1, fun _ z => nomatch z⟩
  | .clo j, ⟨F, _, e1, _⟩ => ⟨_, e1, fnL_ne⟩
theorem RelH.put (h : RelH K T W st H) {p : Addr} {o : HO} (n : H p = none) (ok : okFrz o) : RelH K T (W.put p o) st (upd H p o) := by
  have nHs := h.fresh n
  refine ⟨fun b u e => ?_, fun P t => ?_, h.len, h.nd, fun k a c e1 e2 => ?_, h.capOf (Wd.le_put (o := o) nHs)⟩
  · by_cases hb : b = p
    · subst hb
      have e' : upd W.Hs b o b = some u := e
      rw [upd_same] at e' ⊢
      cases e'
      exact ⟨rfl, ok⟩
    · have e' : upd W.Hs p o b = some u := e
      rw [upd_ne hb] at e' ⊢
      exact h.frz b u e'
  · exact (h.tab P t).imp (fun ps e => by rw [upd_ne (ne_of_none e n)]; exact e) fun c q e => (Wd.le_put (o := o) nHs).1 _ _ e
  · obtain ⟨q1, q2⟩ := h.sto k a c e1 e2
    obtain ⟨u, eu, _⟩ := q2.some
    have ne : a ≠ p := ne_of_none eu n
    refine ⟨by show upd W.Hs p o a = none; rw [upd_ne ne]; exact q1, ?_⟩
    exact q2.mono (Wd.le_put (o := o) nHs).1 fun u e => by rw [upd_ne ne]; exact e
/-- a new store place -/
def Wd.push (W : Wd) (p : Addr) : Wd := ⟨W.Hs, W.L ++ [p]⟩
theorem Wd.le_push {p : Addr} : W.le (W.push p) := ⟨fun _ _ e => e, [p], rfl⟩
theorem RelH.inL (h : RelH K T W st H) {k : Nat} {a : Addr} (e : W.L[k]? = some a) : ∃ c, st[k]? = some c := by
  have h1 := (List.getElem?_eq_some_iff.mp e).1
  rw [h.len] at h1
  exact ⟨_, List.getElem?_eq_getElem h1⟩
theorem RelH.push (h : RelH K T W st H) {p : Addr} {o : HO} {c : Ct} (n : H p = none) (nt : ∀ ps, o ≠ .tbl ps) (q : CRep K T W.Hs (upd H p o) p c) : RelH K T (W.push p) (st ++ [c]) (upd H p o) := by
  have nHs := h.fresh n
  have nin : p ∉ W.L := fun hm => by
    obtain ⟨k, hk⟩ := List.getElem?_of_mem hm
    obtain ⟨c', e⟩ := h.inL hk
    obtain ⟨_, q2⟩ := h.sto k p c' hk e
    obtain ⟨u, eu, _⟩ := q2.some
    rw [n] at eu
    cases eu
  refine ⟨fun b u e => ?_, fun P t => ?_, by simp [Wd.push, h.len], ?_, fun k a c' e1 e2 => ?_, h.capOf Wd.le_push⟩
  · obtain ⟨e1, e2⟩ := h.frz b u e
    exact ⟨by rw [upd_ne (ne_of_none e1 n)]; exact e1, e2⟩
  · exact (h.tab P t).imp (fun ps e => by rw [upd_ne (ne_of_none e n)]; exact e) fun c q e => e
  · show (W.L ++ [p]).Nodup
    rw [List.nodup_append]
    exact ⟨h.nd, by simp, fun a ha b hb => by
      have e : b = p := by simpa using hb
      subst e
      exact fun z => nin (z ▸ ha)⟩
  · have e1' : (W.L ++ [p])[k]? = some a := e1
    by_cases hk : k < W.L.length
    · rw [List.getElem?_append_left hk] at e1'
      rw [List.getElem?_append_left (by rw [← h.len]; exact hk)] at e2
      obtain ⟨q1, q2⟩ := h.sto k a c' e1' e2
      obtain ⟨u, eu, _⟩ := q2.some
      have ne : a ≠ p := ne_of_none eu n
      exact ⟨q1, q2.mono (fun _ _ e => e) fun u e => by rw [upd_ne ne]; exact e⟩
    · rw [List.getElem?_append_right (by omega)] at e1'
      rw [List.getElem?_append_right (by rw [← h.len]; omega)] at e2
      have hk2 : k - W.L.length = 0 := by
        have := (List.getElem?_eq_some_iff.mp e1').1
        simp at this
        omega
      rw [hk2] at e1'
      rw [← h.len, hk2] at e2
      simp at e1' e2
      subst e1' e2
      exact ⟨nHs, q⟩
/-- a store place changes -/
theorem RelH.set (h : RelH K T W st H) {k : Nat} {p : Addr} {o : HO} {c c' : Ct} (e1 : W.L[k]? = some p) (e2 : st[k]? = some c') (q : CRep K T W.Hs (upd H p o) p c) : RelH K T W (st.set k c) (upd H p o) := by
  obtain ⟨q1, q2⟩ := h.sto k p c' e1 e2
  obtain ⟨u, eu, nu⟩ := q2.some
  refine ⟨fun b u e => ?_, fun P t => ?_, by rw [List.length_set]; exact h.len, h.nd, fun j a d e3 e4 => ?_, h.cap⟩
  · obtain ⟨e3, e4⟩ := h.frz b u e
    have ne : b ≠ p := fun z => by
      rw [z, q1] at e
      cases e
    exact ⟨by rw [upd_ne ne]; exact e3, e4⟩
  · refine (h.tab P t).imp (fun ps e => ?_) fun c q e => e
    have ne : P ≠ p := fun z => by
      rw [z, eu] at e
      exact nu ps (Option.some.inj e)
    rw [upd_ne ne]
    exact e
  · by_cases hj : k = j
    · subst hj
      rw [e1] at e3
      cases e3
      rw [List.getElem?_set_self (List.getElem?_eq_some_iff.mp e2).1] at e4
      cases e4
      exact ⟨q1, q⟩
    · rw [List.getElem?_set_ne hj] at e4
      obtain ⟨q3, q4⟩ := h.sto j a d e3 e4
      have ne : a ≠ p := fun z => by
        subst z
        exact hj (nodup_at h.nd e1 e3)
      exact ⟨q3, q4.mono (fun _ _ e => e) fun u e => by rw [upd_ne ne]; exact e⟩
end

/-! ### the readings -/
def OutG {α : Type} (r : Option (Rs α × Sto)) (ok : α → Sto → Prop) (er : Xn → Sto → Prop) : Prop := match r with
  | none => False
  | some (.ok a, st) => ok a st
  | some (.er x, st) => er x st
theorem OutG.mono {α : Type} {r : Option (Rs α × Sto)} {ok ok' : α → Sto → Prop} {er er' : Xn → Sto → Prop} (h : OutG r ok er) (h1 : ∀ a s, ok a s → ok' a s) (h2 : ∀ x s, er x s → er' x s) : OutG r ok' er' := by
  match r, h with
  | some (.ok a, st), h => exact h1 a st h
  | some (.er x, st), h => exact h2 x st h
theorem OutG.bnd {α β : Type} {m : MM α} {f : α → MM β} {st : Sto} {ok : β → Sto → Prop} {er : Xn → Sto → Prop} (h : OutG (bnd m f st) ok er) : OutG (m st) (fun a st1 => OutG (f a st1) ok er) er := by
  unfold DL.bnd at h
  generalize m st = z at h ⊢
  match z, h with
  | some (.ok a, s), h => exact h
  | some (.er x, s), h => exact h
theorem OutG.lft {α : Type} {g : Sto → Option α} {st : Sto} {ok : α → Sto → Prop} {er : Xn → Sto → Prop} (h : OutG (lft g st) ok er) : ∃ a, g st = some a ∧ ok a st := by
  unfold DL.lft at h
  split at h
  · exact h.elim
  · rename_i a e
    exact ⟨a, e, h⟩
section
variable (K : PySem.W.Frag) (mg : Str → Option Value) (T : Tb)
def okV (W : Wd) (Q : VK) : DV → Sto → Prop := fun a st' => ∀ v H' W', W.le W' → RelH K T W' st' H' → RepV K W' v a → Q v H'
def okB (W : Wd) (Q : Bool → Hp → Prop) : Bool → Sto → Prop := fun b st' => ∀ H' W', W.le W' → RelH K T W' st' H' → Q b H'
def okA (W : Wd) (Q : List V → Hp → Prop) : List DV → Sto → Prop := fun xs st' => ∀ vs H' W', W.le W' → RelH K T W' st' H' → RepVs K W' vs xs → Q vs H'
def erX (W : Wd) (Wx : WX) (σ : L2.St) : Xn → Sto → Prop := fun x st' => ∀ c dd H' W', W.le W' → RelH K T W' st' H' → XRep mg H' c dd x → Wx c dd σ H'
variable (Wx : WX)
def tD (f : EF) : TE := fun σ H Q => ∃ r st W, RelH K T W st H ∧ RelS K W r σ ∧ OutG (f r st) (okV K T W Q) (erX K mg T W Wx σ)
def ttD (f : TF) : TT := fun σ H Q => ∃ r st W, RelH K T W st H ∧ RelS K W r σ ∧ OutG (f r st) (okB K T W Q) (erX K mg T W Wx σ)
def taD (f : AF) : TA := fun σ H Q => ∃ r st W, RelH K T W st H ∧ RelS K W r σ ∧ OutG (f r st) (okA K T W Q) (erX K mg T W Wx σ)
def OutS (W : Wd) (D : Ends) (o : Option (SR × Sto)) : Prop := match o with
  | none => False
  | some (.fl f r, st') => (match f with
    | .nx => ∀ σ' H' W', W.le W' → RelH K T W' st' H' → RelS K W' r σ' → D.nx σ' H'
    | .bk => ∀ σ' H' W', W.le W' → RelH K T W' st' H' → RelS K W' r σ' → D.bk σ' H'
    | .ct => ∀ σ' H' W', W.le W' → RelH K T W' st' H' → RelS K W' r σ' → D.ct σ' H'
    | .rt x => ∀ v H' W', W.le W' → RelH K T W' st' H' → RepV K W' v x → D.rt v H')
  | some (.er x r, st') => ∀ c dd σ' H' W', W.le W' → RelH K T W' st' H' → RelS K W' r σ' → XRep mg H' c dd x → Wx c dd σ' H'
def tsD (f : SF) : TS := fun D σ H => ∃ r st W, RelH K T W st H ∧ RelS K W r σ ∧ OutS K mg T Wx W D (f r st)
end
abbrev DE (X : Cx) (T : Tb) (Wx : WX) (e : Expr) (f : EF) : Prop := PE X e (tD X.K X.mg T Wx f)
abbrev DT (X : Cx) (T : Tb) (Wx : WX) (e : Expr) (f : TF) : Prop := PT X e (ttD X.K X.mg T Wx f)
abbrev DW (X : Cx) (T : Tb) (Wx : WX) (e : Expr) (f : TF) : Prop := PW X e (ttD X.K X.mg T Wx f)
abbrev DA (X : Cx) (T : Tb) (Wx : WX) (es : List Expr) (f : AF) : Prop := PA X es (taD X.K X.mg T Wx f)
abbrev DS (X : Cx) (T : Tb) (Wx : WX) (e : Stmt) (f : SF) : Prop := PS X e (tsD X.K X.mg T Wx f)
abbrev DSs (X : Cx) (T : Tb) (Wx : WX) (e : List Stmt) (f : SF) : Prop := PSs X e (tsD X.K X.mg T Wx f)
section
variable {X : Cx} {T : Tb} {Wx : WX} {e : Expr}
theorem PE.imp {t t' : TE} (h : PE X e t) (k : ∀ σ H Q, t' σ H Q → t σ H Q) : PE X e t' := ⟨fun pins s σ H Q I q => h.run pins s σ H Q I (k σ H Q q)⟩
theorem PT.imp {t t' : TT} (h : PT X e t) (k : ∀ σ H Q, t' σ H Q → t σ H Q) : PT X e t' := ⟨fun pins s σ H Q I q => h.run pins s σ H Q I (k σ H Q q)⟩
theorem PW.imp {t t' : TT} (h : PW X e t) (k : ∀ σ H Q, t' σ H Q → t σ H Q) : PW X e t' := ⟨fun wh pins s σ H Q I q => h.run wh pins s σ H Q I (k σ H Q q)⟩
theorem PA.imp {es : List Expr} {t t' : TA} (h : PA X es t) (k : ∀ σ H Q, t' σ H Q → t σ H Q) : PA X es t' := ⟨fun pos pins s σ H Q I q => h.run pos pins s σ H Q I (k σ H Q q)⟩
theorem PS.imp {s : Stmt} {t t' : TS} (h : PS X s t) (k : ∀ D σ H, t' D σ H → t D σ H) : PS X s t' := ⟨fun pins s σ H D I q => h.run pins s σ H D I (k D σ H q)⟩
theorem PSs.imp {s : List Stmt} {t t' : TS} (h : PSs X s t) (k : ∀ D σ H, t' D σ H → t D σ H) : PSs X s t' := ⟨fun pins s σ H D I q => h.run pins s σ H D I (k D σ H q)⟩
theorem PE.or {t u : TE} (h : PE X e t) (k : PE X e u) : PE X e (fun σ H Q => t σ H Q ∨ u σ H Q) := ⟨fun pins s σ H Q I q => q.elim (h.run pins s σ H Q I) (k.run pins s σ H Q I)⟩
end

/-! ### stepping through outcomes -/
section
variable {K : PySem.W.Frag} {mg : Str → Option Value} {T : Tb} {Wx : WX} {W W' : Wd} {σ : L2.St} {r : Rho} {st : Sto} {H : Hp}
theorem erX.mono (l : W.le W') {x : Xn} {s : Sto} (h : erX K mg T W Wx σ x s) : erX K mg T W' Wx σ x s := fun c dd H' W'' l2 h1 h2 => h c dd H' W'' (l.trans l2) h1 h2
theorem okV.mono (l : W.le W') {Q : VK} {x : DV} {s : Sto} (h : okV K T W Q x s) : okV K T W' Q x s := fun c dd H' l2 h1 h2 => h c dd H' (l.trans l2) h1 h2
theorem okB.mono (l : W.le W') {Q : Bool → Hp → Prop} {x : Bool} {s : Sto} (h : okB K T W Q x s) : okB K T W' Q x s := fun dd H' l2 h1 => h dd H' (l.trans l2) h1
theorem okA.mono (l : W.le W') {Q : List V → Hp → Prop} {x : List DV} {s : Sto} (h : okA K T W Q x s) : okA K T W' Q x s := fun c dd H' l2 h1 h2 => h c dd H' (l.trans l2) h1 h2
/-- a part is evaluated, then the rest -/
theorem td_bnd {β : Type} {f : EF} {g : DV → MM β} {ok : β → Sto → Prop} {Q : VK} (hH : RelH K T W st H) (hS : RelS K W r σ) (h : OutG (bnd (f r) g st) ok (erX K mg T W Wx σ))
    (k : ∀ x st1 v H1 W1, W.le W1 → RelH K T W1 st1 H1 → RepV K W1 v x → RelS K W1 r σ → OutG (g x st1) ok (erX K mg T W Wx σ) → Q v H1) : tD K mg T Wx f σ H Q :=
  ⟨r, st, W, hH, hS, h.bnd.mono (fun x st1 q v H1 W1 l h1 rv => k x st1 v H1 W1 l h1 rv (hS.mono l) q) fun _ _ q => q⟩
theorem ttd_bnd {β : Type} {f : TF} {g : Bool → MM β} {ok : β → Sto → Prop} {Q : Bool → Hp → Prop} (hH : RelH K T W st H) (hS : RelS K W r σ) (h : OutG (bnd (f r) g st) ok (erX K mg T W Wx σ))
    (k : ∀ x st1 H1 W1, W.le W1 → RelH K T W1 st1 H1 → RelS K W1 r σ → OutG (g x st1) ok (erX K mg T W Wx σ) → Q x H1) : ttD K mg T Wx f σ H Q :=
  ⟨r, st, W, hH, hS, h.bnd.mono (fun x st1 q H1 W1 l h1 => k x st1 H1 W1 l h1 (hS.mono l) q) fun _ _ q => q⟩
theorem tad_bnd {β : Type} {f : AF} {g : List DV → MM β} {ok : β → Sto → Prop} {Q : List V → Hp → Prop} (hH : RelH K T W st H) (hS : RelS K W r σ) (h : OutG (bnd (f r) g st) ok (erX K mg T W Wx σ))
    (k : ∀ x st1 v H1 W1, W.le W1 → RelH K T W1 st1 H1 → RepVs K W1 v x → RelS K W1 r σ → OutG (g x st1) ok (erX K mg T W Wx σ) → Q v H1) : taD K mg T Wx f σ H Q :=
  ⟨r, st, W, hH, hS, h.bnd.mono (fun x st1 q v H1 W1 l h1 rv => k x st1 v H1 W1 l h1 rv (hS.mono l) q) fun _ _ q => q⟩
/-- the whole is a part's outcome, a world further on -/
theorem td_go {f : EF} {Q : VK} (l : W.le W') (hH : RelH K T W' st H) (hS : RelS K W' r σ) (h : OutG (f r st) (okV K T W Q) (erX K mg T W Wx σ)) : tD K mg T Wx f σ H Q :=
  ⟨r, st, W', hH, hS, h.mono (fun _ _ q => q.mono l) fun _ _ q => q.mono l⟩
theorem ttd_go {f : TF} {Q : Bool → Hp → Prop} (l : W.le W') (hH : RelH K T W' st H) (hS : RelS K W' r σ) (h : OutG (f r st) (okB K T W Q) (erX K mg T W Wx σ)) : ttD K mg T Wx f σ H Q :=
  ⟨r, st, W', hH, hS, h.mono (fun _ _ q => q.mono l) fun _ _ q => q.mono l⟩
end
end DL
end
section
/-! D2: operations on data, and that the machine does them. -/
namespace DL
open PySem PySem.Spec PyProof.Rows L2

/-! ### pure -/
def res (st : Sto) : DV → Option PyData
  | .d p => some p
  | .mu k => match st[k]? with
    | some (.lst ds) => some (.list ds)
    | _ => none
  | _ => none
def oInt (g : Int → Int → Option PyData) : DV → DV → Sto → Option DV := fun x y st => match res st x, res st y with
  | some (.int i), some (.int j) => (g i j).map .d
  | _, _ => none
def oAdd : DV → DV → Sto → Option DV := fun x y st => match res st x, res st y with
  | some (.int i), some (.int j) => some (.d (.int (i + j)))
  | some (.str a), some (.str b) => if a.length + b.length ≤ sizeLine then some (.d (.str (a ++ b))) else none
  | some (.list a), some (.list b) => if a.length + b.length ≤ sizeLine then some (.d (.list (a ++ b))) else none
  | some (.tuple a), some (.tuple b) => if a.length + b.length ≤ sizeLine then some (.d (.tuple (a ++ b))) else none
  | _, _ => none
def oSub := oInt fun i j => some (.int (i - j))
def oMul := oInt fun i j => if (-(2 ^ 64) < i ∧ i < 2 ^ 64) ∨ (-(2 ^ 64) < j ∧ j < 2 ^ 64) then some (.int (i * j)) else none
def oFdiv := oInt fun i j => if j ≠ 0 ∧ j.natAbs < 1073741824 then some (.int (i.fdiv j)) else none
def oMod := oInt fun i j => if j ≠ 0 then some (.int (i.fmod j)) else none
def oPow := oInt fun i j => if 0 ≤ j ∧ j ≤ 1000000 ∧ i.natAbs < 2 ^ 64 then some (.int (i ^ j.toNat)) else none
def oEq : DV → DV → Sto → Option DV := fun x y st => match res st x, res st y with
  | some a, some b => if (SeqAt.shaped a && SeqAt.shaped b) = true then some (.d (.bool (PyData.eqv a b))) else none
  | _, _ => none
def oNe : DV → DV → Sto → Option DV := fun x y st => match res st x, res st y with
  | some a, some b => if (SeqAt.shaped a && SeqAt.shaped b) = true then some (.d (.bool (!PyData.eqv a b))) else none
  | _, _ => none
def ints? : List PyData → Option (List Int)
  | [] => some []
  | .int i :: r => (ints? r).map (i :: ·)
  | _ => none
def oLt : DV → DV → Sto → Option DV := fun x y st => match res st x, res st y with
  | some (.int i), some (.int j) => some (.d (.bool (decide (i < j))))
  | some (.tuple a), some (.tuple b) => match ints? a, ints? b with
    | some ns, some ms => some (.d (.bool (HT.lexLt ns ms)))
    | _, _ => none
  | _, _ => none
def oLe := oInt fun i j => some (.bool (decide (i ≤ j)))
def oGt := oInt fun i j => some (.bool (decide (j < i)))
def oGe := oInt fun i j => some (.bool (decide (j ≤ i)))
def isNon : DV → Bool
  | .d .none => true
  | _ => false
def oIsN : DV → DV → Sto → Option DV := fun x y _ => match y with
  | .d .none => some (.d (.bool (isNon x)))
  | .d (.bool b) => match x with
    | .d (.bool a) => some (.d (.bool (decide (a = b))))
    | _ => none
  | _ => none
def oNotN : DV → DV → Sto → Option DV := fun x y _ => match y with
  | .d .none => some (.d (.bool (!isNon x)))
  | .d (.bool b) => match x with
    | .d (.bool a) => some (.d (.bool (!decide (a = b))))
    | _ => none
  | _ => none
def inOf (x y : DV) (st : Sto) : Option Bool := match y with
  | .dk ks => match x with
    | .d (.int i) => some (ks.any fun k => decide (k = i))
    | _ => none
  | _ => match res st x, res st y with
    | some (.str a), some (.str b) => some (!(Builtin.Str.occurrences b a 0 b.length 1).isEmpty)
    | some a, some (.list ds) => if (SeqAt.shaped a && SeqAt.shaped (.list ds)) = true then some (ds.any fun z => PyData.eqv z a) else none
    | some a, some (.tuple ds) => if (SeqAt.shaped a && SeqAt.shaped (.tuple ds)) = true then some (ds.any fun z => PyData.eqv z a) else none
    | _, _ => none
def oIn : DV → DV → Sto → Option DV := fun x y st => (inOf x y st).map fun b => .d (.bool b)
def oNotIn : DV → DV → Sto → Option DV := fun x y st => (inOf x y st).map fun b => .d (.bool (!b))
def oNeg : DV → Sto → Option DV := fun x st => match res st x with
  | some (.int i) => some (.d (.int (-i)))
  | _ => none

/-! ### what an operation must keep -/
section
variable (K : PySem.W.Frag) (T : Tb)
def OpD (r : R2) (o : DV → DV → Sto → Option DV) : Prop := ∀ (W : Wd) (st : Sto) (H : Hp) (u v : V) (x y z : DV) (Q : VK), RelH K T W st H → RepV K W u x → RepV K W v y → o x y st = some z → okV K T W Q z st → r u v H Q
end
section
variable {K : PySem.W.Frag} {T : Tb} {W : Wd} {st : Sto} {H : Hp} {u v : V} {x y z : DV} {Q : VK}
theorem okV.here (h : okV K T W Q x st) (hH : RelH K T W st H) (q : RepV K W v x) : Q v H := h v H W (Wd.le.refl W) hH q
theorem okV.flat {p : PyData} (h : okV K T W Q (.d p) st) (hH : RelH K T W st H) (q : Dp K W.Hs v p) : Q v H := h.here hH q
/-- a new frozen list, tuple -/
theorem okV.lst {ds : List PyData} {vs : List V} (h : okV K T W Q (.d (.list ds)) st) (hH : RelH K T W st H) (q : DpAll K W.Hs vs ds) (l : vs.length ≤ sizeLine) : ∀ p, H p = none → Q (.ref p) (upd H p (.lst vs)) := fun p n =>
  h _ _ (W.put p (.lst vs)) (Wd.le_put (hH.fresh n)) (hH.put n l) (.lst (.inl (.inl (by show upd W.Hs p _ p = _; rw [upd_same]))) (dpall_mono (Wd.le_put (hH.fresh n)).1 _ _ q))
theorem okV.tup {ds : List PyData} {vs : List V} (h : okV K T W Q (.d (.tuple ds)) st) (hH : RelH K T W st H) (q : DpAll K W.Hs vs ds) (l : vs.length ≤ sizeLine) : ∀ p, H p = none → Q (.ref p) (upd H p (.tup vs)) := fun p n =>
  h _ _ (W.put p (.tup vs)) (Wd.le_put (hH.fresh n)) (hH.put n l) (.tup (.inl (.inl (by show upd W.Hs p _ p = _; rw [upd_same]))) (dpall_mono (Wd.le_put (hH.fresh n)).1 _ _ q))
theorem dpall_length {Hs : Hp} : ∀ {vs : List V} {ds : List PyData}, DpAll K Hs vs ds → vs.length = ds.length
  | _, _, .nil => rfl
  | _, _, .cons _ b => by rw [List.length_cons, List.length_cons, dpall_length b]
theorem dpall_append {Hs : Hp} : ∀ {vs ws : List V} {ds es : List PyData}, DpAll K Hs vs ds → DpAll K Hs ws es → DpAll K Hs (vs ++ ws) (ds ++ es)
  | _, _, _, _, .nil, h => h
  | _, _, _, _, .cons a b, h => .cons a (dpall_append b h)
theorem dpall_rep {Hs : Hp} {vs : List V} {ds : List PyData} (h : DpAll K Hs vs ds) : ∀ n : Nat, DpAll K Hs (List.replicate n vs).flatten (List.replicate n ds).flatten
  | 0 => .nil
  | n + 1 => by
    rw [List.replicate_succ, List.replicate_succ, List.flatten_cons, List.flatten_cons]
    exact dpall_append h (dpall_rep h n)
theorem dpall_get {Hs : Hp} : ∀ {vs : List V} {ds : List PyData} {i : Nat} {d : PyData}, DpAll K Hs vs ds → ds[i]? = some d → ∃ v, vs[i]? = some v ∧ Dp K Hs v d
  | _, _, _, _, .nil, e => by simp at e
  | _, _, 0, _, .cons a b, e => by
    simp at e
    subst e
    exact ⟨_, rfl, a⟩
  | _, _, i + 1, _, .cons a b, e => by
    simp at e
    simpa using dpall_get b e
/-- data, through the full heap -/
theorem RelH.res (hH : RelH K T W st H) {p : PyData} (q : RepV K W v x) (e : res st x = some p) : Dp K H v p := by
  cases x with
  | d p' =>
    cases e
    exact hH.dp q
  | mu k =>
    obtain ⟨a, rfl, ha⟩ := q
    obtain ⟨c, hc⟩ := hH.inL ha
    simp only [DL.res, hc] at e
    obtain ⟨_, q2⟩ := hH.sto k a c ha hc
    cases c with
    | lst ds =>
      cases e
      obtain ⟨vs, e1, _, e2⟩ := q2
      exact .lst (.inl (.inl e1)) (hH.dpall e2)
    | dk ks => cases e
    | clo _ => cases e
  | dk ks => cases e
  | dl kss => cases e
  | xl _ => cases e
theorem sql_len {Hs : Hp} {a : Addr} {xs : List V} (ok : ∀ p o, Hs p = some o → okFrz o) (h : SqL K Hs a xs) : xs.length ≤ sizeLine := by
  rcases h with (h | ⟨o, h⟩) | ⟨o, its, n, _, _, _, _, hz, r⟩
  · exact ok _ _ h
  · exact ok _ _ h
  · rw [r.length]
    simpa using hz
theorem sqt_len {Hs : Hp} {a : Addr} {xs : List V} (ok : ∀ p o, Hs p = some o → okFrz o) (h : SqT K Hs a xs) : xs.length ≤ sizeLine := by
  rcases h with (h | ⟨o, h⟩) | ⟨o, its, n, _, _, _, hz, r⟩
  · exact ok _ _ h
  · exact (ok _ _ h).elim
  · rw [r.length]
    simpa using hz
/-- a list: its place, its items frozen -/
theorem RelH.resL (hH : RelH K T W st H) {ds : List PyData} (q : RepV K W v x) (e : DL.res st x = some (.list ds)) : ∃ a vs, v = .ref a ∧ SqL K H a vs ∧ DpAll K W.Hs vs ds ∧ vs.length ≤ sizeLine := by
  cases x with
  | d p' =>
    cases e
    have q' : Dp K W.Hs v (.list ds) := q
    cases q' with
    | lst h1 h2 => exact ⟨_, _, rfl, sql_mono (fun p o e => (hH.frz p o e).1) h1, h2, sql_len (fun p o e => (hH.frz p o e).2) h1⟩
  | mu k =>
    obtain ⟨a, rfl, ha⟩ := q
    obtain ⟨c, hc⟩ := hH.inL ha
    simp only [DL.res, hc] at e
    obtain ⟨_, q2⟩ := hH.sto k a c ha hc
    cases c with
    | lst ds =>
      cases e
      obtain ⟨vs, e1, e3, e2⟩ := q2
      exact ⟨a, vs, rfl, .inl (.inl e1), e2, e3⟩
    | dk ks => cases e
    | clo _ => cases e
  | dk ks => cases e
  | dl kss => cases e
  | xl _ => cases e
theorem RelH.resT (hH : RelH K T W st H) {ds : List PyData} (q : RepV K W v x) (e : DL.res st x = some (.tuple ds)) : ∃ a vs, v = .ref a ∧ SqT K H a vs ∧ DpAll K W.Hs vs ds ∧ vs.length ≤ sizeLine := by
  cases x with
  | d p' =>
    cases e
    have q' : Dp K W.Hs v (.tuple ds) := q
    cases q' with
    | tup h1 h2 => exact ⟨_, _, rfl, sqt_mono (fun p o e => (hH.frz p o e).1) h1, h2, sqt_len (fun p o e => (hH.frz p o e).2) h1⟩
  | mu k =>
    obtain ⟨a, rfl, ha⟩ := q
    obtain ⟨c, hc⟩ := hH.inL ha
    simp only [DL.res, hc] at e
    cases c <;> cases e
  | dk ks => cases e
  | dl kss => cases e
  | xl _ => cases e
theorem RelH.resI (hH : RelH K T W st H) {i : Int} (q : RepV K W v x) (e : DL.res st x = some (.int i)) : v = .int i := by
  have := hH.res q e
  cases this
  rfl
theorem RelH.resS (hH : RelH K T W st H) {i : Str} (q : RepV K W v x) (e : DL.res st x = some (.str i)) : v = .str i := by
  have := hH.res q e
  cases this
  rfl
theorem RelH.resB (hH : RelH K T W st H) {i : Bool} (q : RepV K W v x) (e : DL.res st x = some (.bool i)) : v = .bl i := by
  have := hH.res q e
  cases this
  rfl
theorem dpall_ints {Hs : Hp} : ∀ {vs : List V} {ds : List PyData} {ns : List Int}, DpAll K Hs vs ds → ints? ds = some ns → vs = ns.map V.int
  | _, _, _, .nil, e => by
    cases e
    rfl
  | _, _, _, .cons (d := d) a b, e => by
    cases d with
    | int i =>
      obtain ⟨ms, e1, e2⟩ := Option.map_eq_some_iff.mp e
      subst e2
      cases a
      rw [dpall_ints b e1]
      rfl
    | none => cases e
    | bool _ => cases e
    | str _ => cases e
    | list _ => cases e
    | tuple _ => cases e
    | dict _ => cases e
theorem dpall_of_ints {Hs : Hp} : ∀ ns : List Int, DpAll K Hs (ns.map V.int) (ns.map PyData.int)
  | [] => .nil
  | n :: r => .cons (.int n) (dpall_of_ints r)
end

/-! ### the operators -/
section
variable {X : Cx} {T : Tb}
theorem opd_int {K : PySem.W.Frag} {r : R2} {g : Int → Int → Option PyData} (h : ∀ i j p H (Q : VK), g i j = some p → (∃ n, p = .int n ∧ (Q (.int n) H → r (.int i) (.int j) H Q)) ∨ ∃ b, p = .bool b ∧ (Q (.bl b) H → r (.int i) (.int j) H Q)) : OpD K T r (oInt g) := by
  intro W st H u v x y z Q hH ru rv e k
  unfold oInt at e
  split at e
  · rename_i i j e1 e2
    obtain ⟨p, e3, rfl⟩ := Option.map_eq_some_iff.mp e
    rw [hH.resI ru e1, hH.resI rv e2]
    rcases h i j p H Q e3 with ⟨n, rfl, q⟩ | ⟨b, rfl, q⟩
    · exact q (k.flat hH (.int n))
    · exact q (k.flat hH (.bl b))
  · cases e
theorem opd_sub {K : PySem.W.Frag} : OpD K T (rI0 fun i j => .int (i - j)) oSub := opd_int fun i j p H Q e => by
  cases e
  exact .inl ⟨_, rfl, fun q => ⟨i, j, rfl, rfl, q⟩⟩
theorem opd_mul {K : PySem.W.Frag} : OpD K T (rI CMul fun i j => .int (i * j)) oMul := opd_int fun i j p H Q e => by
  split at e
  · rename_i c
    cases e
    exact .inl ⟨_, rfl, fun q => ⟨i, j, rfl, rfl, c, q⟩⟩
  · cases e
theorem opd_fdiv {K : PySem.W.Frag} : OpD K T (rI CDivN fun i j => .int (i.fdiv j)) oFdiv := opd_int fun i j p H Q e => by
  split at e
  · rename_i c
    cases e
    exact .inl ⟨_, rfl, fun q => ⟨i, j, rfl, rfl, c, q⟩⟩
  · cases e
theorem opd_mod {K : PySem.W.Frag} : OpD K T (rI (fun _ j => j ≠ 0) fun i j => .int (i.fmod j)) oMod := opd_int fun i j p H Q e => by
  split at e
  · rename_i c
    cases e
    exact .inl ⟨_, rfl, fun q => ⟨i, j, rfl, rfl, c, q⟩⟩
  · cases e
theorem opd_pow {K : PySem.W.Frag} : OpD K T (rI CPow fun i j => .int (i ^ j.toNat)) oPow := opd_int fun i j p H Q e => by
  split at e
  · rename_i c
    cases e
    exact .inl ⟨_, rfl, fun q => ⟨i, j, rfl, rfl, c, q⟩⟩
  · cases e
theorem opd_le {K : PySem.W.Frag} : OpD K T (rI0 fun i j => .bl (decide (i ≤ j))) oLe := opd_int fun i j p H Q e => by
  cases e
  exact .inr ⟨_, rfl, fun q => ⟨i, j, rfl, rfl, q⟩⟩
theorem opd_gt {K : PySem.W.Frag} : OpD K T (rI0 fun i j => .bl (decide (j < i))) oGt := opd_int fun i j p H Q e => by
  cases e
  exact .inr ⟨_, rfl, fun q => ⟨i, j, rfl, rfl, q⟩⟩
theorem opd_ge {K : PySem.W.Frag} : OpD K T (rI0 fun i j => .bl (decide (j ≤ i))) oGe := opd_int fun i j p H Q e => by
  cases e
  exact .inr ⟨_, rfl, fun q => ⟨i, j, rfl, rfl, q⟩⟩

/-! list + list, whatever the lists are -/
def rCatS (K : PySem.W.Frag) : R2 := fun x y H Q => ∃ l b xs zs, x = .ref l ∧ y = .ref b ∧ SqL K H l xs ∧ SqL K H b zs ∧ xs.length + zs.length ≤ sizeLine ∧ ∀ p, H p = none → Q (.ref p) (upd H p (.lst (xs ++ zs)))
theorem op_catS : OpR X (binaryOp .Add) (rCatS X.K) := fun pins s σ H x y v u Q I rx ry ⟨l, b, xs, zs, ex, ey, h1, h2, fit, q⟩ => by
  subst ex ey
  cases rx
  cases ry
  obtain ⟨us, ru, ⟨⟨_, _, _, sa⟩, na, at1, c1, d1, f1⟩, _⟩ := I.list h1
  obtain ⟨ws, rw', ⟨⟨_, _, _, sb⟩, nb, at2, c2, d2, f2⟩, _⟩ := I.list h2
  simp only at c1 d1 f1 c2 d2 f2
  subst c1 d1 f1 c2 d2 f2
  have n1 : us.length = xs.length := ru.length.symm
  have n2 : ws.length = zs.length := rw'.length.symm
  have made := I.lnew (t' := s.toks) (ru.append rw') (by rw [List.length_append]; exact fit)
  have joined : us.toArray ++ ws.toArray = (us ++ ws).toArray := by simp
  have body := list_addW l b us.toArray ws.toArray na nb none none sa sb (by simpa [n1, n2] using fit)
  refine concat_meets ⟨_, at1, rfl⟩ ⟨_, at2, rfl⟩ noFill_list_add seq_list_add PySem.F.slot_list_add PySem.F.entry_list_add (PySem.F.args_list_add_2 _ _) body ⟨at1, at2, ?_⟩
  exact joined.symm ▸ ⟨.ref _, _, made, rfl, q _ I.fresh⟩
def rAddA (K : PySem.W.Frag) : R2 := fun x y H Q => (rI0 fun i j => .int (i + j)) x y H Q ∨ (∃ i j, x = .str i ∧ y = .str j ∧ i.length + j.length ≤ sizeLine ∧ Q (.str (i ++ j)) H) ∨ rCatS K x y H Q ∨ rCatA K x y H Q
theorem op_addA : OpR X (binaryOp .Add) (rAddA X.K) := op_add.or (op_add_str.or (op_catS.or op_catA))
theorem opd_add {K : PySem.W.Frag} : OpD K T (rAddA K) oAdd := by
  intro W st H u v x y z Q hH ru rv e k
  unfold oAdd at e
  split at e
  · rename_i i j e1 e2
    cases e
    exact .inl ⟨i, j, hH.resI ru e1, hH.resI rv e2, k.flat hH (.int _)⟩
  · rename_i a b e1 e2
    split at e
    · rename_i c
      cases e
      exact .inr (.inl ⟨a, b, hH.resS ru e1, hH.resS rv e2, c, k.flat hH (.str _)⟩)
    · cases e
  · rename_i a b e1 e2
    split at e
    · rename_i c
      cases e
      obtain ⟨p1, vs, rfl, h1, h2, h3⟩ := hH.resL ru e1
      obtain ⟨p2, ws, rfl, g1, g2, g3⟩ := hH.resL rv e2
      have l1 := dpall_length h2
      have l2 := dpall_length g2
      exact .inr (.inr (.inl ⟨p1, p2, vs, ws, rfl, rfl, h1, g1, by omega, k.lst hH (dpall_append h2 g2) (by rw [List.length_append]; omega)⟩))
    · cases e
  · rename_i a b e1 e2
    split at e
    · rename_i c
      cases e
      have tp : ∀ {st : Sto} {x : DV} {ds : List PyData}, res st x = some (.tuple ds) → x = .d (.tuple ds) := fun {st x ds} h => by
        cases x with
        | d p => cases h; rfl
        | mu k =>
          simp only [res] at h
          split at h <;> cases h
        | dk _ => cases h
        | dl _ => cases h
        | xl _ => cases h
      obtain ⟨p1, vs, rfl, h1, h2, h3⟩ := hH.resT ru e1
      obtain ⟨p2, ws, rfl, g1, g2, g3⟩ := hH.resT rv e2
      have l1 := dpall_length h2
      have l2 := dpall_length g2
      have x1 := tp e1
      have x2 := tp e2
      subst x1 x2
      refine .inr (.inr (.inr ⟨p1, p2, vs, ws, rfl, rfl, h1, g1, by omega, fun z => ?_, fun _ z => ?_, fun _ _ => k.tup hH (dpall_append h2 g2) (by rw [List.length_append]; omega)⟩))
      · subst z
        cases h2
        exact k.here hH rv
      · subst z
        cases g2
        rw [List.append_nil] at k
        exact k.here hH ru
    · cases e
  · cases e

/-! comparisons -/
theorem opd_eq {K : PySem.W.Frag} : OpD K T (rEqD K) oEq := by
  intro W st H u v x y z Q hH ru rv e k
  unfold oEq at e
  split at e
  · rename_i a b e1 e2
    split at e
    · rename_i c
      cases e
      rw [Bool.and_eq_true] at c
      exact ⟨a, b, hH.res ru e1, hH.res rv e2, c.1, c.2, k.flat hH (.bl _)⟩
    · cases e
  · cases e
theorem opd_ne {K : PySem.W.Frag} : OpD K T (rNeD K) oNe := by
  intro W st H u v x y z Q hH ru rv e k
  unfold oNe at e
  split at e
  · rename_i a b e1 e2
    split at e
    · rename_i c
      cases e
      rw [Bool.and_eq_true] at c
      exact ⟨a, b, hH.res ru e1, hH.res rv e2, c.1, c.2, k.flat hH (.bl _)⟩
    · cases e
  · cases e
def rLtA (K : PySem.W.Frag) : R2 := fun x y H Q => (rI0 fun i j => .bl (decide (i < j))) x y H Q ∨ rLtT K x y H Q
theorem op_ltA (hu : X.A.units < cLine) : OpR X (compareOp .Lt) (rLtA X.K) := op_lt.or (op_ltT hu)
theorem opd_lt {K : PySem.W.Frag} : OpD K T (rLtA K) oLt := by
  intro W st H u v x y z Q hH ru rv e k
  unfold oLt at e
  split at e
  · rename_i i j e1 e2
    cases e
    exact .inl ⟨i, j, hH.resI ru e1, hH.resI rv e2, k.flat hH (.bl _)⟩
  · rename_i a b e1 e2
    split at e
    · rename_i ns ms e3 e4
      cases e
      obtain ⟨p1, vs, rfl, h1, h2, h3⟩ := hH.resT ru e1
      obtain ⟨p2, ws, rfl, g1, g2, g3⟩ := hH.resT rv e2
      rw [dpall_ints h2 e3] at h1
      rw [dpall_ints g2 e4] at g1
      exact .inr ⟨p1, p2, ns, ms, rfl, rfl, h1, g1, k.flat hH (.bl _)⟩
    · cases e
  · cases e
/-- is, is not: None or a truth value on the right -/
def rIsA : R2 := fun x y H Q => (y = .non ∧ Q (.bl (decide (x = .non))) H) ∨ rIsB x y H Q
def rNotA : R2 := fun x y H Q => (y = .non ∧ Q (.bl (!decide (x = .non))) H) ∨ rNotB x y H Q
theorem op_isA : OpR X (compareOp .Is) rIsA := op_isN.or op_isBl
theorem op_notA : OpR X (compareOp .IsNot) rNotA := op_notN.or op_notBl
theorem isNon_rep {K : PySem.W.Frag} {W : Wd} {v : V} : ∀ {x : DV}, RepV K W v x → decide (v = .non) = isNon x
  | .d p, h => by
    cases (show Dp K W.Hs v p from h) <;> rfl
  | .dk _, ⟨a, e, _⟩ => by
    subst e
    rfl
  | .dl _, ⟨a, _, e, _⟩ => by
    subst e
    rfl
  | .mu _, ⟨a, e, _⟩ => by
    subst e
    rfl
  | .xl _, ⟨a, _, e, _⟩ => by
    subst e
    rfl
theorem opd_is {K : PySem.W.Frag} : OpD K T rIsA oIsN := by
  intro W st H u v x y z Q hH ru rv e k
  unfold oIsN at e
  split at e
  · cases e
    cases (show Dp K W.Hs v .none from rv)
    refine .inl ⟨rfl, ?_⟩
    rw [isNon_rep ru]
    exact k.flat hH (.bl _)
  · split at e
    · cases e
      cases (show Dp K W.Hs v (.bool _) from rv)
      cases (show Dp K W.Hs u (.bool _) from ru)
      exact .inr ⟨_, _, rfl, rfl, k.flat hH (.bl _)⟩
    · cases e
  · cases e
theorem opd_not {K : PySem.W.Frag} : OpD K T rNotA oNotN := by
  intro W st H u v x y z Q hH ru rv e k
  unfold oNotN at e
  split at e
  · cases e
    cases (show Dp K W.Hs v .none from rv)
    refine .inl ⟨rfl, ?_⟩
    rw [isNon_rep ru]
    exact k.flat hH (.bl _)
  · split at e
    · cases e
      cases (show Dp K W.Hs v (.bool _) from rv)
      cases (show Dp K W.Hs u (.bool _) from ru)
      exact .inr ⟨_, _, rfl, rfl, k.flat hH (.bl _)⟩
    · cases e
  · cases e

/-! in, not in -/
def rInT (K : PySem.W.Frag) (neg : Bool) : R2 := fun x y H Q => ∃ d ds, Dp K H x d ∧ (Dp K H y (.list ds) ∧ SeqAt.shaped (.list ds) = true ∨ Dp K H y (.tuple ds) ∧ SeqAt.shaped (.tuple ds) = true) ∧ SeqAt.shaped d = true ∧ Q (.bl (if neg then !ds.any fun z => PyData.eqv z d else ds.any fun z => PyData.eqv z d)) H
theorem op_inT (hu : X.A.units + 65 < cLine) : OpR X (compareOp .In) (rInT X.K false) := by
  intro pins s σ H x y v u Q I rx ry h
  obtain ⟨d, ds, hd, he | he, sd, q⟩ := h
  · obtain ⟨as, r1⟩ := Dp.reads I d x v hd rx
    obtain ⟨bs, r2⟩ := Dp.reads I (.list ds) y u he.1 ry
    exact SeqAt.in_list_reads r2 r1 (SeqAt.canLay_of_shaped he.2) (SeqAt.canLay_of_shaped sd) (room_in_shaped sd hu) ⟨.bl _, H, I, rfl, q⟩
  · obtain ⟨as, r1⟩ := Dp.reads I d x v hd rx
    obtain ⟨bs, r2⟩ := Dp.reads I (.tuple ds) y u he.1 ry
    exact SeqAt.in_tuple_reads r2 r1 (SeqAt.canLay_of_shaped he.2) (SeqAt.canLay_of_shaped sd) (room_in_shaped sd hu) ⟨.bl _, H, I, rfl, q⟩
theorem op_notInT (hu : X.A.units + 65 < cLine) : OpR X (compareOp .NotIn) (rInT X.K true) := by
  intro pins s σ H x y v u Q I rx ry h
  obtain ⟨d, ds, hd, he | he, sd, q⟩ := h
  · obtain ⟨as, r1⟩ := Dp.reads I d x v hd rx
    obtain ⟨bs, r2⟩ := Dp.reads I (.list ds) y u he.1 ry
    exact SeqAt.notIn_list_reads r2 r1 (SeqAt.canLay_of_shaped he.2) (SeqAt.canLay_of_shaped sd) (room_in_shaped sd hu) ⟨.bl _, H, I, rfl, q⟩
  · obtain ⟨as, r1⟩ := Dp.reads I d x v hd rx
    obtain ⟨bs, r2⟩ := Dp.reads I (.tuple ds) y u he.1 ry
    exact SeqAt.notIn_tuple_reads r2 r1 (SeqAt.canLay_of_shaped he.2) (SeqAt.canLay_of_shaped sd) (room_in_shaped sd hu) ⟨.bl _, H, I, rfl, q⟩
def rInK (neg : Bool) : R2 := fun x y H Q => ∃ a ks i, y = .ref a ∧ x = .int i ∧ Rd H a (.dK (tmap ks)) ∧ Q (.bl (if neg then !(ks.any fun k => decide (k = i)) else ks.any fun k => decide (k = i))) H
theorem valV_tmap (i : Int) : ∀ ks : List Int, (valV (tmap ks) (.inl i)).isSome = ks.any fun k => decide (k = i)
  | [] => rfl
  | k :: r => by
    have ih := valV_tmap i r
    unfold valV tmap at ih ⊢
    rw [List.map_cons, List.find?_cons, List.any_cons]
    by_cases h : k = i
    · subst h
      simp
    · have h2 : ¬ (Sum.inl k : Key) = Sum.inl i := fun z => h (Sum.inl.inj z)
      simp only [h, h2, decide_false, Bool.false_or]
      exact ih
theorem op_inK (hu : X.A.units + 1 < cLine) : OpR X (compareOp .In) (rInK false) := by
  intro pins s σ H x y v u Q I rx ry h
  obtain ⟨a, ks, i, rfl, rfl, hd, q⟩ := h
  cases ry
  refine d_in hu I (o := valV (tmap ks) (.inl i)) (.inl ⟨tmap ks, .inl i, hd, rfl, rfl⟩) rx fun s' I' => ?_
  rw [valV_tmap]
  exact ⟨.bl _, H, I', rfl, q⟩
theorem op_notInK (hu : X.A.units + 1 < cLine) : OpR X (compareOp .NotIn) (rInK true) := by
  intro pins s σ H x y v u Q I rx ry h
  obtain ⟨a, ks, i, rfl, rfl, hd, q⟩ := h
  cases ry
  refine d_notIn hu I (o := valV (tmap ks) (.inl i)) (.inl ⟨tmap ks, .inl i, hd, rfl, rfl⟩) rx fun s' I' => ?_
  rw [valV_tmap]
  exact ⟨.bl _, H, I', rfl, q⟩
def rInA (K : PySem.W.Frag) : R2 := fun x y H Q => rInT K false x y H Q ∨ rInK false x y H Q ∨ ∃ i j, x = .str i ∧ y = .str j ∧ Q (.bl (!(Builtin.Str.occurrences j i 0 j.length 1).isEmpty)) H
def rNotInA (K : PySem.W.Frag) : R2 := fun x y H Q => rInT K true x y H Q ∨ rInK true x y H Q ∨ ∃ i j, x = .str i ∧ y = .str j ∧ Q (.bl (!(!(Builtin.Str.occurrences j i 0 j.length 1).isEmpty))) H
theorem op_inA (hu : X.A.units + 65 < cLine) : OpR X (compareOp .In) (rInA X.K) := (op_inT hu).or ((op_inK (by omega)).or op_in_str)
theorem op_notInA (hu : X.A.units + 65 < cLine) : OpR X (compareOp .NotIn) (rNotInA X.K) := (op_notInT hu).or ((op_notInK (by omega)).or op_notin_str)
theorem opd_in {K : PySem.W.Frag} : OpD K T (rInA K) oIn := by
  intro W st H u v x y z Q hH ru rv e k
  obtain ⟨b, e0, rfl⟩ := Option.map_eq_some_iff.mp e
  clear e
  have e := e0
  clear e0
  unfold inOf at e
  split at e
  · split at e
    · rename_i ks _ i
      cases e
      cases (show Dp K W.Hs u (.int _) from ru)
      obtain ⟨a, rfl, hd⟩ := rv
      exact .inr (.inl ⟨a, ks, i, rfl, rfl, hH.rd hd, k.flat hH (.bl _)⟩)
    · cases e
  · split at e
    · rename_i a b e1 e2
      cases e
      exact .inr (.inr ⟨a, b, hH.resS ru e1, hH.resS rv e2, k.flat hH (.bl _)⟩)
    · rename_i a ds e1 e2
      split at e
      · rename_i c
        cases e
        rw [Bool.and_eq_true] at c
        exact .inl ⟨a, ds, hH.res ru e1, .inl ⟨hH.res rv e2, c.2⟩, c.1, k.flat hH (.bl _)⟩
      · cases e
    · rename_i a ds e1 e2
      split at e
      · rename_i c
        cases e
        rw [Bool.and_eq_true] at c
        exact .inl ⟨a, ds, hH.res ru e1, .inr ⟨hH.res rv e2, c.2⟩, c.1, k.flat hH (.bl _)⟩
      · cases e
    · cases e
theorem opd_notIn {K : PySem.W.Frag} : OpD K T (rNotInA K) oNotIn := by
  intro W st H u v x y z Q hH ru rv e k
  obtain ⟨b, e0, rfl⟩ := Option.map_eq_some_iff.mp e
  clear e
  have e := e0
  clear e0
  unfold inOf at e
  split at e
  · split at e
    · rename_i ks _ i
      cases e
      cases (show Dp K W.Hs u (.int _) from ru)
      obtain ⟨a, rfl, hd⟩ := rv
      exact .inr (.inl ⟨a, ks, i, rfl, rfl, hH.rd hd, k.flat hH (.bl _)⟩)
    · cases e
  · split at e
    · rename_i a b e1 e2
      cases e
      exact .inr (.inr ⟨a, b, hH.resS ru e1, hH.resS rv e2, k.flat hH (.bl _)⟩)
    · rename_i a ds e1 e2
      split at e
      · rename_i c
        cases e
        rw [Bool.and_eq_true] at c
        exact .inl ⟨a, ds, hH.res ru e1, .inl ⟨hH.res rv e2, c.2⟩, c.1, k.flat hH (.bl _)⟩
      · cases e
    · rename_i a ds e1 e2
      split at e
      · rename_i c
        cases e
        rw [Bool.and_eq_true] at c
        exact .inl ⟨a, ds, hH.res ru e1, .inr ⟨hH.res rv e2, c.2⟩, c.1, k.flat hH (.bl _)⟩
      · cases e
    · cases e
end
end DL
end
section
/-! D3: expressions, tests, arguments, statements, defs. -/
namespace DL
open PySem PySem.Spec PyProof.Rows L2

/-! ### mirrors -/
def eVar (i : Nat) : EF := fun r st => match r[i]? with
  | some (some v) => some (.ok v, st)
  | _ => none
def eC (p : PyData) : EF := fun _ => ret (.d p)
def eOp (o : DV → DV → Sto → Option DV) (a b : EF) : EF := fun r => bnd (a r) fun x => bnd (b r) fun y => lft (o x y)
def eUn (o : DV → Sto → Option DV) (a : EF) : EF := fun r => bnd (a r) fun x => lft (o x)
def bool? : DV → Option Bool
  | .d (.bool b) => some b
  | _ => none
def tVal (a : EF) : TF := fun r => bnd (a r) fun x => lft fun _ => bool? x
def truth? (st : Sto) (x : DV) : Option Bool := match res st x with
  | some .none => some false
  | some (.bool b) => some b
  | some (.int i) => some (i != 0)
  | some (.str s) => if s.length ≤ sizeLine then some ((s.length : Int) != 0) else none
  | some (.list ds) => some (!ds.isEmpty)
  | some (.tuple ds) => some (!ds.isEmpty)
  | _ => none
def tTru (a : EF) : TF := fun r => bnd (a r) fun x => lft fun st => truth? st x
def tAnd (a b : TF) : TF := fun r => bnd (a r) fun c => match c with
  | true => b r
  | false => ret false
def tOr (a b : TF) : TF := fun r => bnd (a r) fun c => match c with
  | true => ret true
  | false => b r
def tNot (a : TF) : TF := fun r => bnd (a r) fun c => ret (!c)
def eAnd (a b : EF) : EF := fun r => bnd (a r) fun x => bnd (lft fun _ => bool? x) fun c => match c with
  | true => b r
  | false => ret (.d (.bool false))
def eOr (a b : EF) : EF := fun r => bnd (a r) fun x => bnd (lft fun _ => bool? x) fun c => match c with
  | true => ret (.d (.bool true))
  | false => b r
def eNot (a : EF) : EF := fun r => bnd (a r) fun x => bnd (lft fun _ => bool? x) fun c => ret (.d (.bool !c))
def eIf (t : TF) (a b : EF) : EF := fun r => bnd (t r) fun c => match c with
  | true => a r
  | false => b r
def eChain (o o' : DV → DV → Sto → Option DV) (a b c : EF) : EF := fun r => bnd (a r) fun x => bnd (b r) fun y => bnd (lft (o x y)) fun z => bnd (lft fun _ => bool? z) fun k => match k with
  | true => bnd (c r) fun w => lft (o' y w)
  | false => ret (.d (.bool false))
def aNil : AF := fun _ => ret []
def aCons (a : EF) (b : AF) : AF := fun r => bnd (a r) fun x => bnd (b r) fun xs => ret (x :: xs)
/-- items that may stand in frozen data -/
def pds : List DV → Option (List PyData)
  | [] => some []
  | .d p :: r => (pds r).map (p :: ·)
  | _ => none
def eTup (a : AF) : EF := fun r => bnd (a r) fun xs => lft fun _ => if xs.length ≤ sizeLine then (pds xs).map fun ds => .d (.tuple ds) else none
def eLst (a : AF) : EF := fun r => bnd (a r) fun xs => lft fun _ => if xs.length ≤ sizeLine then (pds xs).map fun ds => .d (.list ds) else none
/-- a new list that will be changed: a store place -/
def eLstM (a : AF) : EF := fun r => bnd (a r) fun xs st => match (if xs.length ≤ sizeLine then pds xs else none) with
  | some ds => some (.ok (.mu st.length), st ++ [.lst ds])
  | none => none
def eDctM : EF := fun _ st => some (.ok (.mu st.length), st ++ [.dk []])
def eRep (a : AF) (b : EF) : EF := fun r => bnd (a r) fun xs => bnd (lft fun _ => if xs.length ≤ sizeLine then pds xs else none) fun ds => bnd (b r) fun k => lft fun st => match res st k with
  | some (.int k) => if -(2 ^ 63) ≤ k ∧ k < 2 ^ 63 ∧ ds.length * k.toNat ≤ sizeLine then some (.d (.list (List.replicate k.toNat ds).flatten)) else none
  | _ => none
/-- calls by values -/
def eCall (F : List DV → MM DV) (a : AF) : EF := fun r => bnd (a r) F
def fB (g : List DV → Sto → Option DV) : List DV → MM DV := fun xs => lft (g xs)

/-! statements -/
def sNx : SF := fun r st => some (.fl .nx r, st)
def sSeq (a b : SF) : SF := fun r st => match a r st with
  | some (.fl .nx r', st') => b r' st'
  | x => x
def sBind {α : Type} (m : MM α) (r : Rho) (k : α → Sto → Option (SR × Sto)) : Sto → Option (SR × Sto) := fun st => match m st with
  | none => none
  | some (.ok a, st') => k a st'
  | some (.er x, st') => some (.er x r, st')
def sExpr (a : EF) : SF := fun r => sBind (a r) r fun _ st => some (.fl .nx r, st)
def sRet (a : EF) : SF := fun r => sBind (a r) r fun x st => some (.fl (.rt x) r, st)
def sIf (t : TF) (a b : SF) : SF := fun r => sBind (t r) r fun c st => match c with
  | true => a r st
  | false => b r st
def sSet (i : Nat) (a : EF) : SF := fun r => sBind (a r) r fun x st => some (.fl .nx (r.set i (some x)), st)
def sBrk : SF := fun r st => some (.fl .bk r, st)
def sCont : SF := fun r st => some (.fl .ct r, st)
/-- a target: the slots behind the store -/
abbrev GF := DV → Rho → Sto → Option Rho
def gV (i : Nat) : GF := fun x r _ => some (r.set i (some x))
def gNilF : List PyData → Rho → Option Rho
  | [], r => some r
  | _, _ => none
def gConsF (i : Nat) (k : List PyData → Rho → Option Rho) : List PyData → Rho → Option Rho
  | p :: ps, r => k ps (r.set i (some (.d p)))
  | [], _ => none
def gT (k : List PyData → Rho → Option Rho) : GF := fun x r st => match res st x with
  | some (.tuple ds) => k ds r
  | _ => none
def sAsg (a : EF) (g : GF) : SF := fun r => sBind (a r) r fun x st => match g x r st with
  | some r' => some (.fl .nx r', st)
  | none => none

/-! a def -/
def itOk (n : Nat) : It1 → Bool
  | .m k => decide (k < n)
  | _ => true
def fz (st : Sto) (n : Nat) : DV → Option DV
  | .mu k => if k < n then some (.mu k) else match st[k]? with
    | some (.lst ds) => some (.d (.list ds))
    | some (.dk ks) => some (.dk ks)
    | _ => none
  | .xl xs => if xs.all (itOk n) = true then some (.xl xs) else none
  | x => some x
def startR (N : Nat) (xs : List DV) : Rho := xs.map some ++ List.replicate (N - xs.length) none
def runB (N : Nat) (b : SF) (xs : List DV) : MM DV := fun st => match b (startR N xs) st with
  | some (.fl .nx _, st') => some (.ok (.d .none), st'.take st.length)
  | some (.fl (.rt x) _, st') => (fz st' st.length x).map fun y => (.ok y, st'.take st.length)
  | some (.er x _, st') => some (.er x, st'.take st.length)
  | _ => none

/-! ### expressions -/
section
variable {X : Cx} {T : Tb} {Wx : WX} {e a b c : Expr} {pos : Pos}
theorem de_var {i : Nat} {x : Str} (h : PE X (.Name x pos) (tVar i)) : DE X T Wx (.Name x pos) (eVar i) := PE.imp h fun σ H Q ⟨r, st, W, hH, hS, o⟩ => by
  unfold eVar at o
  split at o
  · rename_i v e
    obtain ⟨w, e1, q⟩ := hS.at_ i v e
    exact ⟨w, e1, o w H W (Wd.le.refl W) hH q⟩
  · exact o.elim
theorem de_vc {v : V} {p : PyData} (h : PE X e (tC v)) (q : ∀ Hs, Dp X.K Hs v p) : DE X T Wx e (eC p) := PE.imp h fun σ H Q ⟨r, st, W, hH, hS, o⟩ => by
  exact o v H W (Wd.le.refl W) hH (q _)
theorem de_int {i j} : DE X T Wx (.Constant (.int i) j pos) (eC (.int i)) := de_vc pe_int fun _ => .int i
theorem de_bl {i j} : DE X T Wx (.Constant (.bool i) j pos) (eC (.bool i)) := de_vc pe_bl fun _ => .bl i
theorem de_str {i j} : DE X T Wx (.Constant (.str i) j pos) (eC (.str i)) := de_vc pe_str fun _ => .str i
theorem de_non {j} : DE X T Wx (.Constant .none j pos) (eC .none) := de_vc pe_non fun _ => .non
theorem de_op {op : Operator} {r : R2} {o : DV → DV → Sto → Option DV} {fa fb : EF} (ho : OpR X (binaryOp op) r) (hd : OpD X.K T r o) (ha : DE X T Wx a fa) (hb : DE X T Wx b fb) : DE X T Wx (.BinOp a op b pos) (eOp o fa fb) :=
  PE.imp (pe_op ho ha hb) fun σ H Q ⟨r, st, W, hH, hS, h⟩ => by
    refine td_bnd hH hS h fun x st1 v H1 W1 l1 h1 rv s1 h => ?_
    refine td_bnd h1 s1 (h.mono (fun _ _ q => q) fun _ _ q => q.mono l1) fun y st2 u H2 W2 l2 h2 ru s2 h => ?_
    obtain ⟨z, e, k⟩ := h.lft
    exact hd W2 st2 H2 v u x y z Q h2 (rv.mono l2) ru e (k.mono (l1.trans l2))
theorem de_cmp {op : CmpOp} {r : R2} {o : DV → DV → Sto → Option DV} {fa fb : EF} (ho : OpR X (compareOp op) r) (hd : OpD X.K T r o) (ha : DE X T Wx a fa) (hb : DE X T Wx b fb) (hm : behindInMarks op b = false := by rfl) : DE X T Wx (.Compare a [op] [b] pos) (eOp o fa fb) :=
  PE.imp (pe_cmpR ho ha hb hm) fun σ H Q ⟨r, st, W, hH, hS, h⟩ => by
    refine td_bnd hH hS h fun x st1 v H1 W1 l1 h1 rv s1 h => ?_
    refine td_bnd h1 s1 (h.mono (fun _ _ q => q) fun _ _ q => q.mono l1) fun y st2 u H2 W2 l2 h2 ru s2 h => ?_
    obtain ⟨z, e, k⟩ := h.lft
    exact hd W2 st2 H2 v u x y z Q h2 (rv.mono l2) ru e (k.mono (l1.trans l2))
theorem bool_rep {K : PySem.W.Frag} {W : Wd} {v : V} {x : DV} {k : Bool} (q : RepV K W v x) (e : bool? x = some k) : v = .bl k := by
  unfold bool? at e
  split at e
  · cases e
    cases (show Dp K W.Hs v (.bool _) from q)
    rfl
  · cases e
theorem de_chain {op op' : CmpOp} {r r' : R2} {o o' : DV → DV → Sto → Option DV} {fa fb fc : EF} (ho : OpR X (compareOp op) r) (ho' : OpR X (compareOp op') r') (hd : OpD X.K T r o) (hd' : OpD X.K T r' o')
    (ha : DE X T Wx a fa) (hb : DE X T Wx b fb) (hc : DE X T Wx c fc) (p : PE X (.Compare a [op, op'] [b, c] pos) (tChain r r' (tD X.K X.mg T Wx fa) (tD X.K X.mg T Wx fb) (tD X.K X.mg T Wx fc))) : DE X T Wx (.Compare a [op, op'] [b, c] pos) (eChain o o' fa fb fc) :=
  PE.imp p fun σ H Q ⟨r, st, W, hH, hS, h⟩ => by
    refine td_bnd hH hS h fun x st1 v H1 W1 l1 h1 rv s1 h => ?_
    refine td_bnd h1 s1 (h.mono (fun _ _ q => q) fun _ _ q => q.mono l1) fun y st2 u H2 W2 l2 h2 ru s2 h => ?_
    obtain ⟨z, e, k⟩ := h.bnd.lft
    refine hd W2 st2 H2 v u x y z _ h2 (rv.mono l2) ru e fun zv H3 W3 l3 h3 rz => ?_
    obtain ⟨kb, ek, k⟩ := k.bnd.lft
    refine ⟨kb, bool_rep rz ek, ?_⟩
    cases kb with
    | true =>
      show tD X.K X.mg T Wx fc σ H3 _
      refine td_bnd h3 (s2.mono l3) (k.mono (fun _ _ q => q) fun _ _ q => q.mono (l2.trans l3)) fun w st4 t H4 W4 l4 h4 rt s4 h => ?_
      obtain ⟨z2, e2, k2⟩ := h.lft
      exact hd' W4 st4 H4 u t y w z2 Q h4 (ru.mono (l3.trans l4)) rt e2 (k2.mono (l1.trans (l2.trans (l3.trans l4))))
    | false => exact k _ _ W3 (l1.trans (l2.trans l3)) h3 (.bl false)

/-! tests -/
theorem dt_val {fa : EF} (ha : DE X T Wx a fa) (he : ∀ whole, isTrue a X.env whole = (do let v ← whole; standAt a.pos; holding [v] (truthy v)) := by intro _; rfl) : DT X T Wx a (tVal fa) :=
  PT.imp (pt_val ha he) fun σ H Q ⟨r, st, W, hH, hS, h⟩ => by
    refine td_bnd hH hS h fun x st1 v H1 W1 l1 h1 rv s1 h => ?_
    obtain ⟨z, e, k⟩ := h.lft
    exact ⟨z, bool_rep rv e, k H1 W1 l1 h1⟩
theorem dt_cmp {op : CmpOp} {r : R2} {o : DV → DV → Sto → Option DV} {fa fb : EF} (ho : OpR X (compareOp op) r) (hd : OpD X.K T r o) (ha : DE X T Wx a fa) (hb : DE X T Wx b fb) (hm : behindInMarks op b = false := by rfl) : DT X T Wx (.Compare a [op] [b] pos) (tVal (eOp o fa fb)) :=
  PT.imp (pt_cmpR ho ha hb hm) fun σ H Q ⟨r, st, W, hH, hS, h⟩ => by
    have h' := h.bnd
    refine td_bnd hH hS h' fun x st1 v H1 W1 l1 h1 rv s1 h => ?_
    refine td_bnd h1 s1 (h.mono (fun _ _ q => q) fun _ _ q => q.mono l1) fun y st2 u H2 W2 l2 h2 ru s2 h => ?_
    obtain ⟨z, e, k⟩ := h.lft
    refine hd W2 st2 H2 v u x y z _ h2 (rv.mono l2) ru e fun zv H3 W3 l3 h3 rz => ?_
    obtain ⟨kb, ek, k⟩ := k.lft
    exact ⟨kb, bool_rep rz ek, k H3 W3 (l1.trans (l2.trans l3)) h3⟩
theorem dt_chain {op op' : CmpOp} {r r' : R2} {o o' : DV → DV → Sto → Option DV} {fa fb fc : EF} (h : DE X T Wx (.Compare a [op, op'] [b, c] pos) (eChain o o' fa fb fc)) (p : ∀ t, PE X (.Compare a [op, op'] [b, c] pos) t → PT X (.Compare a [op, op'] [b, c] pos) (tTest t)) : DT X T Wx (.Compare a [op, op'] [b, c] pos) (tVal (eChain o o' fa fb fc)) :=
  PT.imp (p _ h) fun σ H Q ⟨r, st, W, hH, hS, h⟩ => by
    refine td_bnd hH hS h fun x st1 v H1 W1 l1 h1 rv s1 h => ?_
    obtain ⟨z, e, k⟩ := h.lft
    exact ⟨z, bool_rep rv e, k H1 W1 l1 h1⟩
theorem dt_truth {fa : EF} (ha : DE X T Wx a fa) (he : ∀ whole, isTrue a X.env whole = (do let v ← whole; standAt a.pos; holding [v] (truthy v)) := by intro _; rfl) : DT X T Wx a (tTru fa) :=
  PT.imp (pt_truth ha he) fun σ H Q ⟨r, st, W, hH, hS, h⟩ => by
    refine td_bnd hH hS h fun x st1 v H1 W1 l1 h1 rv s1 h => ?_
    obtain ⟨z, e, k⟩ := h.lft
    refine ⟨z, ?_, k H1 W1 l1 h1⟩
    unfold truth? at e
    split at e
    · rename_i e1
      cases e
      cases h1.res rv e1
      rfl
    · rename_i e1
      cases e
      cases h1.res rv e1
      rfl
    · rename_i e1
      cases e
      cases h1.res rv e1
      rfl
    · rename_i e1
      split at e
      · rename_i hl
        cases e
        cases h1.res rv e1
        exact ⟨hl, rfl⟩
      · cases e
    · rename_i ds e1
      cases e
      obtain ⟨p, vs, rfl, q1, q2, q3⟩ := h1.resL rv e1
      refine .inl ⟨vs, q1, ?_⟩
      cases q2 <;> rfl
    · rename_i ds e1
      cases e
      obtain ⟨p, vs, rfl, q1, q2, q3⟩ := h1.resT rv e1
      refine .inr (.inl ⟨vs, q1, ?_⟩)
      cases q2 <;> rfl
    · cases e
theorem dw_and1 {fa : TF} (ha : DT X T Wx a fa) : DW X T Wx (.BoolOp .And [a] pos) fa := pw_and1 ha
theorem dw_or1 {fa : TF} (ha : DT X T Wx a fa) : DW X T Wx (.BoolOp .Or [a] pos) fa := pw_or1 ha
theorem dw_and {fa fb : TF} {rest : List Expr} (ha : DT X T Wx a fa) (hb : DW X T Wx (.BoolOp .And (b :: rest) pos) fb) : DW X T Wx (.BoolOp .And (a :: b :: rest) pos) (DL.tAnd fa fb) :=
  PW.imp (pw_and ha hb) fun σ H Q ⟨r, st, W, hH, hS, h⟩ => by
    refine ttd_bnd hH hS h fun x st1 H1 W1 l1 h1 s1 h => ?_
    cases x with
    | true =>
      show ttD X.K X.mg T Wx fb σ H1 Q
      exact ttd_go l1 h1 s1 h
    | false => exact h H1 W1 l1 h1
theorem dw_or {fa fb : TF} {rest : List Expr} (ha : DT X T Wx a fa) (hb : DW X T Wx (.BoolOp .Or (b :: rest) pos) fb) : DW X T Wx (.BoolOp .Or (a :: b :: rest) pos) (DL.tOr fa fb) :=
  PW.imp (pw_or ha hb) fun σ H Q ⟨r, st, W, hH, hS, h⟩ => by
    refine ttd_bnd hH hS h fun x st1 H1 W1 l1 h1 s1 h => ?_
    cases x with
    | true => exact h H1 W1 l1 h1
    | false =>
      show ttD X.K X.mg T Wx fb σ H1 Q
      exact ttd_go l1 h1 s1 h
theorem dw_pt {fa : TF} (h : DW X T Wx a fa) : DT X T Wx a fa := PW.pt h
theorem dt_not {fa : TF} (ha : DT X T Wx a fa) : DT X T Wx (.UnaryOp .Not a pos) (DL.tNot fa) :=
  PT.imp (pt_not ha) fun σ H Q ⟨r, st, W, hH, hS, h⟩ => ttd_bnd hH hS h fun x st1 H1 W1 l1 h1 s1 h => h H1 W1 l1 h1
theorem de_one {op} {fa : EF} (h : DE X T Wx a fa) : DE X T Wx (.BoolOp op [a] pos) fa := pe_one h
theorem de_and {fa fb : EF} {rest : List Expr} (ha : DE X T Wx a fa) (hb : DE X T Wx (.BoolOp .And (b :: rest) pos) fb) : DE X T Wx (.BoolOp .And (a :: b :: rest) pos) (eAnd fa fb) :=
  PE.imp (pe_and ha hb) fun σ H Q ⟨r, st, W, hH, hS, h⟩ => by
    refine td_bnd hH hS h fun x st1 v H1 W1 l1 h1 rv s1 h => ?_
    obtain ⟨z, e, k⟩ := h.bnd.lft
    refine ⟨z, bool_rep rv e, ?_⟩
    cases z with
    | true =>
      show tD X.K X.mg T Wx fb σ H1 Q
      exact td_go l1 h1 s1 k
    | false => exact k _ H1 W1 l1 h1 (.bl false)
theorem de_or {fa fb : EF} {rest : List Expr} (ha : DE X T Wx a fa) (hb : DE X T Wx (.BoolOp .Or (b :: rest) pos) fb) : DE X T Wx (.BoolOp .Or (a :: b :: rest) pos) (eOr fa fb) :=
  PE.imp (pe_or ha hb) fun σ H Q ⟨r, st, W, hH, hS, h⟩ => by
    refine td_bnd hH hS h fun x st1 v H1 W1 l1 h1 rv s1 h => ?_
    obtain ⟨z, e, k⟩ := h.bnd.lft
    refine ⟨z, bool_rep rv e, ?_⟩
    cases z with
    | true => exact k _ H1 W1 l1 h1 (.bl true)
    | false =>
      show tD X.K X.mg T Wx fb σ H1 Q
      exact td_go l1 h1 s1 k
theorem de_not {fa : EF} (ha : DE X T Wx a fa) : DE X T Wx (.UnaryOp .Not a pos) (eNot fa) :=
  PE.imp (pe_not ha) fun σ H Q ⟨r, st, W, hH, hS, h⟩ => by
    refine td_bnd hH hS h fun x st1 v H1 W1 l1 h1 rv s1 h => ?_
    obtain ⟨z, e, k⟩ := h.bnd.lft
    exact ⟨z, bool_rep rv e, k _ H1 W1 l1 h1 (.bl _)⟩
theorem de_if {fc : TF} {fa fb : EF} (hc : DT X T Wx c fc) (ha : DE X T Wx a fa) (hb : DE X T Wx b fb) : DE X T Wx (.IfExp c a b pos) (eIf fc fa fb) :=
  PE.imp (pe_ifExp hc ha hb) fun σ H Q ⟨r, st, W, hH, hS, h⟩ => by
    refine ttd_bnd hH hS h fun x st1 H1 W1 l1 h1 s1 h => ?_
    cases x with
    | true =>
      show tD X.K X.mg T Wx fa σ H1 Q
      exact td_go l1 h1 s1 h
    | false =>
      show tD X.K X.mg T Wx fb σ H1 Q
      exact td_go l1 h1 s1 h
theorem de_neg {fa : EF} (ha : DE X T Wx a fa) : DE X T Wx (.UnaryOp .USub a pos) (eUn oNeg fa) :=
  PE.imp (pe_un un_neg ha) fun σ H Q ⟨r, st, W, hH, hS, h⟩ => by
    refine td_bnd hH hS h fun x st1 v H1 W1 l1 h1 rv s1 h => ?_
    obtain ⟨z, e, k⟩ := h.lft
    unfold oNeg at e
    split at e
    · rename_i e1
      cases e
      exact ⟨_, h1.resI rv e1, k _ H1 W1 l1 h1 (.int _)⟩
    · cases e

/-! arguments, displays -/
theorem da_nil : DA X T Wx [] aNil := PA.imp pa_nil fun σ H Q ⟨r, st, W, hH, hS, h⟩ => h [] H W (Wd.le.refl W) hH .nil
theorem da_cons {es : List Expr} {fa : EF} {fb : AF} (ha : DE X T Wx e fa) (hb : DA X T Wx es fb) (hs : starEach (e :: es) X.env = (false, eval e X.env) :: starEach es X.env := by rfl) : DA X T Wx (e :: es) (aCons fa fb) :=
  PA.imp (pa_cons ha hb hs) fun σ H Q ⟨r, st, W, hH, hS, h⟩ => by
    refine td_bnd hH hS h fun x st1 v H1 W1 l1 h1 rv s1 h => ?_
    refine tad_bnd h1 s1 (h.mono (fun _ _ q => q) fun _ _ q => q.mono l1) fun y st2 u H2 W2 l2 h2 ru s2 h => ?_
    exact h _ H2 W2 (l1.trans l2) h2 (.cons (rv.mono l2) ru)
theorem reps_pds {K : PySem.W.Frag} {W : Wd} : ∀ {vs : List V} {xs : List DV} {ds : List PyData}, RepVs K W vs xs → pds xs = some ds → DpAll K W.Hs vs ds
  | _, _, _, .nil, e => by
    cases e
    exact .nil
  | _, _, _, .cons (x := x) a b, e => by
    cases x with
    | d p =>
      obtain ⟨ms, e1, e2⟩ := Option.map_eq_some_iff.mp e
      subst e2
      exact .cons a (reps_pds b e1)
    | dk _ => cases e
    | dl _ => cases e
    | mu _ => cases e
    | xl _ => cases e
theorem pds_len : ∀ {xs : List DV} {ds : List PyData}, pds xs = some ds → ds.length = xs.length
  | [], _, e => by
    cases e
    rfl
  | x :: xs, _, e => by
    cases x with
    | d p =>
      obtain ⟨ms, e1, e2⟩ := Option.map_eq_some_iff.mp e
      subst e2
      rw [List.length_cons, List.length_cons, pds_len e1]
    | dk _ => cases e
    | dl _ => cases e
    | mu _ => cases e
    | xl _ => cases e
theorem de_tup {es : List Expr} {fa : AF} {k : Nat} (ha : DA X T Wx es fa) : DE X T Wx (.Tuple es k pos) (eTup fa) :=
  PE.imp (pe_tup ha) fun σ H Q ⟨r, st, W, hH, hS, h⟩ => by
    refine tad_bnd hH hS h fun x st1 v H1 W1 l1 h1 rv s1 h => ?_
    obtain ⟨z, e, k⟩ := h.lft
    split at e
    · rename_i hl
      obtain ⟨ds, e1, rfl⟩ := Option.map_eq_some_iff.mp e
      have q := reps_pds rv e1
      have hl2 : v.length ≤ sizeLine := by
        rw [rv.length]
        exact hl
      exact ⟨hl2, (k.mono l1).tup h1 q hl2⟩
    · cases e
theorem de_lst {es : List Expr} {fa : AF} (ha : DA X T Wx es fa) : DE X T Wx (.List es pos) (eLst fa) :=
  PE.imp (pe_lst ha) fun σ H Q ⟨r, st, W, hH, hS, h⟩ => by
    refine tad_bnd hH hS h fun x st1 v H1 W1 l1 h1 rv s1 h => ?_
    obtain ⟨z, e, k⟩ := h.lft
    split at e
    · rename_i hl
      obtain ⟨ds, e1, rfl⟩ := Option.map_eq_some_iff.mp e
      have q := reps_pds rv e1
      have hl2 : v.length ≤ sizeLine := by
        rw [rv.length]
        exact hl
      exact ⟨hl2, (k.mono l1).lst h1 q hl2⟩
    · cases e
/-- a new place -/
theorem okV.new {K : PySem.W.Frag} {W : Wd} {st : Sto} {H : Hp} {Q : VK} {c : Ct} {o : HO} (k : okV K T W Q (.mu st.length) (st ++ [c])) (hH : RelH K T W st H) (nt : ∀ ps, o ≠ .tbl ps) (q : ∀ p, H p = none → CRep K T W.Hs (upd H p o) p c) : ∀ p, H p = none → Q (.ref p) (upd H p o) := fun p n =>
  k _ _ (W.push p) Wd.le_push (hH.push n nt (q p n)) ⟨p, rfl, by
    show (W.L ++ [p])[st.length]? = some p
    rw [← hH.len]
    simp⟩
theorem de_lstM {es : List Expr} {fa : AF} (ha : DA X T Wx es fa) : DE X T Wx (.List es pos) (eLstM fa) :=
  PE.imp (pe_lst ha) fun σ H Q ⟨r, st, W, hH, hS, h⟩ => by
    refine tad_bnd hH hS h fun x st1 v H1 W1 l1 h1 rv s1 h => ?_
    split at h
    · rename_i ds e
      split at e
      · rename_i hl
        have q := reps_pds rv e
        have hl2 : v.length ≤ sizeLine := by
          rw [rv.length]
          exact hl
        refine ⟨hl2, ?_⟩
        exact okV.new (okV.mono l1 h) h1 (fun _ z => nomatch z) fun p n => ⟨v, upd_same, hl2, q⟩
      · cases e
    · exact h.elim
theorem de_dctM : DE X T Wx (.Dict [] [] pos) eDctM :=
  PE.imp pe_dnewK fun σ H Q ⟨r, st, W, hH, hS, h⟩ => okV.new (c := .dk []) (o := .dK []) h hH (fun _ z => nomatch z) fun p n => ⟨upd_same, Nat.zero_le _⟩
theorem flat_len (n : Nat) (vs : List V) : (List.replicate n vs).flatten.length = vs.length * n := by
  induction n with
  | zero => simp
  | succ n ih =>
    rw [List.replicate_succ, List.flatten_cons, List.length_append, ih, Nat.mul_succ]
    omega
theorem de_rep {es : List Expr} {fa : AF} {fb : EF} {p2 : Pos} (ha : DA X T Wx es fa) (hb : DE X T Wx b fb) : DE X T Wx (.BinOp (.List es p2) .Mult b pos) (eRep fa fb) :=
  PE.imp (pe_op op_rep (pe_lst ha) hb) fun σ H Q ⟨r, st, W, hH, hS, h⟩ => by
    refine tad_bnd hH hS h fun x st1 v H1 W1 l1 h1 rv s1 h => ?_
    obtain ⟨ds, e, h⟩ := h.bnd.lft
    split at e
    · rename_i hl
      have q := reps_pds rv e
      rw [← rv.length] at hl
      refine ⟨hl, fun p n => ?_⟩
      have le2 : W1.le (W1.put p (.lst v)) := Wd.le_put (h1.fresh n)
      refine td_bnd (h1.put (o := .lst v) n hl) (s1.mono le2) (h.mono (fun _ _ q => q) fun _ _ q => q.mono (l1.trans le2)) fun k st3 u H3 W3 l3 h3 ru s3 h => ?_
      obtain ⟨z, e, k⟩ := h.lft
      split at e
      · rename_i k1 e1
        split at e
        · rename_i c
          cases e
          have l : v.length = ds.length := dpall_length q
          have q3 := dpall_mono (le2.trans l3).hs _ _ q
          refine ⟨p, k1, v, rfl, h3.resI ru e1, (h3.frz p _ (l3.hs p _ (by show upd W1.Hs p _ p = _; rw [upd_same]))).1, c.1, c.2.1, by rw [l]; exact c.2.2, ?_⟩
          exact (k.mono (l1.trans (le2.trans l3))).lst h3 (dpall_rep q3 _) (by rw [flat_len, l]; exact c.2.2)
        · cases e
      · cases e
    · cases e

/-! ### statements -/
section
variable {K : PySem.W.Frag} {mg : Str → Option Value} {W W' : Wd} {σ : L2.St} {r : Rho} {st : Sto} {H : Hp} {D : Ends}
theorem OutS.mono (l : W.le W') {o : Option (SR × Sto)} (h : OutS K mg T Wx W D o) : OutS K mg T Wx W' D o := by
  match o, h with
  | some (.fl .nx r, s), h => exact fun σ' H' W'' l2 a b => h σ' H' W'' (l.trans l2) a b
  | some (.fl .bk r, s), h => exact fun σ' H' W'' l2 a b => h σ' H' W'' (l.trans l2) a b
  | some (.fl .ct r, s), h => exact fun σ' H' W'' l2 a b => h σ' H' W'' (l.trans l2) a b
  | some (.fl (.rt x) r, s), h => exact fun σ' H' W'' l2 a b => h σ' H' W'' (l.trans l2) a b
  | some (.er x r, s), h => exact fun c dd σ' H' W'' l2 a b e => h c dd σ' H' W'' (l.trans l2) a b e
/-- an expression's outcome within a statement -/
theorem OutS.bind {α : Type} {m : MM α} {k : α → Sto → Option (SR × Sto)} (hS : RelS K W r σ) (h : OutS K mg T Wx W D (sBind m r k st)) : OutG (m st) (fun a st1 => OutS K mg T Wx W D (k a st1)) (erX K mg T W Wx σ) := by
  unfold sBind at h
  generalize m st = z at h ⊢
  match z, h with
  | some (.ok a, s), h => exact h
  | some (.er x, s), h => exact fun c dd H' W' l h1 e => h c dd σ H' W' l h1 (hS.mono l) e
theorem tds_bnd {f : EF} {g : DV → Sto → Option (SR × Sto)} {Q : VK} (hH : RelH K T W st H) (hS : RelS K W r σ) (h : OutS K mg T Wx W D (sBind (f r) r g st))
    (k : ∀ x st1 v H1 W1, W.le W1 → RelH K T W1 st1 H1 → RepV K W1 v x → RelS K W1 r σ → OutS K mg T Wx W1 D (g x st1) → Q v H1) : tD K mg T Wx f σ H Q :=
  ⟨r, st, W, hH, hS, (OutS.bind hS h).mono (fun x st1 q v H1 W1 l h1 rv => k x st1 v H1 W1 l h1 rv (hS.mono l) (q.mono l)) fun _ _ q => q⟩
theorem ttds_bnd {f : TF} {g : Bool → Sto → Option (SR × Sto)} {Q : Bool → Hp → Prop} (hH : RelH K T W st H) (hS : RelS K W r σ) (h : OutS K mg T Wx W D (sBind (f r) r g st))
    (k : ∀ x st1 H1 W1, W.le W1 → RelH K T W1 st1 H1 → RelS K W1 r σ → OutS K mg T Wx W1 D (g x st1) → Q x H1) : ttD K mg T Wx f σ H Q :=
  ⟨r, st, W, hH, hS, (OutS.bind hS h).mono (fun x st1 q H1 W1 l h1 => k x st1 H1 W1 l h1 (hS.mono l) (q.mono l)) fun _ _ q => q⟩
theorem ts_go {f : SF} (l : W.le W') (hH : RelH K T W' st H) (hS : RelS K W' r σ) (h : OutS K mg T Wx W D (f r st)) : tsD K mg T Wx f D σ H := ⟨r, st, W', hH, hS, h.mono l⟩
end
theorem dss_nil : DSs X T Wx [] sNx := PSs.imp pss_nil fun D σ H ⟨r, st, W, hH, hS, h⟩ => h σ H W (Wd.le.refl W) hH hS
theorem dss_cons {s : Stmt} {ss : List Stmt} {f g : SF} (h1 : DS X T Wx s f) (h2 : DSs X T Wx ss g) : DSs X T Wx (s :: ss) (sSeq f g) :=
  PSs.imp (pss_cons h1 h2) fun D σ H ⟨r, st, W, hH, hS, h⟩ => by
    refine ⟨r, st, W, hH, hS, ?_⟩
    unfold sSeq at h
    generalize f r st = z at h ⊢
    match z, h with
    | some (.fl .nx r', s'), h => exact fun σ' H' W' l a b => ⟨r', s', W', a, b, h.mono l⟩
    | some (.fl .bk r, s), h => exact h
    | some (.fl .ct r, s), h => exact h
    | some (.fl (.rt x) r, s), h => exact h
    | some (.er x r, s), h => exact h
theorem dss_one {s : Stmt} {f : SF} (h1 : DS X T Wx s f) : DSs X T Wx [s] f := pss_one h1
theorem ds_pass : DS X T Wx (.Pass pos) sNx := PS.imp ps_pass fun D σ H ⟨r, st, W, hH, hS, h⟩ => h σ H W (Wd.le.refl W) hH hS
theorem ds_break : DS X T Wx (.Break pos) sBrk := PS.imp ps_break fun D σ H ⟨r, st, W, hH, hS, h⟩ => h σ H W (Wd.le.refl W) hH hS
theorem ds_continue : DS X T Wx (.Continue pos) sCont := PS.imp ps_continue fun D σ H ⟨r, st, W, hH, hS, h⟩ => h σ H W (Wd.le.refl W) hH hS
theorem ds_expr {fa : EF} (h : DE X T Wx e fa) (hs : swapsWith e none pos.line X.env = pure false := by rfl) : DS X T Wx (.Expr e pos) (sExpr fa) :=
  PS.imp (ps_expr h hs) fun D σ H ⟨r, st, W, hH, hS, h⟩ => tds_bnd hH hS h fun x st1 v H1 W1 l1 h1 rv s1 h => h σ H1 W1 (Wd.le.refl W1) h1 s1
theorem ds_ret {fa : EF} (h : DE X T Wx e fa) : DS X T Wx (.Return (some e) pos) (sRet fa) :=
  PS.imp (ps_ret h) fun D σ H ⟨r, st, W, hH, hS, h⟩ => tds_bnd hH hS h fun x st1 v H1 W1 l1 h1 rv s1 h => h v H1 W1 (Wd.le.refl W1) h1 rv
theorem ds_retN : DS X T Wx (.Return none pos) (sRet (eC .none)) :=
  PS.imp ps_retN fun D σ H ⟨r, st, W, hH, hS, h⟩ => h .non H W (Wd.le.refl W) hH .non
theorem ds_if {fc : TF} {fa fb : SF} {as bs : List Stmt} (hc : DT X T Wx c fc) (ha : DSs X T Wx as fa) (hb : DSs X T Wx bs fb) : DS X T Wx (.If c as bs pos) (sIf fc fa fb) :=
  PS.imp (ps_if hc ha hb) fun D σ H ⟨r, st, W, hH, hS, h⟩ => by
    refine ttds_bnd hH hS h fun x st1 H1 W1 l1 h1 s1 h => ?_
    cases x with
    | true =>
      show tsD X.K X.mg T Wx fa D σ H1
      exact ⟨r, st1, W1, h1, s1, h⟩
    | false =>
      show tsD X.K X.mg T Wx fb D σ H1
      exact ⟨r, st1, W1, h1, s1, h⟩
theorem ds_set {i : Nat} {x : Str} {fa : EF} {pos' : Pos} (he : DE X T Wx e fa) (h : ∀ t, PE X e t → PS X (.Assign [.Name x pos'] e pos) (tAsg t (gName i))) : DS X T Wx (.Assign [.Name x pos'] e pos) (sSet i fa) :=
  PS.imp (h _ he) fun D σ H ⟨r, st, W, hH, hS, h⟩ => tds_bnd hH hS h fun x st1 v H1 W1 l1 h1 rv s1 h => h _ H1 W1 (Wd.le.refl W1) h1 (s1.set rv)
/-- only the slots gs have changed -/
structure Upd (gs : List Nat) (σ σ' : L2.St) : Prop where
  len : σ'.length = σ.length
  off : ∀ j, j ∉ gs → σ'[j]? = σ[j]?
theorem Upd.refl {gs : List Nat} (σ : L2.St) : Upd gs σ σ := ⟨rfl, fun _ _ => rfl⟩
theorem Upd.trans {gs : List Nat} {a b c : L2.St} (h : Upd gs a b) (k : Upd gs b c) : Upd gs a c := ⟨k.len.trans h.len, fun j hj => (k.off j hj).trans (h.off j hj)⟩
theorem Upd.set {gs : List Nat} {σ : L2.St} {i : Nat} {o : Option V} (h : i ∈ gs) : Upd gs σ (σ.set i o) := ⟨List.length_set .., fun j hj => List.getElem?_set_ne (fun (z : i = j) => hj (by rw [← z]; exact h))⟩
theorem Upd.mono {gs gs' : List Nat} {σ σ' : L2.St} (h : Upd gs σ σ') (k : ∀ i ∈ gs, i ∈ gs') : Upd gs' σ σ' := ⟨h.len, fun j hj => h.off j fun z => hj (k j z)⟩
/-- a target, by its mirror -/
def GOk (K : PySem.W.Frag) (T : Tb) (t : TG) (g : GF) (gs : List Nat) : Prop := ∀ v σ H Q W st r x r', RelH K T W st H → RelS K W r σ → RepV K W v x → g x r st = some r' → (∀ σ', RelS K W r' σ' → Upd gs σ σ' → Q σ' H) → t v σ H Q
def DG (X : Cx) (T : Tb) (tg : Expr) (g : GF) (gs : List Nat) : Prop := ∃ t, PG X tg t ∧ GOk X.K T t g gs
theorem ds_asg {tg : Expr} {fa : EF} {g : GF} {gs : List Nat} (he : DE X T Wx e fa) (hg : DG X T tg g gs) (h : ∀ t, PG X tg t → PS X (.Assign [tg] e pos) (tAsg (tD X.K X.mg T Wx fa) t)) : DS X T Wx (.Assign [tg] e pos) (sAsg fa g) := by
  obtain ⟨t, h1, h2⟩ := hg
  refine PS.imp (h t h1) fun D σ H ⟨r, st, W, hH, hS, h⟩ => tds_bnd hH hS h fun x st1 v H1 W1 l1 h1 rv s1 h => ?_
  split at h
  · rename_i r' e
    exact h2 v σ H1 _ W1 st1 r x r' h1 s1 rv e fun σ' k _ => h σ' H1 W1 (Wd.le.refl W1) h1 k
  · exact h.elim
theorem gok_name {K : PySem.W.Frag} {i : Nat} : GOk K T (gName i) (gV i) [i] := fun v σ H Q W st r x r' hH hS rv e k => by
  cases e
  exact k _ (hS.set rv) (.set (by simp))
theorem dg_name {i : Nat} {x : Str} (h : PG X (.Name x pos) (gName i)) : DG X T (.Name x pos) (gV i) [i] := ⟨_, h, gok_name⟩
def GsOk (K : PySem.W.Frag) (t : TGs) (g : List PyData → Rho → Option Rho) (gs : List Nat) : Prop := ∀ vs σ H Q W r ds r', RelS K W r σ → DpAll K W.Hs vs ds → g ds r = some r' → (∀ σ', RelS K W r' σ' → Upd gs σ σ' → Q σ' H) → t vs σ H Q
def DGs (X : Cx) (tgs : List Expr) (g : List PyData → Rho → Option Rho) (gs : List Nat) : Prop := ∃ t, PGs X tgs t ∧ GsOk X.K t g gs
theorem gsok_nil {K : PySem.W.Frag} : GsOk K gNil gNilF [] := fun vs σ H Q W r ds r' hS q e k => by
  cases q with
  | nil =>
    cases e
    exact ⟨rfl, k _ hS (.refl _)⟩
  | cons _ _ => cases e
theorem gsok_cons {K : PySem.W.Frag} {i : Nat} {gs : List Nat} {t : TGs} {g : List PyData → Rho → Option Rho} (h2 : GsOk K t g gs) : GsOk K (gCons (gName i) t) (gConsF i g) (i :: gs) := fun vs σ H Q W r ds r' hS q e k => by
  cases q with
  | nil => cases e
  | cons a b => exact ⟨_, _, rfl, h2 _ _ H Q W _ _ r' (RelS.set (x := .d _) hS a) b e fun σ' h3 h4 => k σ' h3 ((Upd.set (by simp)).trans (h4.mono fun i hi => List.mem_cons_of_mem _ hi))⟩
theorem dgs_nil : DGs X [] gNilF [] := ⟨_, pgs_nil, gsok_nil⟩
theorem dgs_cons {i : Nat} {gs : List Nat} {x : Str} {es : List Expr} {g : List PyData → Rho → Option Rho} (h : PG X (.Name x pos) (gName i)) (hg : DGs X es g gs) (hs : (assignEach (.Name x pos :: es) X.env).map (·.2) = assign (.Name x pos) X.env :: (assignEach es X.env).map (·.2) := by rfl) : DGs X (.Name x pos :: es) (gConsF i g) (i :: gs) := by
  obtain ⟨t, h1, h2⟩ := hg
  exact ⟨_, pgs_cons h h1 hs, gsok_cons h2⟩
theorem gok_tup {K : PySem.W.Frag} {n : Nat} {gs : List Nat} {t : TGs} {g : List PyData → Rho → Option Rho} (h2 : GsOk K t g gs) (hn : ∀ ds r r', g ds r = some r' → ds.length = n) : GOk K T (gTup K n t) (gT g) gs := fun v σ H Q W st r x r' hH hS rv e k => by
  unfold gT at e
  split at e
  · rename_i ds e1
    obtain ⟨a, vs, rfl, q1, q2, q3⟩ := hH.resT rv e1
    exact ⟨a, vs, rfl, q1, by rw [dpall_length q2]; exact hn _ _ _ e, h2 vs σ H Q W r ds r' hS q2 e k⟩
  · cases e
theorem dg_tup {es : List Expr} {k n : Nat} {gs : List Nat} {g : List PyData → Rho → Option Rho} (hg : DGs X es g gs) (hp : ∀ t, PGs X es t → PG X (.Tuple es k pos) (gTup X.K n t)) (hn : ∀ ds r r', g ds r = some r' → ds.length = n) : DG X T (.Tuple es k pos) (gT g) gs := by
  obtain ⟨t, h1, h2⟩ := hg
  exact ⟨_, hp t h1, gok_tup h2 hn⟩
theorem gNil_n : ∀ ds (r r' : Rho), gNilF ds r = some r' → ds.length = 0 := fun ds r r' e => by
  cases ds with
  | nil => rfl
  | cons _ _ => cases e
theorem gCons_n {i n : Nat} {g : List PyData → Rho → Option Rho} (h : ∀ ds r r', g ds r = some r' → ds.length = n) : ∀ ds (r r' : Rho), gConsF i g ds r = some r' → ds.length = n + 1 := fun ds r r' e => by
  cases ds with
  | nil => cases e
  | cons d ds =>
    rw [List.length_cons]
    exact congrArg (· + 1) (h ds _ _ e)
end
end DL
end
section
/-! D4: defs and calls; built-ins. -/
namespace DL
open PySem PySem.Spec PyProof.Rows L2

/-- a def's promise: its mirror -/
def spD (K : PySem.W.Frag) (mg : Str → Option Value) (T : Tb) (n : Nat) (F : List DV → MM DV) : Sp := fun vs H Q E => vs.length = n ∧ ∃ W st xs, RelH K T W st H ∧ RepVs K W vs xs ∧
  OutG (F xs st) (okV K T W Q) (fun x st' => ∀ c dd H' W', W.le W' → RelH K T W' st' H' → XRep mg H' c dd x → E c dd H')
/-- a def of the text: where it stands -/
structure Dn (K : PySem.W.Frag) (mg : Str → Option Value) (x : Str) (st : Stmt) (ps : List Str) (f : Addr) (fd : FuncData) : Prop where
  F : Fun K x x st f fd
  g : mg x = some (.ref f)
  b : Binds K fd ps []

section
variable {K : PySem.W.Frag} {mg : Str → Option Value} {T : Tb} {W W' : Wd} {st st' : Sto} {H H' : Hp}
theorem take_le (l : W.le W') (hH : RelH K T W st H) : W.le ⟨W'.Hs, W'.L.take st.length⟩ := ⟨l.hs, [], by
  obtain ⟨m, e⟩ := l.more
  show W'.L.take st.length = W.L ++ []
  rw [e, ← hH.len, List.append_nil]
  simp⟩
theorem take_sto (h : RelH K T W' st' H') (n : Nat) : ∀ (k : Nat) (a : Addr) (c : Ct), (W'.L.take n)[k]? = some a → (st'.take n)[k]? = some c → W'.Hs a = none ∧ CRep K T W'.Hs H' a c := fun k a c e1 e2 => by
  rw [List.getElem?_take] at e1 e2
  split at e1
  · rename_i hk
    rw [if_pos hk] at e2
    exact h.sto k a c e1 e2
  · cases e1
theorem RelH.take (h : RelH K T W' st' H') (n : Nat) (hc : ∀ q ∈ T.cap, RepV K ⟨W'.Hs, W'.L.take n⟩ q.1 q.2) : RelH K T ⟨W'.Hs, W'.L.take n⟩ (st'.take n) H' where
  frz := h.frz
  tab := h.tab
  len := by
    show (W'.L.take n).length = (st'.take n).length
    rw [List.length_take, List.length_take, h.len]
  nd := h.nd.sublist (List.take_sublist n W'.L)
  sto := take_sto h n
  cap := hc
/-- a place is frozen and the places from n on are forgotten -/
theorem RelH.frozen (h : RelH K T W' st' H') {n k : Nat} {a : Addr} {o : HO} (hk : n ≤ k) (e : W'.L[k]? = some a) (nH : W'.Hs a = none) (ho : H' a = some o) (ok : okFrz o) (hc : ∀ q ∈ T.cap, RepV K ⟨upd W'.Hs a o, W'.L.take n⟩ q.1 q.2) : RelH K T ⟨upd W'.Hs a o, W'.L.take n⟩ (st'.take n) H' where
  frz := fun p u q => by
    by_cases hp : p = a
    · subst hp
      have q' : upd W'.Hs p o p = some u := q
      rw [upd_same] at q'
      cases q'
      exact ⟨ho, ok⟩
    · have q' : upd W'.Hs a o p = some u := q
      rw [upd_ne hp] at q'
      exact h.frz p u q'
  tab := fun P t => (h.tab P t).imp (fun _ e => e) fun c q e => by
    show upd W'.Hs a o c = some _
    rw [upd_ne (ne_of_none e nH)]
    exact e
  len := by
    show (W'.L.take n).length = (st'.take n).length
    rw [List.length_take, List.length_take, h.len]
  nd := h.nd.sublist (List.take_sublist n W'.L)
  sto := fun j b c e1 e2 => by
    obtain ⟨q1, q2⟩ := take_sto h n j b c e1 e2
    have e1' : (W'.L.take n)[j]? = some b := e1
    rw [List.getElem?_take] at e1'
    split at e1'
    · rename_i hj
      have ne : b ≠ a := fun z => by
        subst z
        have := nodup_at h.nd e1' e
        omega
      refine ⟨by show upd W'.Hs a o b = none; rw [upd_ne ne]; exact q1, q2.mono (fun p u z => ?_) fun _ z => z⟩
      show upd W'.Hs a o p = some u
      rw [upd_ne (ne_of_none z nH)]
      exact z
    · cases e1'
  cap := hc
theorem frozen_le (l : W.le W') (hH : RelH K T W st H) {a : Addr} {o : HO} (nH : W'.Hs a = none) : W.le ⟨upd W'.Hs a o, W'.L.take st.length⟩ := ⟨fun p u e => by
  show upd W'.Hs a o p = some u
  rw [upd_ne (ne_of_none (l.hs p u e) nH)]
  exact l.hs p u e, (take_le l hH).more⟩
theorem startS {N : List Str} {vs : List V} {xs : List DV} (q : RepVs K W vs xs) : RelS K W (startR N.length xs) (L2.start N vs) := by
  have hl := q.length
  refine ⟨by simp [startR, L2.start, hl], fun i x e => ?_⟩
  unfold startR at e
  have get : ∀ {vs : List V} {xs : List DV} {i : Nat} {x : DV}, RepVs K W vs xs → (xs.map some)[i]? = some (some x) → ∃ v, (vs.map some)[i]? = some (some v) ∧ RepV K W v x := by
    intro vs xs i x q
    induction q generalizing i with
    | nil => intro e; simp at e
    | cons a b ih =>
      intro e
      cases i with
      | zero =>
        simp at e
        subst e
        exact ⟨_, rfl, a⟩
      | succ i => exact ih (by simpa using e)
  by_cases hi : i < xs.length
  · rw [List.getElem?_append_left (by simpa using hi)] at e
    obtain ⟨v, e1, q1⟩ := get q e
    exact ⟨v, by unfold L2.start; rw [List.getElem?_append_left (by simpa [hl] using hi)]; exact e1, q1⟩
  · rw [List.getElem?_append_right (by simpa using hi)] at e
    rw [List.getElem?_replicate] at e
    split at e <;> cases e
end

theorem xl_take {K : PySem.W.Frag} {W : Wd} {n : Nat} {vs : List V} {xs : List It1} (q : XlAll K W vs xs) : xs.all (itOk n) = true → XlAll K ⟨W.Hs, W.L.take n⟩ vs xs := by
  induction q with
  | nil => exact fun _ => .nil
  | @cons v vs x xs a b ih =>
    intro h
    simp only [List.all_cons, Bool.and_eq_true] at h
    refine .cons ?_ (ih h.2)
    cases x with
    | d p => exact a
    | e => exact a
    | m k =>
      obtain ⟨p, e, q⟩ := a
      refine ⟨p, e, ?_⟩
      show (W.L.take n)[k]? = some p
      rw [List.getElem?_take, if_pos (by simpa [itOk] using h.1)]
      exact q
section
variable {P : Program} {w : World} {K : PySem.W.Frag} {mg : Str → Option Value} {base : Heap} {T : Tb}
abbrev Wd0 (E : XK) : WX := fun c d _ H => E c d H
/-- a def keeps its mirror's promise -/
theorem fn_dx {x : Str} {st : Stmt} {f : Addr} {fd : FuncData} {N ps : List Str} {k : Nat} {b : SF} (F : Fun K x x st f fd) (S : FnScope N ps (defScope st))
    (hb : ∀ (cdv : Value), fd.code = cdv → ∀ (A : Around) (outer : List PySem.Env) (s : Shared) (H : Hp) (E : XK), Room k (A.deeper (envOfC x (defScope st) s.heap.objs.size f cdv)) →
      Takes (cxOf (L2.CX P w) P w K mg base N x (defScope st) f cdv A outer s H E) (Wd0 E) → PassesOwn (model P w) (A.deeper (envOfC x (defScope st) s.heap.objs.size f cdv)) (envOfC x (defScope st) s.heap.objs.size f cdv) (cxOf (L2.CX P w) P w K mg base N x (defScope st) f cdv A outer s H E).xe →
      DSs (cxOf (L2.CX P w) P w K mg base N x (defScope st) f cdv A outer s H E) T (Wd0 E) (defBody st) b) : FnOk P w K mg base (L2.CX P w) (k + 1) f fd ps (spD K mg T ps.length (runB N.length b)) := by
  obtain ⟨oc, od, kV, doc, pm, an, cdv, ct, osl, rfl, lk, hcd⟩ := F.ex
  refine fn_of lk hcd S (fun vs H Q E h => h.1) fun A outer s H vs Q E hr h => ?_
  obtain ⟨hl, W, s0, xs, hH, hR, ho⟩ := h
  refine ⟨_, hb cdv rfl A outer s H E hr (takes_of rfl rfl rfl rfl) (passes_of rfl), startR N.length xs, s0, W, hH, startS hR, ?_⟩
  unfold runB at ho
  generalize b (startR N.length xs) s0 = z at ho ⊢
  match z, ho with
  | some (.fl .nx r', s'), ho => exact fun σ' H' W' l a _ => ho .non H' _ (take_le l hH) (a.take _ (hH.capOf (take_le l hH))) .non
  | some (.fl (.rt x) r', s'), ho =>
    intro v H' W' l a rv
    cases x with
    | d p => exact ho v H' _ (take_le l hH) (a.take _ (hH.capOf (take_le l hH))) rv
    | dk ks => exact ho v H' _ (take_le l hH) (a.take _ (hH.capOf (take_le l hH))) rv
    | dl ks => exact ho v H' _ (take_le l hH) (a.take _ (hH.capOf (take_le l hH))) rv
    | xl xs =>
      obtain ⟨p, vs, e1, e2, e3⟩ := rv
      simp only [fz] at ho
      split at ho
      · rename_i hk
        exact ho v H' _ (take_le l hH) (a.take _ (hH.capOf (take_le l hH))) ⟨p, vs, e1, e2, xl_take e3 hk⟩
      · exact ho.elim
    | mu k =>
      obtain ⟨p, rfl, hp⟩ := rv
      simp only [fz] at ho
      split at ho
      · rename_i hk
        refine ho _ H' _ (take_le l hH) (a.take _ (hH.capOf (take_le l hH))) ⟨p, rfl, ?_⟩
        show (W'.L.take s0.length)[k]? = some p
        rw [List.getElem?_take, if_pos hk]
        exact hp
      · rename_i hk
        obtain ⟨c, hc⟩ := a.inL hp
        obtain ⟨q1, q2⟩ := a.sto k p c hp hc
        rw [hc] at ho
        cases c with
        | lst ds =>
          obtain ⟨vs, e1, e2, e3⟩ := q2
          refine ho _ H' _ (frozen_le l hH q1) (a.frozen (by omega) hp q1 e1 e2 (hH.capOf (frozen_le l hH q1))) (.lst (.inl (.inl (by show upd W'.Hs p _ p = _; rw [upd_same]))) (dpall_mono (fun b u z => ?_) _ _ e3))
          show upd W'.Hs p _ b = some u
          rw [upd_ne (ne_of_none z q1)]
          exact z
        | dk ks =>
          obtain ⟨e1, e2⟩ := q2
          refine ho _ H' _ (frozen_le l hH q1) (a.frozen (by omega) hp q1 e1 (by simpa [okFrz, tmap] using e2) (hH.capOf (frozen_le l hH q1))) ⟨p, rfl, .inl (by show upd W'.Hs p _ p = _; rw [upd_same])⟩
        | clo j => exact ho.elim
  | some (.er x r', s'), ho => exact fun c dd σ' H' W' l a _ e => ho c dd H' _ (take_le l hH) (a.take _ (hH.capOf (take_le l hH))) e
theorem fn_d {x : Str} {st : Stmt} {f : Addr} {fd : FuncData} {N ps : List Str} {k : Nat} {b : SF} (F : Fun K x x st f fd) (S : FnScope N ps (defScope st))
    (hb : ∀ (cdv : Value) (A : Around) (outer : List PySem.Env) (s : Shared) (H : Hp) (E : XK), Room k (A.deeper (envOfC x (defScope st) s.heap.objs.size f cdv)) →
      Takes (cxOf (L2.CX P w) P w K mg base N x (defScope st) f cdv A outer s H E) (Wd0 E) → PassesOwn (model P w) (A.deeper (envOfC x (defScope st) s.heap.objs.size f cdv)) (envOfC x (defScope st) s.heap.objs.size f cdv) (cxOf (L2.CX P w) P w K mg base N x (defScope st) f cdv A outer s H E).xe →
      DSs (cxOf (L2.CX P w) P w K mg base N x (defScope st) f cdv A outer s H E) T (Wd0 E) (defBody st) b) : FnOk P w K mg base (L2.CX P w) (k + 1) f fd ps (spD K mg T ps.length (runB N.length b))  :=
  fn_dx F S fun cdv _ => hb cdv
end

section
variable {X : Cx} {T : Tb} {Wx : WX} {k : Nat} {f : Addr} {fd : FuncData} {ps : List Str} {F : List DV → MM DV} {x : Str} {p pos : Pos} {e : Expr} {es : List Expr} {fa : AF} {st : Stmt} {n : Nat}
theorem de_call (G : FnOk X.prog X.w X.K X.mg X.base (L2.CX X.prog X.w) k f fd ps (spD X.K X.mg T n F)) (d : Dn X.K X.mg x st ps f fd) (hr : Room k X.A) (tk : Takes X Wx) (hg : Gl X x) (ha : DA X T Wx (e :: es) fa)
    (hn : ∀ r st xs st', fa r st = some (.ok xs, st') → xs.length = n) (hdb : (x == ("__debug__" : Str)) = false := by decide) (he : starEach (e :: es) X.env = (false, eval e X.env) :: starEach es X.env := by rfl) (hpl : (backTo pos (starEach es X.env)).any (·.1) = false := by rfl) :
    DE X T Wx (.Call (.Name x p) (e :: es) [] pos) (eCall F fa) :=
  PE.imp (pe_callSD (dvs := []) (E := WE Wx) G hr hg d.g d.F.kp d.b .nil (fun σ => passAt tk σ) ha hdb he hpl) fun σ H Q ⟨r, s0, W, hH, hS, h⟩ => by
    have hb := h.bnd
    cases hf : fa r s0 with
    | none =>
      rw [hf] at hb
      exact hb.elim
    | some z =>
      obtain ⟨z, s1⟩ := z
      cases z with
      | er x => exact ⟨r, s0, W, hH, hS, by rw [hf] at hb ⊢; exact hb⟩
      | ok xs =>
        have hl := hn r s0 xs s1 hf
        refine ⟨r, s0, W, hH, hS, ?_⟩
        rw [hf] at hb ⊢
        intro vs H1 W1 l1 h1 rv
        refine ⟨by rw [List.append_nil, rv.length]; exact hl, W1, s1, xs, h1, by rw [List.append_nil]; exact rv, OutG.mono (show OutG (F xs s1) _ _ from hb) (fun _ _ q => q.mono l1) fun _ _ q => q.mono l1⟩
/-- f() -/
theorem pe_call0S {CX : CXT} {sp : Sp} {E : L2.St → XK} (F : FnOk X.prog X.w X.K X.mg X.base CX k f fd ps sp) (hr : Room k X.A) (hg : Gl X x) (hm : X.mg x = some (.ref f)) (hk : PySem.W.keepIn X.K (.ref f) = true) (hb : Binds X.K fd ps []) (hx : ∀ σ, PassesAt CX X σ (E σ))
    (hdb : (x == ("__debug__" : Str)) = false := by decide) : PE X (.Call (.Name x p) [] [] pos) (fun σ H Q => sp [] H Q (E σ)) := by
  refine ⟨fun pins s σ H Q I h => ?_⟩
  refine wpAny_Call_Name_kw (ld_glob I hg hm ?_ hdb)
  exact PySem.W.callWith_K0 I.kIn hk (run_fnS (us := []) F hr hb (hx σ) I .nil h)
theorem de_call0 (G : FnOk X.prog X.w X.K X.mg X.base (L2.CX X.prog X.w) k f fd ps (spD X.K X.mg T 0 F)) (d : Dn X.K X.mg x st ps f fd) (hr : Room k X.A) (tk : Takes X Wx) (hg : Gl X x)
    (hdb : (x == ("__debug__" : Str)) = false := by decide) : DE X T Wx (.Call (.Name x p) [] [] pos) (eCall F aNil) :=
  PE.imp (pe_call0S (E := WE Wx) G hr hg d.g d.F.kp d.b (fun σ => passAt tk σ) hdb) fun σ H Q ⟨r, s0, W, hH, hS, h⟩ => ⟨rfl, W, s0, [], hH, .nil, h⟩
theorem aCons_len {a : EF} {b : AF} {n : Nat} (h : ∀ r st xs st', b r st = some (.ok xs, st') → xs.length = n) : ∀ r st xs st', aCons a b r st = some (.ok xs, st') → xs.length = n + 1 := by
  intro r st xs st' e
  unfold aCons bnd at e
  split at e
  · cases e
  · rename_i x s1 e1
    simp only at e
    split at e
    · cases e
    · rename_i ys s2 e2
      cases e
      rw [List.length_cons, h _ _ _ _ e2]
    · cases e
  · cases e
theorem aNil_len : ∀ r st xs st', aNil r st = some (.ok xs, st') → xs.length = 0 := by
  intro r st xs st' e
  cases e
  rfl

/-! ### built-ins by values -/
def BfD (K : PySem.W.Frag) (T : Tb) (r : List V → Hp → VK → Prop) (g : List DV → Sto → Option DV) : Prop := ∀ (W : Wd) (st : Sto) (H : Hp) (vs : List V) (xs : List DV) (z : DV) (Q : VK), RelH K T W st H → RepVs K W vs xs → g xs st = some z → okV K T W Q z st → r vs H Q
theorem de_blt {id : String} {r : List V → Hp → VK → Prop} {g : List DV → Sto → Option DV} (hc : CallR X (.builtin id) r) (hd : BfD X.K T r g) (hg : Gl X x) (hm : X.mg x = none) (hv : bootBuiltins x = some (.builtin id)) (ha : DA X T Wx (e :: es) fa)
    (h : ∀ t, PA X (e :: es) t → PE X (.Call (.Name x p) (e :: es) [] pos) (tCB r t)) : DE X T Wx (.Call (.Name x p) (e :: es) [] pos) (eCall (fB g) fa) :=
  PE.imp (h _ ha) fun σ H Q ⟨r, s0, W, hH, hS, h⟩ => tad_bnd hH hS h fun x st1 v H1 W1 l1 h1 rv s1 h => by
    obtain ⟨z, e, k⟩ := h.lft
    exact hd W1 st1 H1 v x z Q h1 rv e (k.mono l1)
theorem de_bty {id : String} {r : List V → Hp → VK → Prop} {g : List DV → Sto → Option DV} (hc : CallR X (.type id) r) (hd : BfD X.K T r g) (ha : DA X T Wx (e :: es) fa)
    (h : ∀ t, PA X (e :: es) t → PE X (.Call (.Name x p) (e :: es) [] pos) (tCB r t)) : DE X T Wx (.Call (.Name x p) (e :: es) [] pos) (eCall (fB g) fa) :=
  PE.imp (h _ ha) fun σ H Q ⟨r, s0, W, hH, hS, h⟩ => tad_bnd hH hS h fun x st1 v H1 W1 l1 h1 rv s1 h => by
    obtain ⟨z, e, k⟩ := h.lft
    exact hd W1 st1 H1 v x z Q h1 rv e (k.mono l1)
end
end DL
end
section
/-! D5: built-ins and subscripts on data. -/
namespace DL
open PySem PySem.Spec PyProof.Rows L2

/-! ### pure -/
def fLen : List DV → Sto → Option DV := fun xs st => match xs with
  | [.dk ks] => some (.d (.int ks.length))
  | [.dl ks] => some (.d (.int ks.length))
  | [x] => match res st x with
    | some (.list ds) => some (.d (.int ds.length))
    | some (.tuple ds) => some (.d (.int ds.length))
    | some (.str s) => if s.length ≤ sizeLine then some (.d (.int s.length)) else none
    | _ => none
  | _ => none
def fInt : List DV → Sto → Option DV := fun xs st => match xs with
  | [x] => match res st x with
    | some (.int i) => some (.d (.int i))
    | some (.str s) => if s.length ≤ 640 then (PySem.intText? s).map fun n => .d (.int n) else none
    | _ => none
  | _ => none
def fStr : List DV → Sto → Option DV := fun xs st => match xs with
  | [x] => match res st x with
    | some (.int i) => if i.natAbs.log2 < 1920 then some (.d (.str (Str.ofString (toString i)))) else none
    | _ => none
  | _ => none
def fTup : List DV → Sto → Option DV := fun xs st => match xs with
  | [x] => match res st x with
    | some (.list ds) => some (.d (.tuple ds))
    | some (.tuple ds) => some (.d (.tuple ds))
    | _ => none
  | _ => none
def fMin : List DV → Sto → Option DV := fun xs st => match xs with
  | [x, y] => match res st x, res st y with
    | some (.int i), some (.int j) => some (.d (.int (if j < i then j else i)))
    | _, _ => none
  | _ => none
def fMax : List DV → Sto → Option DV := fun xs st => match xs with
  | [x, y] => match res st x, res st y with
    | some (.int i), some (.int j) => some (.d (.int (if j > i then j else i)))
    | _, _ => none
  | _ => none
def maxI : List Int → Int → Int
  | [], m => m
  | n :: r, m => maxI r (if n > m then n else m)
def fMaxL : List DV → Sto → Option DV := fun xs st => match xs with
  | [x] => match res st x with
    | some (.list ds) => match ints? ds with
      | some (n :: r) => some (.d (.int (maxI r n)))
      | _ => none
    | _ => none
  | _ => none
def fSum : List DV → Sto → Option DV := fun xs st => match xs with
  | [x] => match res st x with
    | some (.list ds) => (ints? ds).map fun ns => .d (.int ns.sum)
    | _ => none
  | _ => none
/-- insertion, by a test «before» -/
def ins {α : Type} (lt : α → α → Bool) (x : α) : List α → List α
  | [] => [x]
  | y :: r => if lt y x then y :: ins lt x r else x :: y :: r
def isort {α : Type} (lt : α → α → Bool) : List α → List α
  | [] => []
  | x :: r => ins lt x (isort lt r)
def ltI (i j : Int) : Bool := decide (i < j)
def pair? : PyData → Option (Int × Int)
  | .tuple [.int i, .int j] => some (i, j)
  | _ => none
def pairs? : List PyData → Option (List (Int × Int))
  | [] => some []
  | d :: r => match pair? d with
    | some p => (pairs? r).map (p :: ·)
    | none => none
def ofPair (p : Int × Int) : PyData := .tuple [.int p.1, .int p.2]
def sortedP (ds : List PyData) : Option (List PyData) := match ints? ds with
  | some ns => some ((isort ltI ns).map .int)
  | none => (pairs? ds).map fun ps => (isort SrtO.lexB ps).map ofPair
def fSorted : List DV → Sto → Option DV := fun xs st => match xs with
  | [x] => match x with
    | .dk ks => if ks.length < 64 then some (.d (.list ((isort ltI ks).map .int))) else none
    | .mu k => match st[k]? with
      | some (.dk ks) => if ks.length < 64 then some (.d (.list ((isort ltI ks).map .int))) else none
      | some (.lst ds) => (sortedP ds).map fun es => .d (.list es)
      | _ => none
    | .d (.list ds) => (sortedP ds).map fun es => .d (.list es)
    | _ => none
  | _ => none

/-! ### sorting is one -/
theorem ins_perm {α : Type} (lt : α → α → Bool) (x : α) : ∀ l : List α, (ins lt x l).Perm (x :: l)
  | [] => .refl _
  | y :: r => by
    unfold ins
    split
    · exact ((ins_perm lt x r).cons y).trans (.swap x y r)
    · exact .refl _
theorem isort_perm {α : Type} (lt : α → α → Bool) : ∀ l : List α, (isort lt l).Perm l
  | [] => .refl _
  | x :: r => (ins_perm lt x _).trans ((isort_perm lt r).cons x)
theorem ins_pw {α : Type} {lt : α → α → Bool} {le : α → α → Prop} (h1 : ∀ x y, lt y x = true → le y x) (h2 : ∀ x y, lt y x = false → le x y) (ht : ∀ x y z, le x y → le y z → le x z) (x : α) : ∀ l : List α, l.Pairwise le → (ins lt x l).Pairwise le
  | [], _ => by simp [ins]
  | y :: r, h => by
    unfold ins
    obtain ⟨ha, hb⟩ := List.pairwise_cons.mp h
    by_cases c : lt y x = true
    · rw [if_pos c]
      refine List.pairwise_cons.mpr ⟨fun z hz => ?_, ins_pw h1 h2 ht x r hb⟩
      rcases List.mem_cons.mp ((ins_perm lt x r).mem_iff.mp hz) with e | e
      · subst e
        exact h1 _ _ c
      · exact ha z e
    · rw [if_neg c]
      refine List.pairwise_cons.mpr ⟨fun z hz => ?_, h⟩
      have c' : le x y := h2 _ _ (by simpa using c)
      rcases List.mem_cons.mp hz with e | e
      · subst e
        exact c'
      · exact ht _ _ _ c' (ha z e)
theorem isort_pw {α : Type} {lt : α → α → Bool} {le : α → α → Prop} (h1 : ∀ x y, lt y x = true → le y x) (h2 : ∀ x y, lt y x = false → le x y) (ht : ∀ x y z, le x y → le y z → le x z) : ∀ l : List α, (isort lt l).Pairwise le
  | [] => .nil
  | x :: r => ins_pw h1 h2 ht x _ (isort_pw h1 h2 ht r)
theorem pw_one {α : Type} {le : α → α → Prop} (ha : ∀ x y, le x y → le y x → x = y) {l m : List α} (p : l.Perm m) (h1 : l.Pairwise le) (h2 : m.Pairwise le) : l = m := by
  exact p.eq_of_pairwise (fun a b _ _ x y => ha a b x y) h1 h2
theorem ints_one {l m : List Int} (p : l.Perm m) (h : l.Pairwise (· ≤ ·)) : l = isort ltI m :=
  pw_one (fun x y a b => Int.le_antisymm a b) (p.trans (isort_perm ltI m).symm) h (isort_pw (lt := ltI) (le := fun x y => x ≤ y) (fun x y h => by have h' : y < x := of_decide_eq_true h; omega) (fun x y h => by have h' : ¬ y < x := of_decide_eq_false h; omega) (fun x y z => Int.le_trans) m)
def leP (p q : Int × Int) : Prop := p.1 < q.1 ∨ (p.1 = q.1 ∧ p.2 ≤ q.2)
theorem pairs_pw (l : List (Int × Int)) : (isort SrtO.lexB l).Pairwise leP := isort_pw (fun x y h => by
    have := SrtO.lexB_iff.mp h
    unfold leP
    omega) (fun x y h => by
    have := SrtO.lexB_no.mp h
    unfold leP
    omega) (fun x y z h k => by
    unfold leP at *
    omega) l
theorem pairs_one {l m : List (Int × Int)} (p : l.Perm m) (h : l.Pairwise leP) : l = isort SrtO.lexB m :=
  pw_one (fun x y a b => by
    unfold leP at a b
    exact Prod.ext (by omega) (by omega)) (p.trans (isort_perm _ m).symm) h (pairs_pw m)

/-! ### the rules -/
section
variable {K : PySem.W.Frag} {T : Tb} {W : Wd} {st : Sto} {H : Hp}
theorem reps1 {vs : List V} {x : DV} (h : RepVs K W vs [x]) : ∃ v, vs = [v] ∧ RepV K W v x := by
  cases h with
  | cons a b =>
    cases b
    exact ⟨_, rfl, a⟩
theorem reps2 {vs : List V} {x y : DV} (h : RepVs K W vs [x, y]) : ∃ v u, vs = [v, u] ∧ RepV K W v x ∧ RepV K W u y := by
  cases h with
  | cons a b =>
    cases b with
    | cons c d =>
      cases d
      exact ⟨_, _, rfl, a, c⟩
theorem dkall_len {Hs : Hp} : ∀ {vs : List V} {kss : List (List Int)}, DkAll Hs vs kss → vs.length = kss.length
  | _, _, .nil => rfl
  | _, _, .cons _ b => by rw [List.length_cons, List.length_cons, dkall_len b]
end
/-- len of anything -/
def rLenA (K : PySem.W.Frag) : List V → Hp → VK → Prop := fun xs H Q => (∃ x n, xs = [x] ∧ LenV K x H n ∧ Q (.int n) H) ∨ ∃ a kvs, xs = [V.ref a] ∧ Rd H a (.dK kvs) ∧ Q (.int kvs.length) H
theorem call_lenA {X : Cx} : CallR X (.builtin "len") (rLenA X.K) := by
  refine CallR.or call_len fun pins s σ H xs us Q I r h => ?_
  obtain ⟨a, kvs, rfl, hd, q⟩ := h
  rw [Vals.ref1 r]
  exact d_len I hd fun t s' I' => ⟨.int _, H, I', ⟨t, rfl⟩, q⟩
theorem bf_len {K : PySem.W.Frag} {T : Tb} : BfD K T (rLenA K) fLen := by
  intro W st H vs xs z Q hH rv e k
  unfold fLen at e
  split at e
  · cases e
    obtain ⟨v, rfl, a, rfl, hd⟩ := reps1 rv
    refine .inr ⟨a, _, rfl, hH.rd hd, ?_⟩
    simp only [tmap, List.length_map]
    exact k.flat hH (.int _)
  · cases e
    obtain ⟨v, rfl, a, vs, rfl, hd, q⟩ := reps1 rv
    refine .inl ⟨.ref a, vs.length, rfl, .inl ⟨vs, .inl (.inl (hH.frz _ _ hd).1), rfl⟩, ?_⟩
    rw [dkall_len q]
    exact k.flat hH (.int _)
  · obtain ⟨v, rfl, q⟩ := reps1 rv
    split at e
    · rename_i ds e1
      cases e
      obtain ⟨a, ws, rfl, q1, q2, q3⟩ := hH.resL q e1
      refine .inl ⟨.ref a, ws.length, rfl, .inl ⟨ws, q1, rfl⟩, ?_⟩
      rw [dpall_length q2]
      exact k.flat hH (.int _)
    · rename_i ds e1
      cases e
      obtain ⟨a, ws, rfl, q1, q2, q3⟩ := hH.resT q e1
      refine .inl ⟨.ref a, ws.length, rfl, .inr ⟨ws, q1, rfl⟩, ?_⟩
      rw [dpall_length q2]
      exact k.flat hH (.int _)
    · rename_i s e1
      split at e
      · rename_i hl
        cases e
        rw [hH.resS q e1]
        exact .inl ⟨.str s, s.length, rfl, ⟨hl, rfl⟩, k.flat hH (.int _)⟩
      · cases e
    · cases e
  · cases e
def rIntA : List V → Hp → VK → Prop := fun xs H Q => ((∃ i, xs = [.int i] ∧ Q (.int i) H) ∨ ∃ k, xs = [.bl k] ∧ Q (.int (if k then 1 else 0)) H) ∨ ∃ a n, xs = [.str a] ∧ PySem.intText? a = some n ∧ a.length ≤ 640 ∧ Q (.int n) H
theorem call_intA {X : Cx} : CallR X (.type "int") rIntA := CallR.or call_int1 call_int_str
theorem bf_int {K : PySem.W.Frag} {T : Tb} : BfD K T rIntA fInt := by
  intro W st H vs xs z Q hH rv e k
  unfold fInt at e
  split at e
  · obtain ⟨v, rfl, q⟩ := reps1 rv
    split at e
    · rename_i i e1
      cases e
      rw [hH.resI q e1]
      exact .inl (.inl ⟨i, rfl, k.flat hH (.int _)⟩)
    · rename_i s e1
      split at e
      · rename_i hl
        obtain ⟨n, e2, rfl⟩ := Option.map_eq_some_iff.mp e
        rw [hH.resS q e1]
        exact .inr ⟨s, n, rfl, e2, hl, k.flat hH (.int _)⟩
      · cases e
    · cases e
  · cases e
theorem bf_str {K : PySem.W.Frag} {T : Tb} : BfD K T (fun xs H Q => ∃ i, xs = [.int i] ∧ i.natAbs.log2 < 1920 ∧ Q (.str (toString i)) H) fStr := by
  intro W st H vs xs z Q hH rv e k
  unfold fStr at e
  split at e
  · obtain ⟨v, rfl, q⟩ := reps1 rv
    split at e
    · rename_i i e1
      split at e
      · rename_i hl
        cases e
        rw [hH.resI q e1]
        exact ⟨i, rfl, hl, k.flat hH (.str _)⟩
      · cases e
    · cases e
  · cases e
theorem bf_tup {K : PySem.W.Frag} {T : Tb} : BfD K T (fun xs H Q => ∃ p ys, xs = [.ref p] ∧ ((SqL K H p ys ∧ ∀ l, H l = none → Q (.ref l) (upd H l (.tup ys))) ∨ (SqT K H p ys ∧ Q (.ref p) H))) fTup := by
  intro W st H vs xs z Q hH rv e k
  unfold fTup at e
  split at e
  · rename_i x
    obtain ⟨v, rfl, q⟩ := reps1 rv
    split at e
    · rename_i ds e1
      cases e
      obtain ⟨a, ws, rfl, q1, q2, q3⟩ := hH.resL q e1
      exact ⟨a, ws, rfl, .inl ⟨q1, k.tup hH q2 q3⟩⟩
    · rename_i ds e1
      cases e
      obtain ⟨a, ws, rfl, q1, q2, q3⟩ := hH.resT q e1
      refine ⟨a, ws, rfl, .inr ⟨q1, k.here hH ?_⟩⟩
      cases x with
      | d p =>
        cases e1
        exact q
      | mu j =>
        simp only [res] at e1
        split at e1 <;> cases e1
      | dk _ => cases e1
      | dl _ => cases e1
      | xl _ => cases e1
    · cases e
  · cases e
theorem bf_min {K : PySem.W.Frag} {T : Tb} : BfD K T (fun xs H Q => ∃ i j, xs = [.int i, .int j] ∧ Q (.int (if j < i then j else i)) H) fMin := by
  intro W st H vs xs z Q hH rv e k
  unfold fMin at e
  split at e
  · obtain ⟨v, u, rfl, q1, q2⟩ := reps2 rv
    split at e
    · rename_i i j e1 e2
      cases e
      rw [hH.resI q1 e1, hH.resI q2 e2]
      exact ⟨i, j, rfl, k.flat hH (.int _)⟩
    · cases e
  · cases e
theorem bf_max {K : PySem.W.Frag} {T : Tb} : BfD K T (fun xs H Q => ∃ i j, xs = [.int i, .int j] ∧ Q (.int (if j > i then j else i)) H) fMax := by
  intro W st H vs xs z Q hH rv e k
  unfold fMax at e
  split at e
  · obtain ⟨v, u, rfl, q1, q2⟩ := reps2 rv
    split at e
    · rename_i i j e1 e2
      cases e
      rw [hH.resI q1 e1, hH.resI q2 e2]
      exact ⟨i, j, rfl, k.flat hH (.int _)⟩
    · cases e
  · cases e
theorem maxI_spec : ∀ (r : List Int) (m : Int), (maxI r m = m ∨ maxI r m ∈ r) ∧ m ≤ maxI r m ∧ ∀ y ∈ r, y ≤ maxI r m
  | [], m => ⟨.inl rfl, Int.le_refl _, fun _ h => by cases h⟩
  | n :: r, m => by
    unfold maxI
    obtain ⟨h1, h2, h3⟩ := maxI_spec r (if n > m then n else m)
    refine ⟨?_, ?_, fun y hy => ?_⟩
    · rcases h1 with h1 | h1
      · rw [h1]
        split
        · exact .inr List.mem_cons_self
        · exact .inl rfl
      · exact .inr (List.mem_cons_of_mem _ h1)
    · refine Int.le_trans ?_ h2
      split <;> omega
    · rcases List.mem_cons.mp hy with e | e
      · subst e
        refine Int.le_trans ?_ h2
        split <;> omega
      · exact h3 y e
theorem bf_maxL {K : PySem.W.Frag} {T : Tb} : BfD K T (rMax K) fMaxL := by
  intro W st H vs xs z Q hH rv e k
  unfold fMaxL at e
  split at e
  · obtain ⟨v, rfl, q⟩ := reps1 rv
    split at e
    · rename_i ds e1
      split at e
      · rename_i n r e2
        cases e
        obtain ⟨a, ws, rfl, q1, q2, q3⟩ := hH.resL q e1
        rw [dpall_ints q2 e2] at q1
        refine ⟨a, n :: r, rfl, q1, by simp, fun m hm hle => ?_⟩
        obtain ⟨h1, h2, h3⟩ := maxI_spec r n
        have e3 : m = maxI r n := by
          refine Int.le_antisymm ?_ ?_
          · rcases List.mem_cons.mp hm with z | z
            · rw [z]
              exact h2
            · exact h3 m z
          · rcases h1 with z | z
            · rw [z]
              exact hle n List.mem_cons_self
            · exact hle _ (List.mem_cons_of_mem _ z)
        rw [e3]
        exact k.flat hH (.int _)
      · cases e
    · cases e
  · cases e
theorem bf_sum {K : PySem.W.Frag} {T : Tb} : BfD K T (rSum K) fSum := by
  intro W st H vs xs z Q hH rv e k
  unfold fSum at e
  split at e
  · obtain ⟨v, rfl, q⟩ := reps1 rv
    split at e
    · rename_i ds e1
      obtain ⟨ns, e2, rfl⟩ := Option.map_eq_some_iff.mp e
      obtain ⟨a, ws, rfl, q1, q2, q3⟩ := hH.resL q e1
      rw [dpall_ints q2 e2] at q1
      exact ⟨a, ns, rfl, q1, k.flat hH (.int _)⟩
    · cases e
  · cases e
/-! sorted -/
def GoodP (K : PySem.W.Frag) (H : Hp) (x : V) (p : Int × Int) : Prop := ∃ t, x = V.ref t ∧ SqT K H t [.int p.1, .int p.2]
/-- sorted(xs), xs a list of pairs of ints ps -/
def rSortedZ (K : PySem.W.Frag) : List V → Hp → VK → Prop := fun vs H Q => ∃ (a : Addr) (xs : List V) (ps : List (Int × Int)), vs = [V.ref a] ∧ SqL K H a xs ∧ Paired (GoodP K H) xs ps ∧
  ∀ (zs : List (V × (Int × Int))) (q : Addr), zs.Perm (xs.zip ps) → zs.map (·.2) = isort SrtO.lexB ps → H q = none → Q (.ref q) (upd H q (.lst (zs.map (·.1))))
theorem paired_mem {α β : Type} {F : α → β → Prop} : ∀ {l : List α} {m : List β} {x : α}, Paired F l m → x ∈ l → ∃ y, y ∈ m ∧ F x y
  | _, _, _, .cons r t, h => by
    rcases List.mem_cons.mp h with e | h
    · subst e
      exact ⟨_, List.mem_cons_self, r⟩
    · obtain ⟨y, h1, h2⟩ := paired_mem t h
      exact ⟨y, List.mem_cons_of_mem _ h1, h2⟩
/-- a value that is a pair of ints is so of one pair alone -/
theorem goodP_one {X : Cx} {pins : List (Addr × Obj)} {σ : L2.St} {H : Hp} {s : Shared} (I : Inv X pins σ H s) {x : V} {p p' : Int × Int} : GoodP X.K H x p → GoodP X.K H x p' → p = p' := by
  rintro ⟨t, rfl, h1⟩ ⟨_, e, h2⟩
  cases e
  have same := I.tuple_inj h1 h2
  simp only [List.cons.injEq, V.int.injEq, and_true] at same
  exact Prod.ext same.1 same.2
/-- the pairs that stand for the values of a list, as a function of the value -/
theorem goodP_fun {X : Cx} {pins : List (Addr × Obj)} {σ : L2.St} {H : Hp} {s : Shared} (I : Inv X pins σ H s) {xs : List V} {ps : List (Int × Int)} (hx : Paired (GoodP X.K H) xs ps) :
    ∃ k : V → Int × Int, (∀ x ∈ xs, GoodP X.K H x (k x)) ∧ ps = xs.map k ∧ xs.zip ps = xs.map fun x => (x, k x) := by
  classical
  let k : V → Int × Int := fun x => if h : ∃ p, GoodP X.K H x p then h.choose else (0, 0)
  have is : ∀ {x p}, GoodP X.K H x p → k x = p := fun {x p} g => by
    have h : ∃ p, GoodP X.K H x p := ⟨p, g⟩
    have e : k x = h.choose := dif_pos h
    rw [e]
    exact goodP_one I h.choose_spec g
  refine ⟨k, ?_⟩
  induction hx with
  | nil => exact ⟨fun x h => (List.not_mem_nil h).elim, rfl, rfl⟩
  | cons g t ih =>
    obtain ⟨i1, i2, i3⟩ := ih
    have e := is g
    refine ⟨fun y hy => ?_, by rw [List.map_cons, e, ← i2], by rw [List.zip_cons_cons, i3, List.map_cons, e]⟩
    cases hy with
    | head => exact e ▸ g
    | tail _ hy => exact i1 y hy
theorem cr_sortedZ {X : Cx} : CallR X (.builtin "sorted") (rSortedZ X.K) := fun pins s σ H vs us Q I rs ⟨a, xs, ps, e, hs, hx, q⟩ => by
  subst e
  obtain ⟨k, good, ek, ez⟩ := goodP_fun I hx
  obtain ⟨its, rv, at0, hz⟩ := I.list hs
  rw [Vals.ref1 rs]
  have refs := refs_back rv fun x m => (good x m).elim fun t z => ⟨t, z.1⟩
  have long : its.length = xs.length := rv.length.symm
  refine SrtO.sorted_pairsO (k := k ∘ backV) at0.isList (long ▸ hz) (fun v hv => ?_) fun g d out up same keep new there => ?_
  · obtain ⟨t, rfl⟩ := refs.2 v hv
    have inxs : V.ref t ∈ xs := refs.1 ▸ List.mem_map.mpr ⟨.ref t, hv, rfl⟩
    obtain ⟨_, e, two⟩ := good _ inxs
    cases e
    obtain ⟨two', rv2, ⟨o, here, cl, n, da⟩, _⟩ := I.tuple two
    cases rv2 with
    | cons ra rv2 =>
      cases rv2 with
      | cons rb rv2 =>
        cases rv2
        obtain ⟨ta, rfl⟩ := ra
        obtain ⟨tb, rfl⟩ := rb
        exact ⟨t, o, ta, tb, n, rfl, here, cl, da⟩
  · obtain ⟨n, there⟩ := there
    have back := SrtO.Stb.map (ltP_swo k) backV same
    rw [← refs.1] at back
    have sorted' : SrtO.Srtd (ltP k) (out.map backV) := SrtO.srtd_map up
    have allref : ∀ u ∈ out, ∃ a, u = Value.ref a := fun u hu => refs.2 u (same.perm.mem_iff.mp hu)
    have perm : ((out.map backV).map fun x => (x, k x)).Perm (xs.zip ps) := ez ▸ back.perm.map _
    have inorder : ((out.map backV).map fun x => (x, k x)).map (·.2) = isort SrtO.lexB ps := by
      rw [List.map_map, ek]
      refine pairs_one (back.perm.map k) (List.pairwise_map.mpr (sorted'.imp fun {x y} no => ?_))
      have le := SrtO.lexB_no.mp (show SrtO.lexB (k y) (k x) = false from no)
      show (k x).1 < (k y).1 ∨ ((k x).1 = (k y).1 ∧ (k x).2 ≤ (k y).2)
      omega
    have done := q _ d perm inorder (I.hok.fresh new)
    simp only [List.map_map] at done
    rw [show ((·.1) ∘ (fun x => (x, k x)) ∘ backV : Value → V) = backV from rfl] at done
    exact ⟨.ref d, upd H d (.lst (out.map backV)), I.laid (t' := s.toks) keep new ⟨back.len ▸ hz, out, n, vals_back allref, there⟩, rfl, done⟩
def rSortA (K : PySem.W.Frag) : List V → Hp → VK → Prop := fun vs H Q => rSortedI K vs H Q ∨ rSortedZ K vs H Q ∨ ∃ (a : Addr) (kvs : List (Key × V)) (ks : List Int), vs = [.ref a] ∧ Rd H a (.dK kvs) ∧ kvs.map (·.1) = ks.map Sum.inl ∧ ks.length < 64 ∧
  ∀ (ys : List Int) (p : Addr), ys.Perm ks → ys.Pairwise (· ≤ ·) → H p = none → Q (.ref p) (upd H p (.lst (ys.map V.int)))
theorem call_sortA {X : Cx} (hc : X.calm = true) : CallR X (.builtin "sorted") (rSortA X.K) := CallR.or cr_sortedI (CallR.or cr_sortedZ (call_sortedDI hc))
section
variable {K : PySem.W.Frag} {T : Tb} {W : Wd} {st : Sto} {H : Hp} {Q : VK} {x : DV} {v : V}
/-- the two ints of a pair of data -/
theorem dp_pair {Hs : Hp} {v : V} {d : PyData} {p : Int × Int} (h : Dp K Hs v d) (e : pair? d = some p) : GoodP K Hs v p := by
  unfold pair? at e
  split at e
  · cases e
    cases h with
    | tup h1 h2 =>
      cases h2 with
      | cons a b =>
        cases b with
        | cons c d =>
          cases d
          cases a
          cases c
          exact ⟨_, rfl, h1⟩
  · cases e
theorem good_dp {Hs : Hp} {v : V} {p : Int × Int} (h : GoodP K Hs v p) : Dp K Hs v (ofPair p) := by
  obtain ⟨t, rfl, h1⟩ := h
  exact .tup h1 (.cons (.int _) (.cons (.int _) .nil))
theorem dpall_pairs {Hs : Hp} : ∀ {vs : List V} {ds : List PyData} {ps : List (Int × Int)}, DpAll K Hs vs ds → pairs? ds = some ps → Paired (GoodP K Hs) vs ps
  | _, _, _, .nil, e => by
    cases e
    exact .nil
  | _, _, _, .cons (d := d) a b, e => by
    unfold pairs? at e
    split at e
    · rename_i p e1
      obtain ⟨ms, e2, e3⟩ := Option.map_eq_some_iff.mp e
      subst e3
      exact .cons (dp_pair a e1) (dpall_pairs b e2)
    · cases e
theorem zip_good {Hs : Hp} : ∀ {vs : List V} {ps : List (Int × Int)} {z : V × (Int × Int)}, Paired (GoodP K Hs) vs ps → z ∈ vs.zip ps → GoodP K Hs z.1 z.2
  | _, _, _, .cons r t, h => by
    rw [List.zip_cons_cons] at h
    rcases List.mem_cons.mp h with e | h
    · subst e
      exact r
    · exact zip_good t h
theorem dpall_zip {Hs : Hp} : ∀ {zs : List (V × (Int × Int))}, (∀ z ∈ zs, GoodP K Hs z.1 z.2) → DpAll K Hs (zs.map (·.1)) ((zs.map (·.2)).map ofPair)
  | [], _ => .nil
  | z :: r, h => .cons (good_dp (h z List.mem_cons_self)) (dpall_zip fun y hy => h y (List.mem_cons_of_mem _ hy))
theorem okV.ints {ns : List Int} (h : okV K T W Q (.d (.list (ns.map .int))) st) (hH : RelH K T W st H) (l : ns.length ≤ sizeLine) : ∀ p, H p = none → Q (.ref p) (upd H p (.lst (ns.map V.int))) :=
  h.lst hH (dpall_of_ints ns) (by rw [List.length_map]; exact l)
theorem sort_list {ds es : List PyData} (hH : RelH K T W st H) (q : RepV K W v x) (e : res st x = some (.list ds)) (es' : sortedP ds = some es) (k : okV K T W Q (.d (.list es)) st) : rSortA K [v] H Q := by
  obtain ⟨a, ws, rfl, q1, q2, q3⟩ := hH.resL q e
  unfold sortedP at es'
  split at es'
  · rename_i ns e1
    cases es'
    rw [dpall_ints q2 e1] at q1 q3
    refine .inl ⟨a, ns, rfl, q1, fun ns' p h1 h2 n => ?_⟩
    have := ints_one h1 h2
    subst this
    exact k.ints hH (by rw [h1.length_eq]; simpa using q3) p n
  · obtain ⟨ps, e1, rfl⟩ := Option.map_eq_some_iff.mp es'
    have hp := dpall_pairs q2 e1
    have hp' : Paired (GoodP K H) ws ps := L2.Paired.mapP hp fun x p ⟨t, e, h⟩ => ⟨t, e, sqt_mono (fun p o e => (hH.frz p o e).1) h⟩
    refine .inr (.inl ⟨a, ws, ps, rfl, q1, hp', fun zs p h1 h2 n => ?_⟩)
    refine k.lst hH ?_ ?_ p n
    · rw [← h2]
      exact dpall_zip fun z hz => zip_good hp (h1.mem_iff.mp hz)
    · rw [List.length_map, h1.length_eq, List.length_zip]
      omega
theorem keys_tmap (ks : List Int) : (tmap ks).map (·.1) = ks.map Sum.inl := by
  unfold tmap
  rw [List.map_map]
  rfl
theorem sort_keys {ks : List Int} {a : Addr} (hH : RelH K T W st H) (hd : Rd H a (.dK (tmap ks))) (hl : ks.length < 64) (k : okV K T W Q (.d (.list ((isort ltI ks).map .int))) st) : rSortA K [.ref a] H Q := by
  refine .inr (.inr ⟨a, tmap ks, ks, rfl, hd, keys_tmap ks, hl, fun ys p h1 h2 n => ?_⟩)
  have := ints_one h1 h2
  subst this
  have hs : (64 : Nat) ≤ sizeLine := by decide
  exact k.ints hH (by rw [h1.length_eq]; omega) p n
theorem bf_sorted : BfD K T (rSortA K) fSorted := by
  intro W st H vs xs z Q hH rv e k
  unfold fSorted at e
  split at e
  · rename_i x
    obtain ⟨v, rfl, q⟩ := reps1 rv
    split at e
    · split at e
      · rename_i hl
        cases e
        obtain ⟨a, rfl, hd⟩ := q
        exact sort_keys hH (hH.rd hd) hl k
      · cases e
    · rename_i j
      split at e
      · rename_i ks e1
        split at e
        · rename_i hl
          cases e
          obtain ⟨a, rfl, ha⟩ := q
          obtain ⟨_, q2, _⟩ := hH.sto j a _ ha e1
          exact sort_keys hH (.inl q2) hl k
        · cases e
      · rename_i ds e1
        obtain ⟨es, e2, rfl⟩ := Option.map_eq_some_iff.mp e
        exact sort_list hH q (by simp only [res, e1]) e2 k
      · cases e
    · rename_i ds
      obtain ⟨es, e2, rfl⟩ := Option.map_eq_some_iff.mp e
      exact sort_list hH q rfl e2 k
    · cases e
  · cases e
end
end DL
end
section
/-! D6: subscripts, slices, what is walked, comprehensions, loops. -/
namespace DL
open PySem PySem.Spec PyProof.Rows L2

/-! ### pure -/
def oIx : DV → DV → Sto → Option DV := fun x y st => match res st y with
  | some (.int i) => match x with
    | .dl kss => (atI kss i).map .dk
    | _ => match res st x with
      | some (.list ds) => (atI ds i).map .d
      | some (.tuple ds) => (atI ds i).map .d
      | some (.str s) => if s.length ≤ sizeLine then (atI s.cps.toList i).map fun c => .d (.str ⟨#[c]⟩) else none
      | _ => none
  | _ => none
def cutD (ds : List PyData) (lo : Int) : List PyData := (ds.drop (HT.sIx ds.length 0 (some lo))).take (ds.length - HT.sIx ds.length 0 (some lo))
/-- x[lo:] -/
def oFrom : DV → DV → Sto → Option DV := fun x y st => match res st y with
  | some (.int i) => match res st x with
    | some (.list ds) => some (.d (.list (cutD ds i)))
    | some (.tuple ds) => some (.d (.tuple (cutD ds i)))
    | _ => none
  | _ => none
/-- the items that a for or a comprehension walks -/
def It1.dv : It1 → DV
  | .d p => .d p
  | .e => .dk []
  | .m k => .mu k
def itms (st : Sto) : DV → Option (List DV)
  | .d (.list ds) => some (ds.map .d)
  | .d (.tuple ds) => some (ds.map .d)
  | .dl kss => some (kss.map .dk)
  | .xl xs => some (xs.map It1.dv)
  | _ => none
abbrev IF := Rho → MM (List DV)
def iSeq (a : EF) : IF := fun r => bnd (a r) fun x => lft fun st => itms st x
def rng (lo : Int) (n : Nat) : List DV := (List.range n).map fun (i : Nat) => .d (.int (lo + i))
def iRg1 (a : EF) : IF := fun r => bnd (a r) fun x => lft fun st => match res st x with
  | some (.int j) => if -(2 ^ 62) ≤ j ∧ j < 2 ^ 62 then some (rng 0 j.toNat) else none
  | _ => none
def iRg2 (a b : EF) : IF := fun r => bnd (a r) fun x => bnd (b r) fun y => lft fun st => match res st x, res st y with
  | some (.int i), some (.int j) => if -(2 ^ 62) ≤ i ∧ i < 2 ^ 62 ∧ -(2 ^ 62) ≤ j ∧ j < 2 ^ 62 then some (rng i (j - i).toNat) else none
  | _, _ => none
def rng3 (i j c : Int) : List DV := (List.range (Builtin.Range.rangeSize i j c).toNat).map fun (k : Nat) => .d (.int (i + k * c))
def iRg3 (a b c : EF) : IF := fun r => bnd (a r) fun x => bnd (b r) fun y => bnd (c r) fun z => lft fun st => match res st x, res st y, res st z with
  | some (.int i), some (.int j), some (.int c) => if c ≠ 0 ∧ c.natAbs < 1073741824 ∧ Builtin.Range.small i j c = true ∧ 0 ≤ Builtin.Range.rangeSize i j c then some (rng3 i j c) else none
  | _, _, _ => none
def wipeR (r : Rho) : List Nat → Rho
  | [] => r
  | v :: vs => (wipeR r vs).set v none
/-- a comprehension's turns; the new list stands at the place k -/
def lcL (k : Nat) (g : GF) (t : TF) (e : EF) (r : Rho) : List DV → Sto → Option Sto
  | [], st => some st
  | x :: xs, st => match g x r st with
    | none => none
    | some r1 => match t r1 st with
      | some (.ok false, st1) => lcL k g t e r xs st1
      | some (.ok true, st1) => match e r1 st1 with
        | some (.ok (.d p), st2) => match st2[k]? with
          | some (.lst acc) => if acc.length < sizeLine then lcL k g t e r xs (st2.set k (.lst (acc ++ [p]))) else none
          | _ => none
        | _ => none
      | _ => none
def tYesF : TF := fun _ => ret true
def eLc (it : IF) (g : GF) (t : TF) (e : EF) (vs : List Nat) : EF := fun r => bnd (it r) fun xs st => match lcL st.length g t e (wipeR r vs) xs (st ++ [.lst []]) with
  | some st' => match st'[st.length]? with
    | some (.lst ps) => some (.ok (.d (.list ps)), st'.take st.length)
    | _ => none
  | none => none
def forL (g : GF) (b : SF) : List DV → SF
  | [], r, st => some (.fl .nx r, st)
  | x :: xs, r, st => match g x r st with
    | none => none
    | some r1 => match b r1 st with
      | some (.fl .nx r2, st2) => forL g b xs r2 st2
      | some (.fl .ct r2, st2) => forL g b xs r2 st2
      | some (.fl .bk r2, st2) => some (.fl .nx r2, st2)
      | some (.fl (.rt v) r2, st2) => some (.fl (.rt v) r2, st2)
      | some (.er x r2, st2) => some (.er x r2, st2)
      | none => none
def sFor (it : IF) (g : GF) (b : SF) : SF := fun r => sBind (it r) r fun xs st => forL g b xs r st
/-- a while, with fuel -/
def whileL (t : TF) (b : SF) : Nat → SF
  | 0, _, _ => none
  | n + 1, r, st => sBind (t r) r (fun c st1 => match c with
    | false => some (.fl .nx r, st1)
    | true => match b r st1 with
      | some (.fl .nx r2, st2) => whileL t b n r2 st2
      | some (.fl .ct r2, st2) => whileL t b n r2 st2
      | some (.fl .bk r2, st2) => some (.fl .nx r2, st2)
      | some (.fl (.rt v) r2, st2) => some (.fl (.rt v) r2, st2)
      | some (.er x r2, st2) => some (.er x r2, st2)
      | none => none) st

/-! ### subscripts -/
section
variable {K : PySem.W.Frag} {T : Tb}
theorem dpall_at {Hs : Hp} {vs : List V} {ds : List PyData} {i : Int} {p : PyData} (h : DpAll K Hs vs ds) (e : atI ds i = some p) : ∃ v, atI vs i = some v ∧ Dp K Hs v p := by
  unfold atI at e ⊢
  rw [dpall_length h]
  cases hx : ixN ds.length i with
  | none =>
    rw [hx] at e
    cases e
  | some j =>
    rw [hx] at e
    exact dpall_get h e
theorem dkall_get {Hs : Hp} : ∀ {vs : List V} {kss : List (List Int)} {j : Nat} {ks : List Int}, DkAll Hs vs kss → kss[j]? = some ks → ∃ a, vs[j]? = some (.ref a) ∧ Rd Hs a (.dK (tmap ks))
  | _, _, _, _, .nil, e => by simp at e
  | _, _, 0, _, .cons a b, e => by
    simp at e
    subst e
    exact ⟨_, rfl, a⟩
  | _, _, j + 1, _, .cons a b, e => by
    simp at e
    simpa using dkall_get b e
theorem opd_ix {W : Wd} : OpD K T (rIx K) oIx := by
  intro W st H u v x y z Q hH ru rv e k
  unfold oIx at e
  split at e
  · rename_i i e0
    have ev := hH.resI rv e0
    subst ev
    split at e
    · rename_i kss
      obtain ⟨ks, e1, rfl⟩ := Option.map_eq_some_iff.mp e
      obtain ⟨a, vs, rfl, hd, q⟩ := ru
      unfold atI at e1
      cases hx : ixN kss.length i with
      | none =>
        rw [hx] at e1
        cases e1
      | some j =>
        rw [hx] at e1
        obtain ⟨b, e2, q2⟩ := dkall_get q e1
        refine .inl ⟨a, vs, i, .ref b, rfl, rfl, .inl (.inl (hH.frz _ _ hd).1), ?_, k.here hH ⟨b, rfl, q2⟩⟩
        unfold atI
        rw [dkall_len q, hx]
        exact e2
    · split at e
      · rename_i ds e1
        obtain ⟨p, e2, rfl⟩ := Option.map_eq_some_iff.mp e
        obtain ⟨a, ws, rfl, q1, q2, q3⟩ := hH.resL ru e1
        obtain ⟨w, e3, q4⟩ := dpall_at q2 e2
        exact .inl ⟨a, ws, i, w, rfl, rfl, q1, e3, k.flat hH q4⟩
      · rename_i ds e1
        obtain ⟨p, e2, rfl⟩ := Option.map_eq_some_iff.mp e
        obtain ⟨a, ws, rfl, q1, q2, q3⟩ := hH.resT ru e1
        obtain ⟨w, e3, q4⟩ := dpall_at q2 e2
        exact .inr (.inl ⟨a, ws, i, w, rfl, rfl, q1, e3, k.flat hH q4⟩)
      · rename_i s e1
        split at e
        · rename_i hl
          obtain ⟨c, e2, rfl⟩ := Option.map_eq_some_iff.mp e
          exact .inr (.inr ⟨s, i, c, hH.resS ru e1, rfl, hl, e2, k.flat hH (.str _)⟩)
        · cases e
      · cases e
  · cases e
theorem dpall_drop {Hs : Hp} : ∀ {vs : List V} {ds : List PyData} (n : Nat), DpAll K Hs vs ds → DpAll K Hs (vs.drop n) (ds.drop n)
  | _, _, 0, h => h
  | _, _, n + 1, .nil => .nil
  | _, _, n + 1, .cons a b => dpall_drop n b
theorem dpall_take {Hs : Hp} : ∀ {vs : List V} {ds : List PyData} (n : Nat), DpAll K Hs vs ds → DpAll K Hs (vs.take n) (ds.take n)
  | _, _, 0, h => .nil
  | _, _, n + 1, .nil => .nil
  | _, _, n + 1, .cons a b => .cons a (dpall_take n b)
end
section
variable {X : Cx} {T : Tb} {Wx : WX} {a b c e tg iter : Expr} {pos : Pos}
theorem de_ix {fa fb : EF} (ha : DE X T Wx a fa) (hb : DE X T Wx b fb) (hs : PlainIx b := by exact fun _ _ => rfl) : DE X T Wx (.Subscript a b pos) (eOp oIx fa fb) :=
  PE.imp (pe_ix ix_seq ha hb hs) fun σ H Q ⟨r, st, W, hH, hS, h⟩ => by
    refine td_bnd hH hS h fun x st1 v H1 W1 l1 h1 rv s1 h => ?_
    refine td_bnd h1 s1 (h.mono (fun _ _ q => q) fun _ _ q => q.mono l1) fun y st2 u H2 W2 l2 h2 ru s2 h => ?_
    obtain ⟨z, e, k⟩ := h.lft
    exact opd_ix (W := W2) W2 st2 H2 v u x y z Q h2 (rv.mono l2) ru e (k.mono (l1.trans l2))
/-- x[lo:] -/
theorem de_from {fa fb : EF} {p2 : Pos} (ha : DE X T Wx a fa) (hb : DE X T Wx b fb) : DE X T Wx (.Subscript a (.Slice (some b) none none p2) pos) (eOp oFrom fa fb) :=
  PE.imp (pe_slice (sl_list.or sl_tupA) ha (po_some hb) po_none) fun σ H Q ⟨r, st, W, hH, hS, h⟩ => by
    refine td_bnd hH hS h fun x st1 v H1 W1 l1 h1 rv s1 h => ?_
    refine td_bnd h1 s1 (h.mono (fun _ _ q => q) fun _ _ q => q.mono l1) fun y st2 u H2 W2 l2 h2 ru s2 h => ?_
    obtain ⟨z, e, k⟩ := h.lft
    unfold oFrom at e
    split at e
    · rename_i i e0
      refine ⟨i, h2.resI ru e0, ?_⟩
      have cut : ∀ {vs : List V} {ds : List PyData}, DpAll X.K W2.Hs vs ds → DpAll X.K W2.Hs (cutV vs (some i) none) (cutD ds i) := fun {vs ds} q => by
        unfold cutV cutD
        rw [HT.sIx_none, dpall_length q]
        exact dpall_take _ (dpall_drop _ q)
      split at e
      · rename_i ds e1
        cases e
        obtain ⟨p, ws, rfl, q1, q2, q3⟩ := h2.resL (rv.mono l2) e1
        refine .inl ⟨p, ws, rfl, q1, (k.mono (l1.trans l2)).lst h2 (cut q2) (Nat.le_trans (cutV_length _ _ _) q3)⟩
      · rename_i ds e1
        cases e
        have xt : x = .d (.tuple ds) := by
          cases x with
          | d p => cases e1; rfl
          | mu k =>
            simp only [res] at e1
            split at e1 <;> cases e1
          | dk _ => cases e1
          | dl _ => cases e1
          | xl _ => cases e1
        subst xt
        obtain ⟨p, ws, rfl, q1, q2, q3⟩ := h2.resT (rv.mono l2) e1
        refine .inr ⟨p, ws, rfl, q1, fun hw => ?_, fun _ => (k.mono (l1.trans l2)).tup h2 (cut q2) (Nat.le_trans (cutV_length _ _ _) q3)⟩
        have hd : cutD ds i = ds := by
          unfold cutD
          rw [← dpall_length q2, hw.1]
          simp [dpall_length q2]
        rw [hd] at k
        exact (k.mono (l1.trans l2)).here h2 (rv.mono l2)
      · cases e
    · cases e

/-! ### what is walked -/
def ItOk (K : PySem.W.Frag) (T : Tb) (W : Wd) (J : It) (xs : List DV) : Prop := ∀ (i : Nat) (H : Hp) (W1 : Wd) (st : Sto), W.le W1 → RelH K T W1 st H →
  (∀ x, xs[i]? = some x → J.go i H ∧ ∀ v H', J.yld i H v H' → ∃ W2, W1.le W2 ∧ RelH K T W2 st H' ∧ RepV K W2 v x) ∧ (i = xs.length → J.stop i H)
def tiD (K : PySem.W.Frag) (mg : Str → Option Value) (T : Tb) (Wx : WX) (f : IF) : TI := fun σ H R => ∃ r st W, RelH K T W st H ∧ RelS K W r σ ∧
  OutG (f r st) (fun xs st' => ∀ J H' W', W.le W' → RelH K T W' st' H' → ItOk K T W' J xs → R J H') (erX K mg T W Wx σ)
theorem PI.imp {t t' : TI} (h : PI X tg iter t) (k : ∀ σ H Q, t' σ H Q → t σ H Q) : PI X tg iter t' := ⟨fun pins s σ H Q I q => h.run pins s σ H Q I (k σ H Q q)⟩
abbrev DI (X : Cx) (T : Tb) (Wx : WX) (tg iter : Expr) (f : IF) : Prop := PI X tg iter (tiD X.K X.mg T Wx f)
/-- a list or a tuple -/
def iSq (K : PySem.W.Frag) (tl : TE) : TI := fun σ H R => tl σ H fun x H1 => ∃ a, x = .ref a ∧ ((∃ xs, SqL K H1 a xs) ∧ R (Itl K a) H1 ∨ (∃ xs, SqT K H1 a xs) ∧ R (Itt K a) H1)
/-- an iterator has just been made: it is new, and nothing else has changed -/
theorem new_iter {pins : List (Addr × Obj)} {σ : L2.St} {H : Hp} {s : Shared} (I : Inv X pins σ H s) (o : Obj) :
    Inv X pins σ H { s with heap := s.heap.push o } ∧ ∀ b ∈ [s.heap.objs.size], FpOk X pins H b :=
  ⟨I.kept (t' := s.toks) fun _ _ e => Heap.get?_push_of_some _ e, fun b hb => List.mem_singleton.mp hb ▸ I.fpOk (Nat.le_refl _) I.fresh⟩
theorem pi_sq {l : Expr} {tl : TE} (hl : PE X l tl) : PI X tg l (iSq X.K tl) := by
  constructor
  intro pins s σ H R I h
  apply thn (hl.run pins s σ H _ I h)
  rintro v t ⟨x, G, J, r0, a, e, both⟩
  subst e
  cases r0
  rcases both with ⟨⟨xs, hs⟩, q⟩ | ⟨⟨xs, hs⟩, q⟩
  · obtain ⟨its, _, at0, _⟩ := J.list hs
    apply wpAny_pyIter_list at0.isList
    have N := new_iter J { cls := .type "list_iterator", data := .fields #[.ref a, .int 0 0] }
    exact ⟨_, [_], _, _, G, rfl, N.1, turn_list a _, ⟨_, Heap.get?_push_size _ rfl, rfl, rfl⟩, N.2, q⟩
  · obtain ⟨its, _, at0, _⟩ := J.tuple hs
    apply wpAny_pyIter_tuple (items := its.toArray) at0
    have N := new_iter J { cls := .type "tuple_iterator", data := .fields #[.ref a, .int 0 0] }
    exact ⟨_, [_], _, _, G, rfl, N.1, turn_tuple a _, ⟨_, Heap.get?_push_size _ rfl, rfl, rfl⟩, N.2, q⟩
theorem map_d_at {ds : List PyData} {i : Nat} {x : DV} (e : (ds.map DV.d)[i]? = some x) : ∃ p, ds[i]? = some p ∧ x = .d p := by
  rw [List.getElem?_map] at e
  obtain ⟨p, e1, e2⟩ := Option.map_eq_some_iff.mp e
  exact ⟨p, e1, e2.symm⟩
theorem dp_list {K : PySem.W.Frag} {Hs : Hp} {v : V} {ds : List PyData} (h : Dp K Hs v (.list ds)) : ∃ a ws, v = .ref a ∧ SqL K Hs a ws ∧ DpAll K Hs ws ds := by
  cases h with
  | lst g1 g2 => exact ⟨_, _, rfl, g1, g2⟩
theorem dp_tuple {K : PySem.W.Frag} {Hs : Hp} {v : V} {ds : List PyData} (h : Dp K Hs v (.tuple ds)) : ∃ a ws, v = .ref a ∧ SqT K Hs a ws ∧ DpAll K Hs ws ds := by
  cases h with
  | tup g1 g2 => exact ⟨_, _, rfl, g1, g2⟩
theorem RelH.sql {K : PySem.W.Frag} {T : Tb} {W : Wd} {st : Sto} {H : Hp} (h : RelH K T W st H) {a : Addr} {xs : List V} (q : SqL K W.Hs a xs) : SqL K H a xs := sql_mono (fun p o e => (h.frz p o e).1) q
theorem RelH.sqt {K : PySem.W.Frag} {T : Tb} {W : Wd} {st : Sto} {H : Hp} (h : RelH K T W st H) {a : Addr} {xs : List V} (q : SqT K W.Hs a xs) : SqT K H a xs := sqt_mono (fun p o e => (h.frz p o e).1) q
theorem it_list {K : PySem.W.Frag} {T : Tb} {W : Wd} {a : Addr} {ws : List V} {ds : List PyData} (q : SqL K W.Hs a ws) (q2 : DpAll K W.Hs ws ds) : ItOk K T W (Itl K a) (ds.map .d) := fun i H W1 st l h => by
  have q1 := h.sql (sql_mono l.hs q)
  refine ⟨fun x e => ?_, fun e => ⟨ws, q1, ?_⟩⟩
  · obtain ⟨p, e1, rfl⟩ := map_d_at e
    obtain ⟨v, e2, q3⟩ := dpall_get q2 e1
    refine ⟨⟨ws, v, q1, e2⟩, fun u H' y => ?_⟩
    obtain ⟨rfl, y⟩ := y
    have := (y ws q1).symm.trans e2
    cases this
    exact ⟨W1, Wd.le.refl _, h, dp_mono l.hs _ _ q3⟩
  · rw [List.length_map] at e
    rw [e, dpall_length q2]
    exact Nat.le_refl _
theorem it_tup {K : PySem.W.Frag} {T : Tb} {W : Wd} {a : Addr} {ws : List V} {ds : List PyData} (q : SqT K W.Hs a ws) (q2 : DpAll K W.Hs ws ds) : ItOk K T W (Itt K a) (ds.map .d) := fun i H W1 st l h => by
  have q1 := h.sqt (sqt_mono l.hs q)
  refine ⟨fun x e => ?_, fun e => ⟨ws, q1, ?_⟩⟩
  · obtain ⟨p, e1, rfl⟩ := map_d_at e
    obtain ⟨v, e2, q3⟩ := dpall_get q2 e1
    refine ⟨⟨ws, v, q1, e2⟩, fun u H' y => ?_⟩
    obtain ⟨rfl, y⟩ := y
    have := (y ws q1).symm.trans e2
    cases this
    exact ⟨W1, Wd.le.refl _, h, dp_mono l.hs _ _ q3⟩
  · rw [List.length_map] at e
    rw [e, dpall_length q2]
    exact Nat.le_refl _
theorem it_dl {K : PySem.W.Frag} {T : Tb} {W : Wd} {a : Addr} {ws : List V} {kss : List (List Int)} (q : W.Hs a = some (.lst ws)) (q2 : DkAll W.Hs ws kss) : ItOk K T W (Itl K a) (kss.map .dk) := fun i H W1 st l h => by
  have q1 : SqL K H a ws := h.sql (.inl (.inl (l.hs _ _ q)))
  refine ⟨fun x e => ?_, fun e => ⟨ws, q1, ?_⟩⟩
  · rw [List.getElem?_map] at e
    obtain ⟨p, e1, rfl⟩ := Option.map_eq_some_iff.mp e
    obtain ⟨b, e2, q3⟩ := dkall_get q2 e1
    refine ⟨⟨ws, _, q1, e2⟩, fun u H' y => ?_⟩
    obtain ⟨rfl, y⟩ := y
    have := (y ws q1).symm.trans e2
    cases this
    exact ⟨W1, Wd.le.refl _, h, ⟨b, rfl, rd_mono l.hs q3⟩⟩
  · rw [List.length_map] at e
    rw [e, dkall_len q2]
    exact Nat.le_refl _
theorem RepI.dv {K : PySem.W.Frag} {W : Wd} {v : V} : ∀ {x : It1}, RepI K W v x → RepV K W v x.dv
  | .d _, h => h
  | .e, h => h
  | .m _, h => h
theorem xl_get {K : PySem.W.Frag} {W : Wd} : ∀ {vs : List V} {xs : List It1} {i : Nat} {d : It1}, XlAll K W vs xs → xs[i]? = some d → ∃ v, vs[i]? = some v ∧ RepI K W v d
  | _, _, _, _, .nil, e => by simp at e
  | _, _, 0, _, .cons a b, e => by
    simp at e
    subst e
    exact ⟨_, rfl, a⟩
  | _, _, i + 1, _, .cons a b, e => by
    simp at e
    simpa using xl_get b e
theorem xl_len {K : PySem.W.Frag} {W : Wd} : ∀ {vs : List V} {xs : List It1}, XlAll K W vs xs → vs.length = xs.length
  | _, _, .nil => rfl
  | _, _, .cons a b => by rw [List.length_cons, List.length_cons, xl_len b]
theorem it_xl {K : PySem.W.Frag} {T : Tb} {W : Wd} {a : Addr} {ws : List V} {xs : List It1} (q : W.Hs a = some (.lst ws)) (q2 : XlAll K W ws xs) : ItOk K T W (Itl K a) (xs.map It1.dv) := fun i H W1 st l h => by
  have q1 : SqL K H a ws := h.sql (.inl (.inl (l.hs _ _ q)))
  refine ⟨fun x e => ?_, fun e => ⟨ws, q1, ?_⟩⟩
  · rw [List.getElem?_map] at e
    obtain ⟨p, e1, rfl⟩ := Option.map_eq_some_iff.mp e
    obtain ⟨b, e2, q3⟩ := xl_get q2 e1
    refine ⟨⟨ws, _, q1, e2⟩, fun u H' y => ?_⟩
    obtain ⟨rfl, y⟩ := y
    have := (y ws q1).symm.trans e2
    cases this
    exact ⟨W1, Wd.le.refl _, h, (q3.mono l).dv⟩
  · rw [List.length_map] at e
    rw [e, xl_len q2]
    exact Nat.le_refl _
theorem it_rng {K : PySem.W.Frag} {T : Tb} {W : Wd} {lo : Int} {n : Nat} : ItOk K T W (Itr lo n) (rng lo n) := fun i H W1 st l h => by
  refine ⟨fun x e => ?_, fun e => ?_⟩
  · unfold rng at e
    rw [List.getElem?_map] at e
    obtain ⟨j, e1, rfl⟩ := Option.map_eq_some_iff.mp e
    obtain ⟨h1, h2⟩ := List.getElem?_eq_some_iff.mp e1
    rw [List.getElem_range] at h2
    subst h2
    rw [List.length_range] at h1
    refine ⟨h1, fun u H' y => ?_⟩
    obtain ⟨rfl, rfl⟩ := y
    exact ⟨W1, Wd.le.refl _, h, .int _⟩
  · unfold rng at e
    rw [List.length_map, List.length_range] at e
    exact Nat.le_of_eq e.symm
theorem it_rng3 {K : PySem.W.Frag} {T : Tb} {W : Wd} {i j c : Int} : ItOk K T W (Itc i c (Builtin.Range.rangeSize i j c).toNat) (rng3 i j c) := fun k H W1 st l h => by
  refine ⟨fun x e => ?_, fun e => ?_⟩
  · unfold rng3 at e
    rw [List.getElem?_map] at e
    obtain ⟨j, e1, rfl⟩ := Option.map_eq_some_iff.mp e
    obtain ⟨h1, h2⟩ := List.getElem?_eq_some_iff.mp e1
    rw [List.getElem_range] at h2
    subst h2
    rw [List.length_range] at h1
    refine ⟨h1, fun u H' y => ?_⟩
    obtain ⟨rfl, rfl⟩ := y
    exact ⟨W1, Wd.le.refl _, h, .int _⟩
  · unfold rng3 at e
    rw [List.length_map, List.length_range] at e
    exact Nat.le_of_eq e.symm
theorem di_seq {fa : EF} (ha : DE X T Wx iter fa) : DI X T Wx tg iter (iSeq fa) :=
  PI.imp (pi_sq ha) fun σ H R ⟨r, st, W, hH, hS, h⟩ => by
    refine td_bnd hH hS h fun x st1 v H1 W1 l1 h1 rv s1 h => ?_
    obtain ⟨z, e, k⟩ := h.lft
    unfold itms at e
    split at e
    · cases e
      obtain ⟨a, ws, rfl, q1, q2⟩ := dp_list rv
      exact ⟨a, rfl, .inl ⟨⟨ws, h1.sql q1⟩, k _ H1 W1 l1 h1 (it_list q1 q2)⟩⟩
    · cases e
      obtain ⟨a, ws, rfl, q1, q2⟩ := dp_tuple rv
      exact ⟨a, rfl, .inr ⟨⟨ws, h1.sqt q1⟩, k _ H1 W1 l1 h1 (it_tup q1 q2)⟩⟩
    · cases e
      obtain ⟨a, ws, rfl, q1, q2⟩ := rv
      exact ⟨a, rfl, .inl ⟨⟨ws, h1.sql (.inl (.inl q1))⟩, k _ H1 W1 l1 h1 (it_dl q1 q2)⟩⟩
    · cases e
      obtain ⟨a, ws, rfl, q1, q2⟩ := rv
      exact ⟨a, rfl, .inl ⟨⟨ws, h1.sql (.inl (.inl q1))⟩, k _ H1 W1 l1 h1 (it_xl q1 q2)⟩⟩
    · cases e
theorem di_rg1 {fa : EF} {p : Pos} (hg : Gl X "range") (hm : X.mg "range" = none) (ha : DE X T Wx a fa) (hs1 : starEach [a] X.env = (false, eval a X.env) :: starEach [] X.env := by rfl) (hs : starEach [a] X.env = [(false, eval a X.env)] := by rfl) : DI X T Wx tg (.Call (.Name "range" p) [a] [] pos) (iRg1 fa) :=
  PI.imp (pi_range1 hg hm (pa_cons ha pa_nil hs1) hs) fun σ H R ⟨r, st, W, hH, hS, h⟩ => by
    refine td_bnd hH hS h fun x st1 v H1 W1 l1 h1 rv s1 h => ?_
    obtain ⟨z, e, k⟩ := h.lft
    split at e
    · rename_i j e1
      split at e
      · rename_i c
        cases e
        rw [h1.resI rv e1]
        exact ⟨j, rfl, c.1, c.2, k _ H1 W1 l1 h1 it_rng⟩
      · cases e
    · cases e
theorem di_rg2 {fa fb : EF} {p : Pos} (hg : Gl X "range") (hm : X.mg "range" = none) (ha : DE X T Wx a fa) (hb : DE X T Wx b fb) (hs1 : starEach [a, b] X.env = (false, eval a X.env) :: starEach [b] X.env := by rfl) (hs2 : starEach [b] X.env = (false, eval b X.env) :: starEach [] X.env := by rfl)
    (hs : starEach [a, b] X.env = [(false, eval a X.env), (false, eval b X.env)] := by rfl) (hs3 : starEach [b] X.env = [(false, eval b X.env)] := by rfl) : DI X T Wx tg (.Call (.Name "range" p) [a, b] [] pos) (iRg2 fa fb) :=
  PI.imp (pi_range2 hg hm (pa_cons ha (pa_cons hb pa_nil hs2) hs1) hs hs3) fun σ H R ⟨r, st, W, hH, hS, h⟩ => by
    refine td_bnd hH hS h fun x st1 v H1 W1 l1 h1 rv s1 h => ?_
    refine td_bnd h1 s1 (h.mono (fun _ _ q => q) fun _ _ q => q.mono l1) fun y st2 u H2 W2 l2 h2 ru s2 h => ?_
    obtain ⟨z, e, k⟩ := h.lft
    split at e
    · rename_i i j e1 e2
      split at e
      · rename_i c
        cases e
        rw [h2.resI (rv.mono l2) e1, h2.resI ru e2]
        exact ⟨i, j, rfl, c, k _ H2 W2 (l1.trans l2) h2 it_rng⟩
      · cases e
    · cases e
theorem di_rg3 {fa fb fc : EF} {p : Pos} (hg : Gl X "range") (hm : X.mg "range" = none) (ha : DE X T Wx a fa) (hb : DE X T Wx b fb) (hc : DE X T Wx c fc)
    (h : ∀ t, PA X [a, b, c] t → PI X tg (.Call (.Name "range" p) [a, b, c] [] pos) (iRng3 t))
    (hs1 : starEach [a, b, c] X.env = (false, eval a X.env) :: starEach [b, c] X.env := by rfl) (hs2 : starEach [b, c] X.env = (false, eval b X.env) :: starEach [c] X.env := by rfl) (hs3 : starEach [c] X.env = (false, eval c X.env) :: starEach [] X.env := by rfl) : DI X T Wx tg (.Call (.Name "range" p) [a, b, c] [] pos) (iRg3 fa fb fc) :=
  PI.imp (h _ (pa_cons ha (pa_cons hb (pa_cons hc pa_nil hs3) hs2) hs1)) fun σ H R ⟨r, st, W, hH, hS, h⟩ => by
    refine td_bnd hH hS h fun x st1 v H1 W1 l1 h1 rv s1 h => ?_
    refine td_bnd h1 s1 (h.mono (fun _ _ q => q) fun _ _ q => q.mono l1) fun y st2 u H2 W2 l2 h2 ru s2 h => ?_
    refine td_bnd h2 s2 (h.mono (fun _ _ q => q) fun _ _ q => q.mono l2) fun w st3 t H3 W3 l3 h3 rt s3 h => ?_
    obtain ⟨z, e, k⟩ := h.lft
    split at e
    · rename_i i j c e1 e2 e3
      split at e
      · rename_i cc
        cases e
        rw [h3.resI (rv.mono (l2.trans l3)) e1, h3.resI (ru.mono l3) e2, h3.resI rt e3]
        exact ⟨i, j, c, (Builtin.Range.rangeSize i j c).toNat, rfl, ⟨cc.1, cc.2.1, cc.2.2.1, by rw [Int.toNat_of_nonneg cc.2.2.2]⟩, k _ H3 W3 (l1.trans (l2.trans l3)) h3 it_rng3⟩
      · cases e
    · cases e

/-! ### for, while -/
section
variable {K : PySem.W.Frag} {mg : Str → Option Value}
theorem drop_some {α : Type} {xs : List α} {i : Nat} {x : α} (e : xs[i]? = some x) : xs.drop i = x :: xs.drop (i + 1) := by
  obtain ⟨h1, h2⟩ := List.getElem?_eq_some_iff.mp e
  rw [List.drop_eq_getElem_cons h1, h2]
theorem for_d {g : GF} {gs : List Nat} {b : SF} {tg' : TG} {J : It} {xs : List DV} {D : Ends} {σ : L2.St} {H : Hp} {r : Rho} {st : Sto} {W : Wd}
    (hg : ∀ v σ H Q W st r x r', RelH K T W st H → RelS K W r σ → RepV K W v x → g x r st = some r' → (∀ σ', RelS K W r' σ' → Upd gs σ σ' → Q σ' H) → tg' v σ H Q)
    (hJ : ItOk K T W J xs) (hH : RelH K T W st H) (hS : RelS K W r σ) (h : OutS K mg T Wx W D (forL g b xs r st)) :
    ∃ W : Nat → Nat → L2.St → Hp → Prop, (∃ m, W 0 m σ H) ∧ ∀ i m σ H, W i m σ H →
      (J.stop i H ∧ D.nx σ H) ∨ (J.go i H ∧ ∃ N : L2.St → Hp → Prop, (∀ σ' H', N σ' H' → ∃ m', m' < m ∧ W (i + 1) m' σ' H') ∧ ∀ x H', J.yld i H x H' → tg' x σ H' fun σ2 H2 => tsD K mg T Wx b { D with nx := N, ct := N, bk := D.nx } σ2 H2) := by
  refine ⟨fun i m σ H => m = xs.length - i ∧ i ≤ xs.length ∧ ∃ r st W1, W.le W1 ∧ RelH K T W1 st H ∧ RelS K W1 r σ ∧ OutS K mg T Wx W1 D (forL g b (xs.drop i) r st), ⟨xs.length, by simp, Nat.zero_le _, r, st, W, Wd.le.refl W, hH, hS, h⟩, ?_⟩
  rintro i m σ H ⟨rfl, hi, r, st, W1, l1, h1, s1, h⟩
  obtain ⟨j1, j2⟩ := hJ i H W1 st l1 h1
  by_cases hlt : i < xs.length
  · have ex : xs[i]? = some xs[i] := List.getElem?_eq_getElem hlt
    obtain ⟨hgo, hy⟩ := j1 _ ex
    rw [drop_some ex] at h
    refine .inr ⟨hgo, fun σ' H' => ∃ r st W1, W.le W1 ∧ RelH K T W1 st H' ∧ RelS K W1 r σ' ∧ OutS K mg T Wx W1 D (forL g b (xs.drop (i + 1)) r st), fun σ' H' n => ⟨xs.length - (i + 1), by omega, rfl, hlt, n⟩, fun v H' y => ?_⟩
    obtain ⟨W2, l2, h2, rv⟩ := hy v H' y
    unfold forL at h
    split at h
    · exact h.elim
    · rename_i r1 eg
      refine hg v σ H' _ W2 st r _ r1 h2 (s1.mono l2) rv eg fun σ' s2 _ => ⟨r1, st, W2, h2, s2, ?_⟩
      generalize b r1 st = z at h ⊢
      match z, h with
      | some (.fl .nx r2, st2), h => exact fun σ3 H3 W3 l3 h3 s3 => ⟨r2, st2, W3, l1.trans (l2.trans l3), h3, s3, OutS.mono (l2.trans l3) h⟩
      | some (.fl .ct r2, st2), h => exact fun σ3 H3 W3 l3 h3 s3 => ⟨r2, st2, W3, l1.trans (l2.trans l3), h3, s3, OutS.mono (l2.trans l3) h⟩
      | some (.fl .bk r2, st2), h => exact fun σ3 H3 W3 l3 h3 s3 => h σ3 H3 W3 (l2.trans l3) h3 s3
      | some (.fl (.rt x) r2, st2), h => exact fun v3 H3 W3 l3 h3 s3 => h v3 H3 W3 (l2.trans l3) h3 s3
      | some (.er x r2, st2), h => exact fun c dd σ3 H3 W3 l3 h3 s3 => h c dd σ3 H3 W3 (l2.trans l3) h3 s3
  · have e : i = xs.length := by omega
    subst e
    rw [List.drop_length] at h
    exact .inl ⟨j2 rfl, h σ H W1 (Wd.le.refl _) h1 s1⟩
end
theorem ds_for {it : IF} {g : GF} {gs : List Nat} {b : SF} {body : List Stmt} (hi : DI X T Wx tg iter it) (hg : DG X T tg g gs) (hb : DSs X T Wx body b)
    (h : ∀ wi t u, PI X tg iter wi → PG X tg t → PSs X body u → PS X (.For tg iter body [] pos) (tFor wi t u)) : DS X T Wx (.For tg iter body [] pos) (sFor it g b) := by
  obtain ⟨t, g1, g2⟩ := hg
  refine PS.imp (h _ _ _ hi g1 hb) fun D σ H ⟨r, st, W, hH, hS, h⟩ => ⟨r, st, W, hH, hS, (OutS.bind hS h).mono (fun xs st1 k J H' W' l h1 hJ => ?_) fun _ _ q => q⟩
  exact for_d g2 hJ h1 (hS.mono l) (k.mono l)
theorem ds_while {t : TF} {b : SF} {body : List Stmt} {n : Nat} (ht : DT X T Wx c t) (hb : DSs X T Wx body b)
    (h : ∀ tc u, PT X c tc → PSs X body u → PS X (.While c body [] pos) (tWhile tc u)) : DS X T Wx (.While c body [] pos) (whileL t b n) := by
  refine PS.imp (h _ _ ht hb) fun D σ H ⟨r, st, W, hH, hS, h⟩ => ?_
  refine ⟨fun m σ H => ∃ r st W1, W.le W1 ∧ RelH X.K T W1 st H ∧ RelS X.K W1 r σ ∧ OutS X.K X.mg T Wx W1 D (whileL t b m r st), ⟨n, r, st, W, Wd.le.refl W, hH, hS, h⟩, ?_⟩
  rintro m σ H ⟨r, st, W1, l1, h1, s1, h⟩
  cases m with
  | zero => exact h.elim
  | succ m =>
    unfold whileL at h
    refine ttds_bnd h1 s1 h fun x st1 H2 W2 l2 h2 s2 h => ?_
    cases x with
    | false => exact h σ H2 W2 (Wd.le.refl _) h2 s2
    | true =>
      refine ⟨fun σ' H' => ∃ r st W1, W.le W1 ∧ RelH X.K T W1 st H' ∧ RelS X.K W1 r σ' ∧ OutS X.K X.mg T Wx W1 D (whileL t b m r st), fun σ' H' q => ⟨m, Nat.lt_succ_self m, q⟩, ?_⟩
      show tsD X.K X.mg T Wx b _ σ H2
      refine ⟨r, st1, W2, h2, s2, ?_⟩
      simp only at h
      generalize b r st1 = z at h ⊢
      match z, h with
      | some (.fl .nx r2, st2), h => exact fun σ3 H3 W3 l3 h3 s3 => ⟨r2, st2, W3, l1.trans (l2.trans l3), h3, s3, OutS.mono l3 h⟩
      | some (.fl .ct r2, st2), h => exact fun σ3 H3 W3 l3 h3 s3 => ⟨r2, st2, W3, l1.trans (l2.trans l3), h3, s3, OutS.mono l3 h⟩
      | some (.fl .bk r2, st2), h => exact h
      | some (.fl (.rt x) r2, st2), h => exact h
      | some (.er x r2, st2), h => exact h
end
end DL
end
section
/-! D7: list comprehensions. -/
namespace DL
open PySem PySem.Spec PyProof.Rows L2
abbrev W0x : WX := fun _ _ _ _ => False
section
variable {K : PySem.W.Frag} {mg : Str → Option Value} {T : Tb} {W W' : Wd} {st : Sto} {H : Hp} {r : Rho} {σ : L2.St}
theorem RelS.wipe (h : RelS K W r σ) : ∀ vs : List Nat, RelS K W (wipeR r vs) (L2.wipe σ vs)
  | [] => h
  | v :: vs => (RelS.wipe h vs).forget
theorem wipe_at (σ : L2.St) : ∀ (vs : List Nat) (j : Nat), (L2.wipe σ vs)[j]? = if j ∈ vs then (if j < σ.length then some none else none) else σ[j]?
  | [], j => by simp [L2.wipe]
  | v :: vs, j => by
    show ((L2.wipe σ vs).set v none)[j]? = _
    by_cases hj : v = j
    · subst hj
      rw [List.getElem?_set]
      simp only [List.mem_cons, true_or, if_true, L2.wipe_length]
    · rw [List.getElem?_set_ne hj, wipe_at σ vs j]
      have : (j ∈ v :: vs) ↔ j ∈ vs := by
        simp only [List.mem_cons]
        exact ⟨fun h => h.resolve_left (fun z => hj z.symm), .inr⟩
      simp only [this]
theorem wipe_upd {vs gs : List Nat} {σ' : L2.St} (h : Upd gs (L2.wipe σ vs) σ') (hs : ∀ i ∈ gs, i ∈ vs) : L2.wipe σ' vs = L2.wipe σ vs := by
  refine List.ext_getElem? fun j => ?_
  rw [wipe_at, wipe_at]
  have hl : σ'.length = σ.length := by rw [h.len, L2.wipe_length]
  by_cases hj : j ∈ vs
  · rw [if_pos hj, if_pos hj, hl]
  · rw [if_neg hj, if_neg hj, h.off j fun z => hj (hs j z), wipe_at, if_neg hj]
/-- the place of the new list -/
theorem push_at {D : Addr} {W1 W2 : Wd} (h1 : RelH K T W1 st H) (l : (W1.push D).le W2) : W2.L[st.length]? = some D := by
  obtain ⟨m, e⟩ := l.more
  rw [e]
  show ((W1.L ++ [D]) ++ m)[st.length]? = some D
  rw [← h1.len]
  simp
theorem lc_read {Wx : WX} {it : IF} {g : GF} {gs vs : List Nat} {t : TF} {e : EF} {tg' : TG} {Q : VK} (hg : GOk K T tg' g gs) (hs : ∀ i ∈ gs, i ∈ vs) (h : tD K mg T Wx (eLc it g t e vs) σ H Q) :
    tLc (tiD K mg T Wx it) tg' (ttD K mg T W0x t) (tD K mg T W0x e) vs σ H Q := by
  obtain ⟨r, st, W, hH, hS, h⟩ := h
  refine ⟨r, st, W, hH, hS, h.bnd.mono (fun xs st1 h J H1 W1 l1 h1 hJ D n => ?_) fun _ _ q => q⟩
  split at h
  · rename_i stE eE
    split at h
    · rename_i ps eP
      have hD := RelH.push (c := .lst []) (o := .lst []) h1 n (fun _ z => nomatch z) ⟨[], upd_same, Nat.zero_le _, .nil⟩
      refine ⟨fun i m H => m = xs.length - i ∧ i ≤ xs.length ∧ ∃ st2 W2, (W1.push D).le W2 ∧ RelH K T W2 st2 H ∧ lcL st1.length g t e (wipeR r vs) (xs.drop i) st2 = some stE, ⟨xs.length, by simp, Nat.zero_le _, _, _, Wd.le.refl _, hD, eE⟩, ?_⟩
      rintro i m H ⟨rfl, hi, st2, W2, l2, h2, e2⟩
      have l12 : W1.le W2 := Wd.le_push.trans l2
      obtain ⟨j1, j2⟩ := hJ i H W2 st2 l12 h2
      by_cases hlt : i < xs.length
      · have ex : xs[i]? = some xs[i] := List.getElem?_eq_getElem hlt
        obtain ⟨hgo, hy⟩ := j1 _ ex
        rw [drop_some ex] at e2
        refine .inr ⟨hgo, fun H' => ∃ st2 W2, (W1.push D).le W2 ∧ RelH K T W2 st2 H' ∧ lcL st1.length g t e (wipeR r vs) (xs.drop (i + 1)) st2 = some stE, fun H' q => ⟨xs.length - (i + 1), by omega, rfl, hlt, q⟩, fun v H' y => ?_⟩
        obtain ⟨W3, l3, h3, rv⟩ := hy v H' y
        unfold lcL at e2
        split at e2
        · cases e2
        · rename_i r1 eg
          have s3 := (hS.mono (l1.trans (l12.trans l3))).wipe vs
          refine hg v _ H' _ W3 st2 _ _ r1 h3 s3 rv eg fun σ2 s2 u2 => ⟨wipe_upd u2 hs, r1, st2, W3, h3, s2, ?_⟩
          split at e2
          · rename_i st4 et
            rw [et]
            exact fun H4 W4 l4 h4 => ⟨st4, W4, l2.trans (l3.trans l4), h4, e2⟩
          · rename_i st4 et
            rw [et]
            intro H4 W4 l4 h4
            show tD K mg T W0x e σ2 H4 _
            refine ⟨r1, st4, W4, h4, s2.mono l4, ?_⟩
            split at e2
            · rename_i p st5 ee
              rw [ee]
              intro w H5 W5 l5 h5 rw5
              have l25 : (W1.push D).le W5 := l2.trans (l3.trans (l4.trans l5))
              have aD := push_at h1 l25
              split at e2
              · rename_i acc ea
                split at e2
                · rename_i hz
                  obtain ⟨q1, us, q2, q3, q4⟩ := h5.sto _ _ _ aD ea
                  have hl := dpall_length q4
                  refine ⟨us, q2, by omega, _, W5, l25, h5.set (c := .lst (acc ++ [p])) aD ea ⟨us ++ [w], upd_same, by rw [List.length_append, List.length_cons, List.length_nil]; omega, dpall_append q4 (.cons rw5 .nil)⟩, e2⟩
                · cases e2
              · cases e2
            · cases e2
          · cases e2
      · have ei : i = xs.length := by omega
        subst ei
        rw [List.drop_length] at e2
        cases e2
        have aD := push_at h1 l2
        obtain ⟨q1, us, q2, q3, q4⟩ := h2.sto _ _ _ aD eP
        refine .inl ⟨j2 rfl, ?_⟩
        exact h _ H _ (l1.trans (frozen_le l12 h1 q1)) (h2.frozen (Nat.le_refl _) aD q1 q2 q3 (h1.capOf (frozen_le l12 h1 q1))) (.lst (.inl (.inl (by show upd W2.Hs D _ D = _; rw [upd_same]))) (dpall_mono (fun b u z => by show upd W2.Hs D _ b = some u; rw [upd_ne (ne_of_none z q1)]; exact z) _ _ q4))
    · exact h.elim
  · exact h.elim
end
section
variable {X : Cx} {T : Tb} {Wx : WX} {elt tg iter : Expr} {pos : Pos} {ifs : List Expr} {scope : Scope} {own : List (Str × Nat)}
theorem ptd_yes {Y : Cx} : PTs Y [] (ttD Y.K Y.mg T W0x tYesF) := ⟨fun pins s σ H Q I ⟨r, st, W, hH, hS, h⟩ => pts_nil.run pins s σ H Q I (h H W (Wd.le.refl W) hH)⟩
theorem ptd_one {Y : Cx} {c : Expr} {f : TF} (h : DT Y T W0x c f) : PTs Y [c] (ttD Y.K Y.mg T W0x f) := pts_one h
theorem de_lc {it : IF} {g : GF} {gs : List Nat} {t : TF} {e : EF} {tg' : TG} (hc : X.calm = true) (hN : X.N.Nodup) (hi : DI X T Wx tg iter it) (ok : BlkOk X.N X.env.scope scope own)
    (hg : ∀ (s : Shared) (H : Hp) (C : Addr) (cl : List (Str × Addr)) (fp : List Addr), PG (X.blk s H scope (compEnvC scope cl C X.env) fp) tg tg') (gok : GOk X.K T tg' g gs) (hs' : ∀ i ∈ gs, i ∈ own.map (·.2))
    (ht : ∀ (s : Shared) (H : Hp) (C : Addr) (cl : List (Str × Addr)) (fp : List Addr), PTs (X.blk s H scope (compEnvC scope cl C X.env) fp) ifs (ttD X.K X.mg T W0x t))
    (he : ∀ (s : Shared) (H : Hp) (C : Addr) (cl : List (Str × Addr)) (fp : List Addr), DE (X.blk s H scope (compEnvC scope cl C X.env) fp) T W0x elt e) (hs : ∀ x, foldedSetIterable iter X.env x = pure x := by intro _; rfl) :
    DE X T Wx (.ListComp elt [⟨tg, iter, ifs, 0⟩] scope pos) (eLc it g t e (own.map (·.2))) :=
  PE.imp (pe_lc hc hN hi ok hg ht he hs) fun σ H Q h => lc_read gok hs' h
theorem ds_setLc {i : Nat} {y : Str} {py spos : Pos} {it : IF} {g : GF} {gs : List Nat} {t : TF} {e : EF} {tg' : TG} (hc : X.calm = true) (hN : X.N.Nodup) (hy : X.N[i]? = some y) (hyl : X.env.scope.names.lookup y = some .local)
    (hsw : swapsWith (.ListComp elt [⟨tg, iter, ifs, 0⟩] scope pos) (some (.Name y py)) spos.line X.env = pure true) (hi : DI X T Wx tg iter it) (ok : BlkOk X.N X.env.scope scope own)
    (hg : ∀ (s : Shared) (H : Hp) (C : Addr) (cl : List (Str × Addr)) (fp : List Addr), PG (X.blk s H scope (compEnvC scope cl C X.env) fp) tg tg') (gok : GOk X.K T tg' g gs) (hs' : ∀ i ∈ gs, i ∈ own.map (·.2))
    (ht : ∀ (s : Shared) (H : Hp) (C : Addr) (cl : List (Str × Addr)) (fp : List Addr), PTs (X.blk s H scope (compEnvC scope cl C X.env) fp) ifs (ttD X.K X.mg T W0x t))
    (he : ∀ (s : Shared) (H : Hp) (C : Addr) (cl : List (Str × Addr)) (fp : List Addr), DE (X.blk s H scope (compEnvC scope cl C X.env) fp) T W0x elt e) (hs : ∀ x, foldedSetIterable iter X.env x = pure x := by intro _; rfl) :
    DS X T Wx (.Assign [.Name y py] (.ListComp elt [⟨tg, iter, ifs, 0⟩] scope pos) spos) (sSet i (eLc it g t e (own.map (·.2)))) :=
  PS.imp (ps_setLc hc hN hy hyl hsw hi ok hg ht he hs) fun D σ H ⟨r, st, W, hH, hS, h⟩ => lc_read gok hs' (tds_bnd hH hS h fun x st1 v H1 W1 l1 h1 rv s1 h => h _ H1 W1 (Wd.le.refl W1) h1 (s1.set rv))
end
end DL
end
section
/-! D7b: comprehensions with two fors; over a dict's keys. -/
namespace DL
open PySem PySem.Spec PyProof.Rows L2
def lcL2 (k : Nat) (g : GF) (t : TF) (it1 : IF) (g1 : GF) (t1 : TF) (e : EF) (vs1 : List Nat) (r : Rho) : List DV → Sto → Option Sto
  | [], st => some st
  | x :: xs, st => match g x r st with
    | none => none
    | some r1 => match t r1 st with
      | some (.ok false, st1) => lcL2 k g t it1 g1 t1 e vs1 r xs st1
      | some (.ok true, st1) => match it1 r1 st1 with
        | some (.ok ys, st2) => match lcL k g1 t1 e (wipeR r1 vs1) ys st2 with
          | some st3 => lcL2 k g t it1 g1 t1 e vs1 r xs st3
          | none => none
        | _ => none
      | _ => none
def eLc2 (it : IF) (g : GF) (t : TF) (it1 : IF) (g1 : GF) (t1 : TF) (e : EF) (vs vs1 : List Nat) : EF := fun r => bnd (it r) fun xs st => match lcL2 st.length g t it1 g1 t1 e vs1 (wipeR r vs) xs (st ++ [.lst []]) with
  | some st' => match st'[st.length]? with
    | some (.lst ps) => some (.ok (.d (.list ps)), st'.take st.length)
    | _ => none
  | none => none
section
variable {K : PySem.W.Frag} {mg : Str → Option Value} {T : Tb}
/-- the turns of one for: from the world Wb, where the new list stands at the place k -/
theorem lc_in {g : GF} {gs vs : List Nat} {t : TF} {e : EF} {tg' : TG} {J : It} {xs : List DV} {k : Nat} {D : Addr} {r : Rho} {σ : L2.St} {Wb W0 : Wd} {st stE : Sto} {H : Hp} {Fin : Hp → Prop}
    (hg : GOk K T tg' g gs) (hs : ∀ i ∈ gs, i ∈ vs) (l0 : Wb.le W0) (hb : Wb.L[k]? = some D) (hJ : ItOk K T W0 J xs) (hH : RelH K T W0 st H) (hS : RelS K W0 r σ) (eE : lcL k g t e (wipeR r vs) xs st = some stE)
    (fin : ∀ H' W', W0.le W' → RelH K T W' stE H' → Fin H') :
    ∃ W : Nat → Nat → Hp → Prop, (∃ m, W 0 m H) ∧ ∀ i m H, W i m H → (J.stop i H ∧ Fin H) ∨ (J.go i H ∧ ∃ Nx : Hp → Prop, (∀ H', Nx H' → ∃ m', m' < m ∧ W (i + 1) m' H') ∧ ∀ x H', J.yld i H x H' → tg' x (L2.wipe σ vs) H' fun σ2 H2 => L2.wipe σ2 vs = L2.wipe σ vs ∧ ttD K mg T W0x t σ2 H2 fun b H3 =>
      if b = true then tD K mg T W0x e σ2 H3 fun y H4 => ∃ acc, H4 D = some (.lst acc) ∧ acc.length < sizeLine ∧ Nx (upd H4 D (.lst (acc ++ [y]))) else Nx H3) := by
  refine ⟨fun i m H => m = xs.length - i ∧ i ≤ xs.length ∧ ∃ st2 W2, W0.le W2 ∧ RelH K T W2 st2 H ∧ lcL k g t e (wipeR r vs) (xs.drop i) st2 = some stE, ⟨xs.length, by simp, Nat.zero_le _, _, _, Wd.le.refl _, hH, eE⟩, ?_⟩
  rintro i m H ⟨rfl, hi, st2, W2, l2, h2, e2⟩
  have atD : ∀ {W5 : Wd}, W0.le W5 → W5.L[k]? = some D := fun {W5} l => by
    obtain ⟨m, e⟩ := (l0.trans l).more
    rw [e, List.getElem?_append_left (List.getElem?_eq_some_iff.mp hb).1]
    exact hb
  obtain ⟨j1, j2⟩ := hJ i H W2 st2 l2 h2
  by_cases hlt : i < xs.length
  · have ex : xs[i]? = some xs[i] := List.getElem?_eq_getElem hlt
    obtain ⟨hgo, hy⟩ := j1 _ ex
    rw [drop_some ex] at e2
    refine .inr ⟨hgo, fun H' => ∃ st2 W2, W0.le W2 ∧ RelH K T W2 st2 H' ∧ lcL k g t e (wipeR r vs) (xs.drop (i + 1)) st2 = some stE, fun H' q => ⟨xs.length - (i + 1), by omega, rfl, hlt, q⟩, fun v H' y => ?_⟩
    obtain ⟨W3, l3, h3, rv⟩ := hy v H' y
    unfold lcL at e2
    split at e2
    · cases e2
    · rename_i r1 eg
      have s3 := (hS.mono (l2.trans l3)).wipe vs
      refine hg v _ H' _ W3 st2 _ _ r1 h3 s3 rv eg fun σ2 s2 u2 => ⟨wipe_upd u2 hs, r1, st2, W3, h3, s2, ?_⟩
      split at e2
      · rename_i st4 et
        rw [et]
        exact fun H4 W4 l4 h4 => ⟨st4, W4, l2.trans (l3.trans l4), h4, e2⟩
      · rename_i st4 et
        rw [et]
        intro H4 W4 l4 h4
        show tD K mg T W0x e σ2 H4 _
        refine ⟨r1, st4, W4, h4, s2.mono l4, ?_⟩
        split at e2
        · rename_i p st5 ee
          rw [ee]
          intro w H5 W5 l5 h5 rw5
          have l25 : W0.le W5 := l2.trans (l3.trans (l4.trans l5))
          have aD := atD l25
          split at e2
          · rename_i acc ea
            split at e2
            · rename_i hz
              obtain ⟨q1, us, q2, q3, q4⟩ := h5.sto _ _ _ aD ea
              have hl := dpall_length q4
              refine ⟨us, q2, by omega, _, W5, l25, h5.set (c := .lst (acc ++ [p])) aD ea ⟨us ++ [w], upd_same, by rw [List.length_append, List.length_cons, List.length_nil]; omega, dpall_append q4 (.cons rw5 .nil)⟩, e2⟩
            · cases e2
          · cases e2
        · cases e2
      · cases e2
  · have ei : i = xs.length := by omega
    subst ei
    rw [List.drop_length] at e2
    cases e2
    exact .inl ⟨j2 rfl, fin H W2 l2 h2⟩
theorem lc2_read {Wx : WX} {it it1 : IF} {g g1 : GF} {gs gs1 vs vs1 : List Nat} {t t1 : TF} {e : EF} {tg' tg1 : TG} {Q : VK} {σ : L2.St} {H : Hp} (hg : GOk K T tg' g gs) (hg1 : GOk K T tg1 g1 gs1) (hs : ∀ i ∈ gs, i ∈ vs) (hs1 : ∀ i ∈ gs1, i ∈ vs1) (h : tD K mg T Wx (eLc2 it g t it1 g1 t1 e vs vs1) σ H Q) :
    tLc2 (tiD K mg T Wx it) tg' (ttD K mg T W0x t) (tiD K mg T W0x it1) tg1 (ttD K mg T W0x t1) (tD K mg T W0x e) vs vs1 σ H Q := by
  obtain ⟨r, st, W, hH, hS, h⟩ := h
  refine ⟨r, st, W, hH, hS, h.bnd.mono (fun xs st1 h J H1 W1 l1 h1 hJ D n => ?_) fun _ _ q => q⟩
  split at h
  · rename_i stE eE
    split at h
    · rename_i ps eP
      have hD := RelH.push (c := .lst []) (o := .lst []) h1 n (fun _ z => nomatch z) ⟨[], upd_same, Nat.zero_le _, .nil⟩
      have hbD : (W1.push D).L[st1.length]? = some D := push_at h1 (Wd.le.refl _)
      refine ⟨fun i m H => m = xs.length - i ∧ i ≤ xs.length ∧ ∃ st2 W2, (W1.push D).le W2 ∧ RelH K T W2 st2 H ∧ lcL2 st1.length g t it1 g1 t1 e vs1 (wipeR r vs) (xs.drop i) st2 = some stE, ⟨xs.length, by simp, Nat.zero_le _, _, _, Wd.le.refl _, hD, eE⟩, ?_⟩
      rintro i m H ⟨rfl, hi, st2, W2, l2, h2, e2⟩
      have l12 : W1.le W2 := Wd.le_push.trans l2
      obtain ⟨j1, j2⟩ := hJ i H W2 st2 l12 h2
      by_cases hlt : i < xs.length
      · have ex : xs[i]? = some xs[i] := List.getElem?_eq_getElem hlt
        obtain ⟨hgo, hy⟩ := j1 _ ex
        rw [drop_some ex] at e2
        refine .inr ⟨hgo, fun H' => ∃ st2 W2, (W1.push D).le W2 ∧ RelH K T W2 st2 H' ∧ lcL2 st1.length g t it1 g1 t1 e vs1 (wipeR r vs) (xs.drop (i + 1)) st2 = some stE, fun H' q => ⟨xs.length - (i + 1), by omega, rfl, hlt, q⟩, fun v H' y => ?_⟩
        obtain ⟨W3, l3, h3, rv⟩ := hy v H' y
        unfold lcL2 at e2
        split at e2
        · cases e2
        · rename_i r1 eg
          have s3 := (hS.mono (l1.trans (l12.trans l3))).wipe vs
          refine hg v _ H' _ W3 st2 _ _ r1 h3 s3 rv eg fun σ2 s2 u2 => ⟨wipe_upd u2 hs, r1, st2, W3, h3, s2, ?_⟩
          split at e2
          · rename_i st4 et
            rw [et]
            exact fun H4 W4 l4 h4 => ⟨st4, W4, l2.trans (l3.trans l4), h4, e2⟩
          · rename_i st4 et
            rw [et]
            intro H4 W4 l4 h4
            show tiD K mg T W0x it1 σ2 H4 _
            refine ⟨r1, st4, W4, h4, s2.mono l4, ?_⟩
            split at e2
            · rename_i ys st5 ei
              rw [ei]
              intro J1 H5 W5 l5 h5 hJ1
              split at e2
              · rename_i st6 e6
                exact lc_in hg1 hs1 (l2.trans (l3.trans (l4.trans l5))) hbD hJ1 h5 (s2.mono (l4.trans l5)) e6 fun H' W' l' h' => ⟨st6, W', l2.trans (l3.trans (l4.trans (l5.trans l'))), h', e2⟩
              · cases e2
            · cases e2
          · cases e2
      · have ei : i = xs.length := by omega
        subst ei
        rw [List.drop_length] at e2
        cases e2
        have aD := push_at h1 l2
        obtain ⟨q1, us, q2, q3, q4⟩ := h2.sto _ _ _ aD eP
        refine .inl ⟨j2 rfl, ?_⟩
        exact h _ H _ (l1.trans (frozen_le l12 h1 q1)) (h2.frozen (Nat.le_refl _) aD q1 q2 q3 (h1.capOf (frozen_le l12 h1 q1))) (.lst (.inl (.inl (by show upd W2.Hs D _ D = _; rw [upd_same]))) (dpall_mono (fun b u z => by show upd W2.Hs D _ b = some u; rw [upd_ne (ne_of_none z q1)]; exact z) _ _ q4))
    · exact h.elim
  · exact h.elim
end
section
variable {X : Cx} {T : Tb} {Wx : WX} {elt tg iter tg1 iter1 : Expr} {pos : Pos} {ifs ifs1 : List Expr} {scope : Scope} {own : List (Str × Nat)}
theorem de_lc2 {it it1 : IF} {g g1 : GF} {gs gs1 vs1 : List Nat} {t t1 : TF} {e : EF} {tg' tg1' : TG} (hc : X.calm = true) (hN : X.N.Nodup) (hi : DI X T Wx tg iter it) (ok : BlkOk X.N X.env.scope scope own) (hv : ∀ i ∈ vs1, i ∈ own.map (·.2))
    (hg : ∀ (s : Shared) (H : Hp) (C : Addr) (cl : List (Str × Addr)) (fp : List Addr), PG (X.blk s H scope (compEnvC scope cl C X.env) fp) tg tg') (gok : GOk X.K T tg' g gs) (hs' : ∀ i ∈ gs, i ∈ own.map (·.2))
    (ht : ∀ (s : Shared) (H : Hp) (C : Addr) (cl : List (Str × Addr)) (fp : List Addr), PTs (X.blk s H scope (compEnvC scope cl C X.env) fp) ifs (ttD X.K X.mg T W0x t))
    (hi1 : ∀ (s : Shared) (H : Hp) (C : Addr) (cl : List (Str × Addr)) (fp : List Addr), DI (X.blk s H scope (compEnvC scope cl C X.env) fp) T W0x tg1 iter1 it1)
    (hg1 : ∀ (s : Shared) (H : Hp) (C : Addr) (cl : List (Str × Addr)) (fp : List Addr), PG (X.blk s H scope (compEnvC scope cl C X.env) fp) tg1 tg1') (gok1 : GOk X.K T tg1' g1 gs1) (hs1' : ∀ i ∈ gs1, i ∈ vs1)
    (ht1 : ∀ (s : Shared) (H : Hp) (C : Addr) (cl : List (Str × Addr)) (fp : List Addr), PTs (X.blk s H scope (compEnvC scope cl C X.env) fp) ifs1 (ttD X.K X.mg T W0x t1))
    (he : ∀ (s : Shared) (H : Hp) (C : Addr) (cl : List (Str × Addr)) (fp : List Addr), DE (X.blk s H scope (compEnvC scope cl C X.env) fp) T W0x elt e) (hs : ∀ x, foldedSetIterable iter X.env x = pure x := by intro _; rfl) (hs1 : ∀ env x, foldedSetIterable iter1 env x = pure x := by intro _ _; rfl) :
    DE X T Wx (.ListComp elt [⟨tg, iter, ifs, 0⟩, ⟨tg1, iter1, ifs1, 0⟩] scope pos) (eLc2 it g t it1 g1 t1 e (own.map (·.2)) vs1) :=
  PE.imp (pe_lc2 hc hN hi ok hv hg ht hi1 hg1 ht1 he hs hs1) fun σ H Q h => lc2_read gok gok1 hs' hs1' h
end
end DL
end
section
/-! D7c: [e for x in d[i] if ..], d a list of dicts: the walked dict is locked meanwhile. -/
namespace DL
open PySem PySem.Spec PyProof.Rows L2
def eLcK (ix iy : Nat) (g : GF) (t : TF) (e : EF) (vs : List Nat) : EF := fun r st => match r[ix]?, r[iy]? with
  | some (some (.dl kss)), some (some (.d (.int i))) => match atI kss i with
    | some ks => eLc (fun _ => ret (ks.map fun k => .d (.int k))) g t e vs r st
    | none => none
  | _, _ => none
/-- a dict, locked or not -/
def DkO (o : HO) (kvs : List (Key × V)) : Prop := o = .dK kvs ∨ ∃ od, o = .frz od (.dK kvs)
def Wd.lock (W : Wd) (d : Addr) (o : HO) : Wd := ⟨upd W.Hs d o, W.L⟩
section
variable {K : PySem.W.Frag} {mg : Str → Option Value} {T : Tb} {W : Wd} {st : Sto} {H : Hp} {d : Addr} {o o' : HO} {kvs : List (Key × V)}
theorem rd_chg {Hs : Hp} (hd : Hs d = some o) (h : DkO o kvs) (h' : DkO o' kvs) {a : Addr} {u : HO} (nu : ∀ ob w, u ≠ .frz ob w) (q : Rd Hs a u) : Rd (upd Hs d o') a u := by
  by_cases ha : a = d
  · subst ha
    have eu : u = .dK kvs := by
      rcases q with q | ⟨ob, q⟩
      · rw [hd] at q
        cases q
        rcases h with h | ⟨od, h⟩
        · exact h
        · exact absurd h (nu _ _)
      · rw [hd] at q
        cases q
        rcases h with h | ⟨od, h⟩
        · cases h
        · cases h
          rfl
    subst eu
    rcases h' with h' | ⟨od, h'⟩
    · exact .inl (by rw [upd_same, h'])
    · exact .inr ⟨od, by rw [upd_same, h']⟩
  · rcases q with q | ⟨ob, q⟩
    · exact .inl (by rw [upd_ne ha]; exact q)
    · exact .inr ⟨ob, by rw [upd_ne ha]; exact q⟩
mutual
theorem dp_chg {Hs : Hp} (hd : Hs d = some o) (h : DkO o kvs) (h' : DkO o' kvs) : ∀ (p : PyData) (v : V), Dp K Hs v p → Dp K (upd Hs d o') v p
  | .none, _, q => by cases q; exact .non
  | .bool b, _, q => by cases q; exact .bl b
  | .int b, _, q => by cases q; exact .int b
  | .str b, _, q => by cases q; exact .str b
  | .list ds, _, q => by
    cases q with
    | lst hs ha =>
      refine .lst ?_ (dpall_chg hd h h' ds _ ha)
      rcases hs with hs | hs
      · exact .inl (rd_chg hd h h' (fun _ _ z => nomatch z) hs)
      · exact .inr hs
  | .tuple ds, _, q => by
    cases q with
    | tup hs ha =>
      refine .tup ?_ (dpall_chg hd h h' ds _ ha)
      rcases hs with hs | hs
      · exact .inl (rd_chg hd h h' (fun _ _ z => nomatch z) hs)
      · exact .inr hs
  | .dict _, _, q => by cases q
theorem dpall_chg {Hs : Hp} (hd : Hs d = some o) (h : DkO o kvs) (h' : DkO o' kvs) : ∀ (ds : List PyData) (vs : List V), DpAll K Hs vs ds → DpAll K (upd Hs d o') vs ds
  | [], _, q => by cases q; exact .nil
  | x :: ds, _, q => by
    cases q with
    | cons h1 h2 => exact .cons (dp_chg hd h h' x _ h1) (dpall_chg hd h h' ds _ h2)
end
theorem dkall_chg {Hs : Hp} (hd : Hs d = some o) (h : DkO o kvs) (h' : DkO o' kvs) : ∀ {vs : List V} {kss : List (List Int)}, DkAll Hs vs kss → DkAll (upd Hs d o') vs kss
  | _, _, .nil => .nil
  | _, _, .cons a b => .cons (rd_chg hd h h' (fun _ _ z => nomatch z) a) (dkall_chg hd h h' b)
theorem dk_notlst {o : HO} (h : DkO o kvs) {xs : List V} : o ≠ .lst xs := by
  rcases h with h | ⟨od, h⟩ <;> (subst h; exact fun z => nomatch z)
theorem xlall_lock (hd : W.Hs d = some o) (h : DkO o kvs) (h' : DkO o' kvs) : ∀ {vs : List V} {xs : List It1}, XlAll K W vs xs → XlAll K (W.lock d o') vs xs
  | _, _, .nil => .nil
  | _, _, .cons (x := x) a b => by
    refine .cons ?_ (xlall_lock hd h h' b)
    cases x with
    | d p => exact dp_chg hd h h' p _ a
    | e =>
      obtain ⟨z, e, q⟩ := a
      exact ⟨z, e, rd_chg hd h h' (fun _ _ z => nomatch z) q⟩
    | m k => exact a
theorem RepV.lock (hd : W.Hs d = some o) (h : DkO o kvs) (h' : DkO o' kvs) {v : V} : ∀ {x : DV}, RepV K W v x → RepV K (W.lock d o') v x
  | .d p, q => dp_chg hd h h' p v q
  | .dk ks, ⟨a, e, q⟩ => ⟨a, e, rd_chg hd h h' (fun _ _ z => nomatch z) q⟩
  | .dl kss, ⟨a, vs, e, q, k⟩ => ⟨a, vs, e, by
    show upd W.Hs d o' a = some (.lst vs)
    rw [upd_ne (fun z => by rw [z, hd] at q; exact dk_notlst h (Option.some.inj q))]
    exact q, dkall_chg hd h h' k⟩
  | .mu k, q => q
  | .xl xs, ⟨a, vs, e, q, k⟩ => ⟨a, vs, e, by
    show upd W.Hs d o' a = some (.lst vs)
    rw [upd_ne (fun z => by rw [z, hd] at q; exact dk_notlst h (Option.some.inj q))]
    exact q, xlall_lock hd h h' k⟩
theorem RelS.lock {r : Rho} {σ : L2.St} (hd : W.Hs d = some o) (h : DkO o kvs) (h' : DkO o' kvs) (s : RelS K W r σ) : RelS K (W.lock d o') r σ := ⟨s.len, fun i x e => by
  obtain ⟨v, e1, q⟩ := s.at_ i x e
  exact ⟨v, e1, q.lock hd h h'⟩⟩
theorem RelH.lock (hH : RelH K T W st H) (hd : W.Hs d = some o) (h : DkO o kvs) (h' : DkO o' kvs) (hl : kvs.length ≤ sizeLine) : RelH K T (W.lock d o') st (upd H d o') := by
  have hHd := (hH.frz d o hd).1
  refine ⟨fun p u e => ?_, fun P t => ?_, hH.len, hH.nd, fun k a c e1 e2 => ?_, fun q hq => (hH.cap q hq).lock hd h h'⟩
  · by_cases hp : p = d
    · subst hp
      have e' : upd W.Hs p o' p = some u := e
      rw [upd_same] at e' ⊢
      cases e'
      refine ⟨rfl, ?_⟩
      rcases h' with h' | ⟨od, h'⟩ <;> (subst h'; exact hl)
    · have e' : upd W.Hs d o' p = some u := e
      rw [upd_ne hp] at e' ⊢
      exact hH.frz p u e'
  · refine (hH.tab P t).imp (fun ps e => ?_) fun c q e => ?_
    · have ne : P ≠ d := fun z => by
        rw [z, hHd] at e
        cases e
        rcases h with h | ⟨od, h⟩ <;> cases h
      rw [upd_ne ne]
      exact e
    · have ne : c ≠ d := fun z => by
        rw [z, hd] at e
        rcases h with h | ⟨od, h⟩ <;> (rw [h] at e; cases e)
      show upd W.Hs d o' c = some _
      rw [upd_ne ne]
      exact e
  · obtain ⟨q1, q2⟩ := hH.sto k a c e1 e2
    have ne : a ≠ d := fun z => by
      rw [z, hd] at q1
      cases q1
    refine ⟨by show upd W.Hs d o' a = none; rw [upd_ne ne]; exact q1, ?_⟩
    cases c with
    | lst ds =>
      obtain ⟨vs, g1, g2, g3⟩ := q2
      exact ⟨vs, by rw [upd_ne ne]; exact g1, g2, dpall_chg hd h h' ds vs g3⟩
    | dk ks => exact ⟨by rw [upd_ne ne]; exact q2.1, q2.2⟩
    | clo j =>
      obtain ⟨F, g1, g2, g3, g4⟩ := q2
      have nd : ∀ b u, W.Hs b = some u → (∀ kvs, ¬ DkO u kvs) → upd W.Hs d o' b = some u := fun b u e n => by
        rw [upd_ne (fun z => by
          rw [z, hd] at e
          cases e
          exact n _ h)]
        exact e
      refine ⟨F, g1, by rw [upd_ne ne]; exact g2, nd _ _ g3 fun kvs z => ?_, fun t z => nd _ _ (g4 t z) fun kvs z => ?_⟩
      · rcases z with z | ⟨od, z⟩ <;> cases z
      · rcases z with z | ⟨od, z⟩ <;> cases z
/-- a comprehension's turns, to the frozen list -/
theorem lc_body {g : GF} {gs vs : List Nat} {t : TF} {e : EF} {tg' : TG} {J : It} {xs : List DV} {r : Rho} {σ : L2.St} {W1 : Wd} {st1 stE : Sto} {H1 : Hp} {ps : List PyData} {D : Addr} {Fin : Hp → Prop}
    (hg : GOk K T tg' g gs) (hs : ∀ i ∈ gs, i ∈ vs) (hJ : ItOk K T W1 J xs) (h1 : RelH K T W1 st1 H1) (hS : RelS K W1 r σ) (eE : lcL st1.length g t e (wipeR r vs) xs (st1 ++ [.lst []]) = some stE) (eP : stE[st1.length]? = some (.lst ps)) (n : H1 D = none)
    (fin : ∀ H' W', W1.le W' → RelH K T W' (stE.take st1.length) H' → Dp K W'.Hs (.ref D) (.list ps) → Fin H') :
    ∃ W : Nat → Nat → Hp → Prop, (∃ m, W 0 m (upd H1 D (.lst []))) ∧ ∀ i m H, W i m H → (J.stop i H ∧ Fin H) ∨ (J.go i H ∧ ∃ Nx : Hp → Prop, (∀ H', Nx H' → ∃ m', m' < m ∧ W (i + 1) m' H') ∧ ∀ x H', J.yld i H x H' → tg' x (L2.wipe σ vs) H' fun σ2 H2 => L2.wipe σ2 vs = L2.wipe σ vs ∧ ttD K mg T W0x t σ2 H2 fun b H3 =>
      if b = true then tD K mg T W0x e σ2 H3 fun y H4 => ∃ acc, H4 D = some (.lst acc) ∧ acc.length < sizeLine ∧ Nx (upd H4 D (.lst (acc ++ [y]))) else Nx H3) := by
  have hD := RelH.push (c := .lst []) (o := .lst []) h1 n (fun _ z => nomatch z) ⟨[], upd_same, Nat.zero_le _, .nil⟩
  have hbD : (W1.push D).L[st1.length]? = some D := push_at h1 (Wd.le.refl _)
  refine lc_in hg hs (Wd.le.refl _) hbD (fun i H W2 st2 l h => hJ i H W2 st2 (Wd.le_push.trans l) h) hD (hS.mono Wd.le_push) eE fun H' W' l h' => ?_
  have l1 : W1.le W' := Wd.le_push.trans l
  have aD := push_at h1 l
  obtain ⟨q1, us, q2, q3, q4⟩ := h'.sto _ _ _ aD eP
  exact fin H' _ (frozen_le l1 h1 q1) (h'.frozen (Nat.le_refl _) aD q1 q2 q3 (h1.capOf (frozen_le l1 h1 q1))) (.lst (.inl (.inl (by show upd W'.Hs D _ D = _; rw [upd_same]))) (dpall_mono (fun b u z => by show upd W'.Hs D _ b = some u; rw [upd_ne (ne_of_none z q1)]; exact z) _ _ q4))
theorem it_keys {ks : List Int} {W : Wd} {d : Addr} {od : Obj} (hd : W.Hs d = some (.frz od (.dK (tmap ks)))) : ItOk K T W (Itk d od (tmap ks)) (ks.map fun k => .d (.int k)) := fun i H W1 st l h => by
  have hH := (h.frz d _ (l.hs _ _ hd)).1
  refine ⟨fun x e => ?_, fun e => ⟨hH, ?_⟩⟩
  · rw [List.getElem?_map] at e
    obtain ⟨k, e1, rfl⟩ := Option.map_eq_some_iff.mp e
    refine ⟨⟨hH, by simpa [tmap] using (List.getElem?_eq_some_iff.mp e1).1⟩, fun v H' y => ?_⟩
    obtain ⟨rfl, k', v', e2, rfl⟩ := y
    have e3 : (tmap ks)[i]? = some (.inl k, .bl true) := by
      unfold tmap
      rw [List.getElem?_map, e1]
      rfl
    rw [e3] at e2
    cases e2
    exact ⟨W1, Wd.le.refl _, h, .int k⟩
  · simpa [tmap] using Nat.le_of_eq e.symm
end
section
variable {X : Cx} {T : Tb} {Wx : WX} {elt tg : Expr} {pos p1 p2 p3 : Pos} {ifs : List Expr} {scope : Scope} {own : List (Str × Nat)}
theorem de_lcK {ix iy : Nat} {x y : Str} {g : GF} {gs : List Nat} {t : TF} {e : EF} {tg' : TG} (hc : X.calm = true) (hN : X.N.Nodup) (hx : PE X (.Name x p1) (tVar ix)) (hy : PE X (.Name y p2) (tVar iy)) (ok : BlkOk X.N X.env.scope scope own)
    (hg : ∀ (s : Shared) (H : Hp) (C : Addr) (cl : List (Str × Addr)) (fp : List Addr), PG (X.blk s H scope (compEnvC scope cl C X.env) fp) tg tg') (gok : GOk X.K T tg' g gs) (hs' : ∀ i ∈ gs, i ∈ own.map (·.2))
    (ht : ∀ (s : Shared) (H : Hp) (C : Addr) (cl : List (Str × Addr)) (fp : List Addr), PTs (X.blk s H scope (compEnvC scope cl C X.env) fp) ifs (ttD X.K X.mg T W0x t))
    (he : ∀ (s : Shared) (H : Hp) (C : Addr) (cl : List (Str × Addr)) (fp : List Addr), DE (X.blk s H scope (compEnvC scope cl C X.env) fp) T W0x elt e) (hs : ∀ z, foldedSetIterable (.Subscript (.Name x p1) (.Name y p2) p3) X.env z = pure z := by intro _; rfl) :
    DE X T Wx (.ListComp elt [⟨tg, .Subscript (.Name x p1) (.Name y p2) p3, ifs, 0⟩] scope pos) (eLcK ix iy g t e (own.map (·.2))) := by
  have P := pe_lc (pos := pos) (te := tD X.K X.mg T W0x e) (tt := ttD X.K X.mg T W0x t) hc hN (pi_keys (tg := tg) (pe_ix ix_seq hx hy (fun _ _ => rfl))) ok hg ht he hs
  refine PE.imp (PE.or (pe_lock P) P) fun σ H Q ⟨r, st, W, hH, hS, h⟩ => ?_
  unfold eLcK at h
  split at h
  · rename_i kss i e1 e2
    split at h
    · rename_i ks ek
      obtain ⟨v1, s1, a, vs, rfl, ha, hk⟩ := hS.at_ _ _ e1
      obtain ⟨v2, s2, q2⟩ := hS.at_ _ _ e2
      cases (show Dp X.K W.Hs v2 (.int i) from q2)
      -- the dict
      have : ∃ d, atI vs i = some (.ref d) ∧ Rd W.Hs d (.dK (tmap ks)) := by
        unfold atI at ek ⊢
        rw [dkall_len hk]
        cases hx : ixN kss.length i with
        | none =>
          rw [hx] at ek
          cases ek
        | some j =>
          rw [hx] at ek
          exact dkall_get hk ek
      obtain ⟨d, ed, hd⟩ := this
      -- the comprehension's outcome
      have h' := h.bnd
      have h2 : OutG (match lcL st.length g t e (wipeR r (own.map (·.2))) (ks.map fun k => .d (.int k)) (st ++ [.lst []]) with
        | some st' => match st'[st.length]? with
          | some (.lst ps) => some (.ok (.d (.list ps)), st'.take st.length)
          | _ => none
        | none => (none : Option (Rs DV × Sto))) (okV X.K T W Q) (erX X.K X.mg T W Wx σ) := h'
      clear h h'
      split at h2
      · rename_i stE eE
        split at h2
        · rename_i ps eP
          have na : ∀ {o : HO}, DkO o (tmap ks) → W.Hs d = some o → a ≠ d := fun {o} ho z1 z => by
            rw [z, z1] at ha
            exact dk_notlst ho (Option.some.inj ha)
          have hl : ∀ {o : HO}, DkO o (tmap ks) → W.Hs d = some o → (tmap ks).length ≤ sizeLine := fun {o} ho z1 => by
            have := (hH.frz d o z1).2
            rcases ho with ho | ⟨od, ho⟩ <;> (subst ho; exact this)
          rcases hd with hd | ⟨od, hd⟩
          · -- not locked yet
            refine .inl ⟨d, .dK (tmap ks), (hH.frz _ _ hd).1, trivial, fun od => ?_⟩
            have dk1 : DkO (.dK (tmap ks)) (tmap ks) := .inl rfl
            have dk2 : DkO (.frz od (.dK (tmap ks))) (tmap ks) := .inr ⟨od, rfl⟩
            have H1 := hH.lock hd dk1 dk2 (hl dk1 hd)
            have S1 := hS.lock hd dk1 dk2
            have hda : (W.lock d (.frz od (.dK (tmap ks)))).Hs d = some (.frz od (.dK (tmap ks))) := upd_same
            refine ⟨_, s1, _, s2, .inl ⟨a, vs, i, .ref d, rfl, rfl, .inl (.inl (by rw [upd_ne (na dk1 hd)]; exact (hH.frz _ _ ha).1)), ed, d, od, rfl, .inl ⟨tmap ks, upd_same, fun D n => ?_⟩⟩⟩
            refine lc_body gok hs' (it_keys hda) H1 S1 eE eP n fun H' W' l hW' rD => ?_
            have hd' := l.hs _ _ hda
            refine ⟨(hW'.frz _ _ hd').1, ?_⟩
            have H2 := hW'.lock hd' dk2 dk1 (hl dk1 hd)
            refine h2 _ _ (W'.lock d (.dK (tmap ks))) ⟨fun p o z => ?_, ?_⟩ H2 (RepV.lock (x := .d (.list ps)) hd' dk2 dk1 rD)
            · show upd W'.Hs d _ p = some o
              by_cases hp : p = d
              · subst hp
                rw [upd_same, ← z, hd]
              · rw [upd_ne hp]
                exact l.hs _ _ (by show upd W.Hs d _ p = some o; rw [upd_ne hp]; exact z)
            · obtain ⟨m, em⟩ := l.more
              exact ⟨m, em⟩
          · have dk2 : DkO (.frz od (.dK (tmap ks))) (tmap ks) := .inr ⟨od, rfl⟩
            refine .inr ⟨_, s1, _, s2, .inl ⟨a, vs, i, .ref d, rfl, rfl, .inl (.inl (hH.frz _ _ ha).1), ed, d, od, rfl, .inl ⟨tmap ks, (hH.frz _ _ hd).1, fun D n => ?_⟩⟩⟩
            exact lc_body gok hs' (it_keys hd) hH hS eE eP n fun H' W' l hW' rD => h2 _ _ W' l hW' rD
        · exact h2.elim
      · exact h2.elim
    · exact h.elim
  · exact h.elim
end
end DL
end
section
/-! D8: all(elt for tg in iter), the element any expression. -/
namespace DL
open PySem PySem.Spec PyProof.Rows L2 GenW

abbrev genCx (X : Cx) (s : Shared) (H : Hp) (cenv : Env) (fp : List Addr) (A' : Around) (pn : List (Addr × Obj)) : Cx :=
  { X with A := A', s_0 := s, H_0 := H, env := cenv, outer := X.stack, stack := cenv :: X.stack, ex := fp, fn := fun _ => false, pn := pn, xe := fun _ _ => False }
abbrev genE (X : Cx) (scope : Scope) (C : Addr) (code : Value) : Env := genEnv scope (cloFrom X.env.cells scope.names []) C code builtinsNs X.env
theorem Inv.same {X : Cx} {pins : List (Addr × Obj)} {σ : L2.St} {H : Hp} {s s' : Shared} (I : Inv X pins σ H s) (hh : s'.heap = s.heap) (ho : s'.os = s.os) (hb : AllBare s'.gens) : Inv X pins σ H s' :=
  ⟨I.ok, ho.trans I.os, hb, by rw [hh]; exact I.base, by rw [hh]; exact I.loc, by rw [hh]; exact I.cell, I.free, I.freeC, by rw [hh]; exact I.pin, by rw [hh]; exact I.hok, I.len⟩
/-- the scope of a generator expression -/
structure GenOk (scope : Scope) : Prop where
  co : scope.isCoroutine = false
  cell : ∀ p ∈ scope.names, p.2 ≠ .cell
  dot : scope.names.lookup (".0" : Str) = some .local

section
variable {X : Cx} {pins : List (Addr × Obj)} {σ : L2.St} {H : Hp} {s : Shared}
/-- a block's cells: every free name of its scope has one, and it is the frame's own -/
structure CellsOf (X : Cx) (scope : Scope) (cells : List (Str × Addr)) : Prop where
  has : ∀ {y}, scope.names.lookup y = some .free → ∃ c, cells.lookup y = some c
  same : ∀ {y c}, cells.lookup y = some c → X.env.cells.lookup y = some c
theorem free_cell {scope : Scope} {own : List (Str × Nat)} (I : Inv X pins σ H s) (ok : BlkOk X.N X.env.scope scope own) : ∀ p ∈ scope.names, p.2 = .free → ∃ c, X.env.cells.lookup p.1 = some c :=
  fun p hp e => I.ok.has p.1 (ok.free p hp e)
theorem cells_of {scope : Scope} {own : List (Str × Nat)} (I : Inv X pins σ H s) (ok : BlkOk X.N X.env.scope scope own) : CellsOf X scope (cloFrom X.env.cells scope.names []) where
  has := fun e => mem_lookup (cloFrom_has (PySem.mem_of_lookup e))
  same := fun {y c} e => by
    cases cloFrom_mem (PySem.mem_of_lookup e) with
    | inl no => cases no
    | inr yes =>
      obtain ⟨c0, e0⟩ := free_cell I ok _ yes.1 rfl
      rw [yes.2, e0]
      rfl
theorem gen_start {scope : Scope} {own : List (Str × Nat)} {fp : List Addr} {C : Addr} {code : Value} {A' : Around} {s5 : Shared} {m : Str → Option Value} {pn : List (Addr × Obj)} (I : Inv X pins σ H s) (ok : BlkOk X.N X.env.scope scope own) (go : GenOk scope) (hN : X.N.Nodup)
    (hfp : ∀ b ∈ fp, FpOk X pins H b ∧ b < s.heap.objs.size) (hA : A'.frames = some (genE X scope C code :: X.stack)) (hh : X.calm = true → A'.handled = none)
    (kp : ∀ b o, s.heap.get? b = some o → s5.heap.get? b = some o) (os : s5.os = s.os) (bare : AllBare s5.gens) (hC : C = s.heap.objs.size) (hn : s5.heap.Ns C m)
    (hpn : ∀ p ∈ pn, s5.heap.get? p.1 = some p.2 ∧ s.heap.objs.size < p.1 ∧ ∀ v, p.2.data ≠ .cell v) :
    Inv (genCx X s H (genE X scope C code) fp A' pn) [] (wipe σ (own.map (·.2))) H s5 := by
  have K := cells_of I ok
  have nocell : ∀ y, scope.names.lookup y ≠ some .cell := fun y e => go.cell _ (PySem.mem_of_lookup e) rfl
  have outside : ∀ b ∈ frs X.stack, b < s.heap.objs.size := fun b hb => Nat.not_le.mp fun z => (List.mem_cons.mp (I.stkSub b hb)).elim (fun e => Nat.lt_irrefl _ (Nat.lt_of_lt_of_le (e ▸ I.lt) z)) (I.nofs z)
  have inner : (genCx X s H (genE X scope C code) fp A' pn).Ok :=
    { mod := I.ok.mod
      kind := ok.kind
      glob := I.ok.glob
      blt := rfl
      above := Nat.le_of_eq hC.symm
      inj := fun y z c e1 e2 => I.ok.inj y z c (K.same e1) (K.same e2)
      has := fun y e => e.elim (fun e => (nocell y e).elim) K.has
      cab := fun _ _ z => nomatch z
      hd := hh
      frames := hA
      stk := .inr ⟨rfl, rfl⟩
      exf := fun b hb => ⟨fun e => Nat.ne_of_lt (hfp b hb).2 ((show b = C from e).trans hC), fun y c e => (hfp b hb).1.2.2.2.2.1 y c (K.same e)⟩
      bs := I.bs
      bsz := Nat.le_trans I.ok.bsz I.sz
      noex := fun b o e hb => (hfp b hb).1.2.2.2.1.elim (I.ok.noex b o e) fun z => Nat.not_le.mpr (Heap.lt_size e) (Nat.le_trans I.ok.bsz z)
      exfs := fun b hb z => (List.mem_cons.mp (I.stkSub b z)).elim (hfp b hb).1.2.1 (hfp b hb).1.2.2.1
      funs := I.stack
      frf := I.stkFree }
  -- a name's value in the block's frame: the block has it through a cell of the frame around it
  have names : ∀ (i : Nat) (y : Str) (v : V), X.N[i]? = some y → (wipe σ (own.map (·.2)))[i]? = some (some v) → Vis scope y → ∃ u, RelV v u ∧ Look (genE X scope C code) s5.heap m y u := by
    intro i y v ei ev hv
    obtain ⟨ev, out⟩ := wipe_some ev
    have isfree : scope.names.lookup y = some .free := by
      rcases hv with hv | hv | hv
      · exfalso
        rcases ok.own _ (PySem.mem_of_lookup hv) (.inl rfl) with mine | other
        · obtain ⟨⟨z, j⟩, hz, e⟩ := List.mem_map.mp mine
          have ez : z = y := e
          subst ez
          exact out (nodup_ix hN (ok.ix _ hz) ei ▸ List.mem_map.mpr ⟨_, hz, rfl⟩)
        · exact other (List.mem_of_getElem? ei)
      · exact (nocell y hv).elim
      · exact hv
    have around := ok.free _ (PySem.mem_of_lookup isfree) rfl
    obtain ⟨m0, _, see⟩ := I.loc
    obtain ⟨u, ru, how⟩ := see i y v ei ev (.inr around)
    obtain ⟨c, ec⟩ := K.has isfree
    refine ⟨u, ru, .inr ⟨.inr isfree, c, ec, ?_⟩⟩
    rcases how with ⟨lo, _⟩ | ⟨_, c', ec', at'⟩
    · have lo : X.env.scope.names.lookup y = some .local := lo
      rcases around with z | z <;> exact absurd (lo.symm.trans z) (by decide)
    · cases (K.same ec).symm.trans ec'
      exact at'.keeps kp
  exact
    { ok := inner
      os := os
      bare := bare
      base := Un.kept kp
      loc := ⟨m, hn, names⟩
      cell := fun y c e => (I.cell y c (K.same e)).elim fun v z => ⟨v, z.keeps kp⟩
      free := I.hok.fresh (Nat.le_of_eq hC.symm)
      freeC := fun y c e => I.freeC y c (K.same e)
      pin := fun p hp => by
        obtain ⟨q1, q2, q3⟩ := hpn p (by simpa using hp)
        exact ⟨q1, I.hok.fresh (Nat.le_of_lt q2), fun e => Nat.ne_of_gt q2 ((show p.1 = C from e).trans hC), fun z => Nat.lt_asymm q2 (outside p.1 z), q3⟩
      hok := I.hok.kept kp
      len := (wipe_length σ _).trans I.len }
/-- what holds whenever the walker has the word -/
structure Back (X : Cx) (s4 : Shared) (H4 : Hp) (fp : List Addr) (a : Addr) (go : Obj) (H' : Hp) (s1 : Shared) : Prop where
  os : s1.os = s4.os
  bare : AllBare s1.gens
  un : Un (frs X.stack) fp H4 H' s4.heap s1.heap
  hok : HOk X.prog X.w H' s1.heap
  gen : s1.heap.get? a = some go
  lim : s1.heap.NoLimit
theorem Back.of {s4 s1 : Shared} {H4 H' : Hp} {cenv : Env} {fp : List Addr} {A' : Around} {a : Addr} {go : Obj} {pins : List (Addr × Obj)} (I : Inv (genCx X s4 H4 cenv fp A' [(a, go)]) pins σ H' s1) : Back X s4 H4 fp a go H' s1 :=
  ⟨I.os, I.bare, I.base, I.hok, (I.pin (a, go) (by simp)).1, I.nolimit⟩
theorem Back.same {s4 s1 s2 : Shared} {H4 H' : Hp} {fp : List Addr} {a : Addr} {go : Obj} (B : Back X s4 H4 fp a go H' s1) (k : ∀ b o, s1.heap.get? b = some o → s2.heap.get? b = some o) (ho : s2.os = s1.os) (hb : AllBare s2.gens) : Back X s4 H4 fp a go H' s2 :=
  ⟨ho.trans B.os, hb, B.un.trans (Un.kept k), B.hok.kept k, k _ _ B.gen, B.lim.keeps k⟩
/-- the protocol: a bool is handed out; False ends the walk -/
def GY (X : Cx) (s4 : Shared) (H4 : Hp) (fp : List Addr) (a : Addr) (go : Obj) (Q : VK) : Protocol := fun _ _ v s1 kap =>
  ∃ b H', v = .bool b ∧ Back X s4 H4 fp a go H' s1 ∧ if b = true then ∀ s'' : Shared, s''.heap = s1.heap → s''.os = s1.os → AllBare s''.gens → kap (.send .none) s'' else Q (.bl false) H'
def GP (X : Cx) (s4 : Shared) (H4 : Hp) (fp : List Addr) (a : Addr) (go : Obj) (Q : VK) : Nat → Shared → Shared → Prop := fun _ _ s1 => ∃ H', Back X s4 H4 fp a go H' s1 ∧ Q (.bl true) H'

theorem all_drain {prog : Program} {w : World} {A : Around} {R : Result → Shared → Prop} {s4 : Shared} {H4 : Hp} {fp : List Addr} {a : Addr} {go : Obj} {Q : VK} {g : Nat} (hh : A.handled = none) (hd : A.depth < recursionLimit) (hg : ∀ h : Heap, h.get? a = some go → h.IsGen a g)
    (hend : ∀ b H' s', Back X s4 H4 fp a go H' s' → Q (.bl b) H' → R (.ok (.ret (.bool b))) s') :
    ∀ (n : Nat) (s : Shared), s.heap.get? a = some go → s.heap.NoLimit → (∃ gs, s.gens[g]? = some gs ∧ gs.Goes (model prog w) A.in1.in1 (fun n s₀ r s₁ => r = .ok .next ∧ GP X s4 H4 fp a go Q n s₀ s₁) (GY X s4 H4 fp a go Q) n (.send .none) (s.setGen g .running)) →
      codeAny (model prog w) A (.builtin "all.loop" ⟨[.ref a], []⟩) R s := by
  intro n
  induction n with
  | zero =>
    rintro s at0 lim ⟨gs, here, goes⟩
    apply codeAny_builtin PySem.F.entry_all_loop
    rw [Around.under_plainId PySem.F.plain_all_loop]
    apply wpAny_bind
    apply wpAny_pyNext_genexpQ (A := A.in1) hh lim hd (hg _ at0) here goes
    · rintro v t gs' rest ⟨b, G, rfl, B, more⟩
      cases b
      · have B2 := B.same (s2 := t.setGen g gs') (fun _ _ e => e) rfl (allBare_setGen B.bare rest)
        exact wpAny_bind (wpAny_holding (wpAny_truthy_bool (wpAny_bind (wpAny_letGo (wpAny_bind (wpAny_rule (wpAny_pure (hend false G _ B2 more))))))))
      · exact (more _ rfl rfl B.bare).elim
    · rintro t ⟨G, B, q⟩ h' keep
      apply wpAny_bind
      exact wpAny_rule (wpAny_pure (hend true G _ (B.same keep rfl (allBare_setGen B.bare rfl)) q))
  | succ n ih =>
    rintro s at0 lim ⟨gs, here, goes⟩
    have room : g < s.gens.size := (Array.getElem?_eq_some_iff.mp here).elim fun h _ => h
    apply codeAny_builtin PySem.F.entry_all_loop
    rw [Around.under_plainId PySem.F.plain_all_loop]
    apply wpAny_bind
    apply wpAny_gsz (n := g + 1) room
    apply wpAny_pyNext_genexpQ (A := A.in1) hh lim hd (hg _ at0) here goes
    · rintro v t gs' rest ⟨b, G, rfl, B, more⟩ many
      have B2 := B.same (s2 := t.setGen g gs') (fun _ _ e => e) rfl (allBare_setGen B.bare rest)
      have room2 : g < t.gens.size := setGen_size t g gs' ▸ many
      refine wpAny_bind (wpAny_holding (wpAny_truthy_bool (wpAny_bind (wpAny_letGo ?_))))
      cases b
      · exact wpAny_bind (wpAny_rule (wpAny_pure (hend false G _ B2 more)))
      · have again := more ((t.setGen g gs').setGen g .running) rfl rfl (allBare_setGen B2.bare rfl)
        exact wpAny_pure ⟨plainId_quiet PySem.F.plain_all_loop _, ih _ B2.gen B2.lim ⟨gs', setGen_at room2, again⟩⟩
    · rintro t ⟨G, B, q⟩ h' keep _
      apply wpAny_bind
      exact wpAny_rule (wpAny_pure (hend true G _ (B.same keep rfl (allBare_setGen B.bare rfl)) q))
end
end DL
end
section
/-! D8b: all(elt for tg in iter): the generator's run, the rule. -/
namespace DL
open PySem PySem.Spec PyProof.Rows L2 GenW
/-- the table at P has at most one more code object, of the place pos -/
structure TabAt (P : Addr) (pos : Pos) (H H' : Hp) : Prop where
  t : GxR.Tabbed P H H'
  at_ : ∃ ps more : Array Value, H P = some (.tbl ps) ∧ H' P = some (.tbl (ps ++ more)) ∧ (more = #[] ∨ ∃ v, more = #[rawInt pos.line, rawInt pos.col, v])
/-- all(elt for tg in iter); P: the def's code table, which may grow -/
def tAllG (gpos : Pos) (P : Addr) (wi : TI) (g : TG) (te : TE) (vs : List Nat) : TE := fun σ H Q => wi σ H fun J H1 => GxR.TabG H1 P ∧ ∀ H2, TabAt P gpos H1 H2 → ∃ W : Nat → Nat → Hp → Prop, (∃ m, W 0 m H2) ∧ ∀ i m H, W i m H →
  (J.stop i H ∧ Q (.bl true) H) ∨ (J.go i H ∧ ∃ Nx : Hp → Prop, (∀ H', Nx H' → ∃ m', m' < m ∧ W (i + 1) m' H') ∧ ∀ x H', J.yld i H x H' → g x (L2.wipe σ vs) H' fun σ2 H2 => L2.wipe σ2 vs = L2.wipe σ vs ∧ te σ2 H2 fun y H3 => ∃ b, y = .bl b ∧ if b = true then Nx H3 else Q (.bl false) H3)
section
variable {X : Cx}
theorem gen_seg {s4 : Shared} {H4 : Hp} {cenv : Env} {fp : List Addr} {a it : Addr} {go : Obj} {A2 : Around} {elt tg iter : Expr} {scope : Scope} {pos : Pos} {J : It} {tn : Nat → Heap → Prop} {g : TG} {te : TE} {σ : L2.St} {vs : List Nat} {Q : VK} {W : Nat → Nat → Hp → Prop}
    (hc : X.calm = true) (T : Turn X.prog X.w X.K tg J fp it tn) (hafp : a ∉ fp) (hco : cenv.scope.isCoroutine = false)
    (pg : PG (genCx X s4 H4 cenv fp (A2.over (.compLoop (.GeneratorExp elt [⟨tg, iter, [], 0⟩] scope pos) 0 (.ref it) .none cenv) []) [(a, go)]) tg g)
    (pe : PE (genCx X s4 H4 cenv fp (A2.over (.compLoop (.GeneratorExp elt [⟨tg, iter, [], 0⟩] scope pos) 0 (.ref it) .none cenv) []) [(a, go)]) elt te)
    (turn : ∀ i m H, W i m H → (J.stop i H ∧ Q (.bl true) H) ∨ (J.go i H ∧ ∃ Nx : Hp → Prop, (∀ H', Nx H' → ∃ m', m' < m ∧ W (i + 1) m' H') ∧ ∀ x H', J.yld i H x H' → g x (L2.wipe σ vs) H' fun σ2 H2 => L2.wipe σ2 vs = L2.wipe σ vs ∧ te σ2 H2 fun y H3 => ∃ b, y = .bl b ∧ if b = true then Nx H3 else Q (.bl false) H3)) :
    ∀ (n m i : Nat) (H' : Hp) (s0 s' : Shared), m < n → W i m H' → Inv (genCx X s4 H4 cenv fp (A2.over (.compLoop (.GeneratorExp elt [⟨tg, iter, [], 0⟩] scope pos) 0 (.ref it) .none cenv) []) [(a, go)]) [] (L2.wipe σ vs) H' s' → tn i s'.heap → (∀ b ∈ fp, H' b = none) →
      Seg (model X.prog X.w) A2 (fun n s₀ r s₁ => r = .ok .next ∧ GP X s4 H4 fp a go Q n s₀ s₁) (GY X s4 H4 fp a go Q) n s0 (.compLoop (.GeneratorExp elt [⟨tg, iter, [], 0⟩] scope pos) 0 (.ref it) .none cenv)
        ((model X.prog X.w).den (.compLoop (.GeneratorExp elt [⟨tg, iter, [], 0⟩] scope pos) 0 (.ref it) .none cenv)) [] s' := by
  generalize hY : genCx X s4 H4 cenv fp (A2.over (.compLoop (.GeneratorExp elt [⟨tg, iter, [], 0⟩] scope pos) 0 (.ref it) .none cenv) []) [(a, go)] = Y at pg pe ⊢
  have yA : Y.A = A2.over (.compLoop (.GeneratorExp elt [⟨tg, iter, [], 0⟩] scope pos) 0 (.ref it) .none cenv) [] := by rw [← hY]
  have yp : Y.prog = X.prog := by rw [← hY]
  have yw : Y.w = X.w := by rw [← hY]
  have yK : Y.K = X.K := by rw [← hY]
  have yc : Y.calm = true := by rw [← hY]; exact hc
  have ye : Y.env = cenv := by rw [← hY]
  have stat : ∀ {σ' : L2.St} {H' : Hp} {s' : Shared}, Inv Y [] σ' H' s' → (∀ b ∈ fp, H' b = none) → ∀ b ∈ fp, FpOk Y [] H' b := fun {σ' H' s'} I' hn b hb => by
    have hx : b ∈ Y.ex := by rw [← hY]; exact hb
    refine ⟨hn b hb, (I'.ok.exf b hx).1, I'.ok.exfs b hx, .inl hx, fun x c e => (I'.ok.exf b hx).2 x c e, fun p hp z => ?_⟩
    have hp : p ∈ [(a, go)] ++ [] := by rw [← hY] at hp; exact hp
    have : p = (a, go) := by simpa using hp
    rw [this] at z
    have z : a = b := z
    exact hafp (by rw [z]; exact hb)
  have back : ∀ {σ' : L2.St} {H' : Hp} {s' : Shared} {pins : List (Addr × Obj)}, Inv Y pins σ' H' s' → Back X s4 H4 fp a go H' s' := fun I' => by
    rw [← hY] at I'
    exact Back.of I'
  intro n
  induction n with
  | zero => intro m i H' s0 s' h; exact absurd h (Nat.not_lt_zero _)
  | succ n ih =>
    intro m i H5 s0 s5 hm w5 I5 st5 n5
    show Seg _ A2 _ _ _ s0 _ ((compTurn (.GeneratorExp elt [⟨tg, iter, [], 0⟩] scope pos) 0 (.ref it) .none cenv).onRaise (leaving cenv)) [] s5
    rw [compTurn_gen]
    rw [Sem.onRaise_eq_wrap]
    apply seg_bind_wrap
    apply wpAny_standAt
    rcases turn i m H5 w5 with ⟨stop, qq⟩ | ⟨go', Nx, hNx, step⟩
    · have td := T.done Y yp yw yK yc i [] s5 _ H5 (fun _ _ => False) I5 (stat I5 n5) st5 stop
      rw [yA] at td
      refine seg_bind_wrap (thnF td fun r s6 ⟨hr, I6⟩ => ?_)
      subst hr
      exact seg_end (.ok .next) ⟨rfl, H5, back I6, qq⟩
    · have ti := T.item Y yp yw yK yc i [] s5 _ H5 (fun _ _ => False) I5 (stat I5 n5) st5 go'
      rw [yA] at ti
      refine seg_bind_wrap (thnF ti fun r s6 ⟨u, hr, h6⟩ => ?_)
      subst hr
      refine seg_bind_wrap (thnF h6 fun _ s7 ⟨x, H7, I7, r7, y7, st7, n7⟩ => ?_)
      have J7 := Inv.pinned I7 (stat I7 n7) (T.obj (i + 1) s7.heap st7)
      have q7 := pg.run _ s7 _ H7 x u _ J7 r7 (step x H7 y7)
      rw [yA, yp, yw, ye] at q7
      have xe0 : Y.xe = fun _ _ => False := by rw [← hY]
      rw [xe0] at q7
      refine seg_bind_wrap (thnF q7 fun _ s8 ⟨σ8, H8, I8, hw8, q8⟩ => ?_)
      simp only [List.forIn_nil]
      refine seg_bind_wrap (wpAny_pure ?_)
      simp only [if_true]
      have plain : yieldOut cenv = yieldValue := funext fun v => by
        rw [yieldOut, hco]
        rfl
      rw [plain]
      simp only [Sem.bind_eq_wrap', Sem.wrap_wrap]
      have q9 := pe.run _ s8 σ8 H8 _ I8 q8
      rw [yA, yp, yw, ye, xe0] at q9
      refine seg_wrap (thnF q9 fun z s10 ⟨yv, H10, I10, r10, b, eb, nx⟩ => ?_)
      subst eb
      obtain rfl : z = .bool b := r10
      refine seg_at (seg_yield rfl rfl rfl ⟨b, H10, rfl, back I10, ?_⟩)
      cases b with
      | false => simpa using nx
      | true =>
        simp only [if_true] at nx ⊢
        intro s'' hh ho hb
        obtain ⟨m', hm', w'⟩ := hNx H10 nx
        have pin' : ∀ b ∈ fp, ∀ o, s7.heap.get? b = some o → s10.heap.get? b = some o ∧ H10 b = none := fun b hb o e =>
          let z := I10.pin (b, o) (List.mem_append_right _ (List.mem_append_right _ (mem_pinsAt hb e)))
          ⟨z.1, z.2.1⟩
        have hl : (L2.wipe σ vs).length = σ8.length := by rw [← hw8, wipe_length]
        refine seg_again rfl (ih m' (i + 1) H10 s'' s'' (by omega) w' (DL.Inv.same ((I10.unpinned (pins := [])).weak hl fun j v e => ?_) hh ho hb) ?_ fun b hb => ?_)
        · rw [← hw8] at e
          exact (wipe_some e).1
        · rw [hh]
          exact T.keep _ _ _ st7 fun b hb o e => (pin' b hb o e).1
        · exact (T.obj (i + 1) s7.heap st7 b hb).elim fun o q => (pin' b hb o q.1).2
/-- the same from the start -/
theorem gen_segS {s4 : Shared} {H4 : Hp} {cenv : Env} {fp : List Addr} {a it : Addr} {go : Obj} {A2 : Around} {elt tg iter : Expr} {scope : Scope} {pos : Pos} {J : It} {tn : Nat → Heap → Prop} {Q : VK} {n : Nat} {s0 s' : Shared} (T : Turn X.prog X.w X.K tg J fp it tn) (st : tn 0 s'.heap)
    (loop : Seg (model X.prog X.w) A2 (fun n s₀ r s₁ => r = .ok .next ∧ GP X s4 H4 fp a go Q n s₀ s₁) (GY X s4 H4 fp a go Q) n s0 (.compLoop (.GeneratorExp elt [⟨tg, iter, [], 0⟩] scope pos) 0 (.ref it) .none cenv) ((model X.prog X.w).den (.compLoop (.GeneratorExp elt [⟨tg, iter, [], 0⟩] scope pos) 0 (.ref it) .none cenv)) [] s') :
    Seg (model X.prog X.w) A2 (fun n s₀ r s₁ => r = .ok .next ∧ GP X s4 H4 fp a go Q n s₀ s₁) (GY X s4 H4 fp a go Q) n s0 (.compStart (.GeneratorExp elt [⟨tg, iter, [], 0⟩] scope pos) 0 (.ref it) .none cenv) ((model X.prog X.w).den (.compStart (.GeneratorExp elt [⟨tg, iter, [], 0⟩] scope pos) 0 (.ref it) .none cenv)) [] s' := by
  show Seg _ A2 _ _ _ s0 _ ((compStart (.GeneratorExp elt [⟨tg, iter, [], 0⟩] scope pos) 0 (.ref it) .none cenv).onRaise (leaving cenv)) [] s'
  unfold compStart
  rw [Sem.onRaise_eq_wrap]
  show Seg _ A2 _ _ _ s0 _ ((ask >>= _).wrap _ _ _ _) [] s'
  apply seg_bind_wrap
  apply wpAny_askSetting
  split
  · exact seg_again rfl loop
  · first
      | exact seg_bind_wrap (wpAny_rule (seg_bind_wrap (wpAny_standAt (seg_bind_wrap (T.self _ 0 s' _ _ st (seg_again rfl loop))))))
      | (refine seg_bind_wrap (wpAny_rule ?_); show Seg _ A2 _ _ _ s0 _ ((standAt iter.pos >>= _).wrap _ _ _ _) [] s'; exact seg_bind_wrap (wpAny_standAt (seg_bind_wrap (T.self _ 0 s' _ _ st (seg_again rfl loop)))))

theorem gen_frames {A : Around} {c : Code} {l : List Env} {e : Env} (h : A.frames = some l) (hc : c.envs = [e]) (hg : A.in1.in1.frames = A.frames) : (A.in1.in1.over c []).frames = some (e :: l) := by
  show pushEnvs c.envs (pushEnvs (envsOf (([] : List Frame).map Frame.where_)) A.in1.in1.frames) = _
  rw [hg, h, hc]
  rfl
theorem pe_allG {c P : Addr} {elt tg iter : Expr} {p pos gpos : Pos} {scope : Scope} {own : List (Str × Nat)} {wi : TI} {g : TG} {te : TE} {k : Nat}
    (hr : Room (k + 1) X.A) (hc : X.calm = true) (hN : X.N.Nodup) (hgl : Gl X "all") (hm : X.mg "all" = none) (TB : GxR.TabB X.base X.mg c P) (hcode : X.env.code = .ref c) (hi : PI X tg iter wi) (ok : BlkOk X.N X.env.scope scope own) (go : GenOk scope)
    (hg : ∀ (s : Shared) (H : Hp) (C : Addr) (code : Value) (fp : List Addr) (A' : Around) (pn : List (Addr × Obj)), Room k A' → PG (genCx X s H (genE X scope C code) fp A' pn) tg g)
    (he : ∀ (s : Shared) (H : Hp) (C : Addr) (code : Value) (fp : List Addr) (A' : Around) (pn : List (Addr × Obj)), Room k A' → PE (genCx X s H (genE X scope C code) fp A' pn) elt te)
    (hs : ∀ v, genFold iter X.env v = pure v := by intro _; rfl) (hb : bootBuiltins "all" = some (.builtin "all") := by rfl)
    (hst : starEach [.GeneratorExp elt [⟨tg, iter, [], 0⟩] scope gpos] X.env = (false, eval (.GeneratorExp elt [⟨tg, iter, [], 0⟩] scope gpos) X.env) :: starEach [] X.env := by rfl) :
    PE X (.Call (.Name "all" p) [.GeneratorExp elt [⟨tg, iter, [], 0⟩] scope gpos] [] pos) (tAllG gpos P wi g te (own.map (·.2))) := by
  constructor
  intro pins s σ H Q I h
  refine wpAny_Call_Name_kw (ld_blt I hgl hm hb ?_)
  refine PyProof.Rows.callWith_builtin1 ?_ hst (by rfl)
  rw [hst]
  show wpAny _ _ (spliced ((false, eval (.GeneratorExp elt [⟨tg, iter, [], 0⟩] scope gpos) X.env) :: backTo pos (starEach [] X.env))) _ _ s
  refine Calls.spliced_cons ?_
  have hfree := free_cell I ok
  have hdep : X.A.depth < recursionLimit := hr.depth
  refine wpAny_GeneratorExp_make go.co (closure_ok hfree) go.cell go.dot ok.kind hdep ?_ hs
  refine thn (hi.run pins s σ H _ I h) fun xv s1 hx => thn hx fun itv s2 ⟨it, fp, tn, J, H1, eit, I1, T, st1, f1, ⟨ps, hP, ht⟩, q1⟩ => ?_
  subst eit
  refine ⟨I1.nolimit, ?_⟩
  have hP2 : s2.heap.get? P = some { cls := .none, data := .fields ps } := I1.hok P _ hP
  have cd : PySem.W.CodeHd s2.heap c P := TB.code.keeps fun b u e => I1.bk b u e
  have ⟨bm, ob, e1, e2, e3, e4, e5, e6, e7, e8⟩ := TB.bm
  have cont : ∀ (code : Value) (h3 : Heap) (tk : Nat) (more : Array Value), Heap.ExtBut P s2.heap h3 → h3.get? P = some { cls := .none, data := .fields (ps ++ more) } → TriplesOk (ps ++ more).toList → (more = #[] ∨ ∃ v, more = #[rawInt gpos.line, rawInt gpos.col, v]) → wpAny (model X.prog X.w) X.A (builtinsFor X.env.globals X.env.builtins) (fun bi s₄ =>
        ∀ h', h'.Ns s₄.heap.objs.size (fun y => if y = ".0" then some (Value.ref it) else none) → Heap.SameBut s₄.heap.objs.size (s₄.heap.push { cls := .type "frame", data := .dict #[] }) h' →
          (fun u s5 => wpAny (model X.prog X.w) X.A (spliced (backTo pos (starEach [] X.env))) (fun us s6 => wpAny (model X.prog X.w) X.A (call (.builtin "all") (u :: us)) (EP X pins σ Q) X.xe s6) X.xe s5) (Value.ref h'.objs.size) { s₄ with
            gens := s₄.gens.push (.fresh (.compStart (.GeneratorExp elt [⟨tg, iter, [], 0⟩] scope gpos) 0 (.ref it) .none (genEnv scope (cloFrom X.env.cells scope.names []) s₄.heap.objs.size code bi X.env))),
            toks := s₄.toks + 1 + 1 + 1,
            heap := h'.push { cls := .type "generator", data := .fields #[.int s₄.gens.size 0, .str "<genexpr>" (s₄.toks + 1), .str (X.env.qual ++ "<genexpr>") (s₄.toks + 1 + 1)] } }) X.xe { s2 with heap := h3, toks := tk } := by
    intro code h3 tk more hx hP3 ht3 hmore
    refine wpAny_builtinsFor (m := X.mg) (by rw [I1.ok.glob]; exact (I1.mod.glob.keeps I1.bk).extBut hx TB.gP) e1 e2 (hx _ _ e4 (I1.bk _ _ e5)) e6 e7 e8 ?_
    intro h' hn' hs'
    have keep3 : ∀ b o, b ≠ P → s2.heap.get? b = some o → h3.get? b = some o := fun b o hb e => hx b o hb e
    -- the state at which the generator is made
    have I4 : Inv X pins σ (upd H1 P (.tbl (ps ++ more))) { s2 with heap := h3, toks := tk } := GxR.inv_tab (g' := s2.gens) (d' := s2.drawn) I1 hP keep3 hP3 I1.bare
    generalize hs4 : ({ s2 with heap := h3, toks := tk } : Shared) = s4 at I4 hn' hs' ⊢
    have h4 : s4.heap = h3 := by rw [← hs4]
    have tb : GxR.Tabbed P H1 (upd H1 P (.tbl (ps ++ more))) := ⟨⟨_, upd_same, ht3⟩, fun b hb => upd_ne hb⟩
    obtain ⟨W, ⟨m0, w0⟩, turn⟩ := q1 _ ⟨tb, ps, more, hP, upd_same, hmore⟩
    generalize hH4 : upd H1 P (.tbl (ps ++ more)) = H4 at I4 w0
    have f4 : ∀ b ∈ fp, FpOk X pins H4 b ∧ b < s4.heap.objs.size := fun b hb => by
      obtain ⟨z0, z⟩ := f1 b hb
      obtain ⟨o, eo, _⟩ := T.obj _ _ st1 b hb
      have hbP : b ≠ P := fun e => by
        rw [e, hP] at z0
        cases z0
      refine ⟨⟨by rw [← hH4, upd_ne hbP]; exact z0, z⟩, ?_⟩
      rw [h4]
      exact Heap.lt_size (keep3 b o hbP eo)
    have st4 : tn 0 s4.heap := T.keep _ _ _ st1 fun b hb o e => by
      rw [h4]
      refine keep3 b o (fun z => ?_) e
      have z0 := (f1 b hb).1
      rw [z, hP] at z0
      cases z0
    generalize hgo : ({ cls := .type "generator", data := .fields #[.int s4.gens.size 0, .str "<genexpr>" (s4.toks + 1), .str (X.env.qual ++ "<genexpr>") (s4.toks + 1 + 1)] } : Obj) = gob
    have hsz : h'.objs.size = s4.heap.objs.size + 1 := by rw [hs'.1, Heap.size_push]
    have keep' : ∀ b o, s4.heap.get? b = some o → h'.get? b = some o := fun b o e => hs'.extBut b o (Nat.ne_of_lt (Heap.lt_size e)) (Heap.get?_push_of_some _ e)
    have keep5 : ∀ b o, s4.heap.get? b = some o → (h'.push gob).get? b = some o := fun b o e => Heap.get?_push_of_some _ (keep' b o e)
    have nfr : gob.isFreed = false := by rw [← hgo]; rfl
    have ga : (h'.push gob).get? h'.objs.size = some gob := Heap.get?_push_size _ nfr
    have isg : ∀ h : Heap, h.get? h'.objs.size = some gob → h.IsGen h'.objs.size s4.gens.size := fun h e => ⟨gob, _, _, e, by rw [← hgo], by rw [← hgo], by rw [← hgo]⟩
    have hafp : h'.objs.size ∉ fp := fun z => by
      have z2 := (f4 _ z).2
      rw [hsz] at z2
      exact absurd (Nat.lt_of_succ_lt z2) (Nat.lt_irrefl _)
    generalize hC : s4.heap.objs.size = C at hn' hs' hsz ⊢
    generalize hcenv : genEnv scope (cloFrom X.env.cells scope.names []) C code builtinsNs X.env = cenv
    have frA : X.A.frames = some X.stack := I4.ok.frames
    generalize hcode2 : Code.compLoop (.GeneratorExp elt [⟨tg, iter, [], 0⟩] scope gpos) 0 (.ref it) .none cenv = code2
    have fr2 : (X.A.in1.in1.over code2 []).frames = some (cenv :: X.stack) := gen_frames frA (by rw [← hcode2, ← hcenv]; rfl) rfl
    have hr2 : Room k (X.A.in1.in1.over code2 []) := by
      subst hcode2
      exact ⟨hr.hd, by have := hr.dp; show X.A.depth + 0 + 1 + 3 * k + 5 < _; omega, by have := hr.un; show X.A.units + 1 + 1 + 0 + 3 + 16 * k + 200 < _; omega⟩
    refine Calls.spliced_nil ?_
    apply call_function_tree PySem.F.kind_all PySem.F.plain_all PySem.F.entry_all (PySem.F.args_all1 _)
    unfold Builtin.«all»
    apply wpAny_bind (m := oneArg "all" ⟨[.ref h'.objs.size], []⟩)
    apply wpAny_pure
    refine wpAny_bind (wpAny_pyIter_gen (g := s4.gens.size) (isg _ ga) ?_)
    refine wpAny_pure ⟨plainId_quiet F.plain_all_loop _, ?_⟩
    refine all_drain (X := X) (s4 := s4) (H4 := H4) (fp := fp) (a := h'.objs.size) (go := gob) (Q := Q) (g := s4.gens.size) (A := X.A) hr.hd hdep isg (fun b H' s' B q => ?_) (m0 + 1) _ ga (I4.nolimit.keeps keep5) ⟨_, Array.getElem?_push_size .., ?_⟩
    · exact ⟨.bl b, H', I4.call' (ch := fp) B.os B.un B.hok B.bare fun b hb => ⟨(f4 b hb).1.2.2.2.1, (f4 b hb).1.2.1, (f4 b hb).1.2.2.2.2.1, (f4 b hb).1.2.2.2.2.2⟩, rfl, q⟩
    · refine ⟨rfl, ?_⟩
      refine gen_segS T (T.keep _ _ _ st4 fun b _ o e => keep5 b o e) ?_
      have start := gen_start (code := code) (A' := X.A.in1.in1.over code2 []) (C := C) (m := fun y => if y = ".0" then some (Value.ref it) else none) (s5 := (({ s4 with gens := s4.gens.push (.fresh (.compStart (.GeneratorExp elt [⟨tg, iter, [], 0⟩] scope gpos) 0 (.ref it) .none cenv)), toks := s4.toks + 1 + 1 + 1, heap := h'.push gob } : Shared).setGen s4.gens.size .running)) (pn := [(h'.objs.size, gob)])
        I4 ok go hN f4 (by rw [fr2]; subst hcenv; rfl) (fun _ => hr2.hd) keep5 rfl (allBare_setGen (AllBare.push I4.bare rfl) rfl) hC.symm (hn'.push _) (fun p hp => ?_)
      · have nfp : ∀ b ∈ fp, H4 b = none := fun b hb => (f4 b hb).1.1
        have pg := hg s4 H4 C code fp (X.A.in1.in1.over code2 []) [(h'.objs.size, gob)] hr2
        have pe := he s4 H4 C code fp (X.A.in1.in1.over code2 []) [(h'.objs.size, gob)] hr2
        have ecv : genE X scope C code = cenv := hcenv
        rw [ecv] at start pg pe
        subst hcode2
        exact gen_seg (a := h'.objs.size) (go := gob) (s4 := s4) (H4 := H4) (fp := fp) (σ := σ) (vs := own.map (·.2)) hc T hafp (by rw [← hcenv]; exact go.co) pg pe turn (m0 + 1) m0 0 H4 _ _ (Nat.lt_succ_self _) w0 start (T.keep _ _ _ st4 fun b _ o e => keep5 b o e) nfp
      · have : p = (h'.objs.size, gob) := by simpa using hp
        subst this
        refine ⟨ga, by show s4.heap.objs.size < h'.objs.size; rw [hC]; omega, fun v z => ?_⟩
        rw [← hgo] at z
        cases z
  have known := cd.code hP2 ht
  match hf : codeAmong gpos ps.toList with
  | some cv =>
    apply wpAny_genexprCode_hit hcode known hf
    exact cont cv s2.heap s2.toks #[] (Heap.ExtBut.refl _ _) (by simpa using hP2) (by simpa using ht) (.inl rfl)
  | none =>
    apply wpAny_genexprCodeX hcode known (cd.tab hP2) hf
    intro c' h' tk hx _ _ made _ tab' _
    rcases made with ⟨_, _, _, _, _, _, _, _, _, _, _, _, _, _, _, _, _, _, _, triples, _⟩
    exact cont (.ref c') h' tk _ hx tab'.2 triples (.inr ⟨.ref c', rfl⟩)
end
end DL
end
section
/-! D8c: all(elt for tg in iter): mirror and rule. -/
namespace DL
open PySem PySem.Spec PyProof.Rows L2 GenW
def allL (g : GF) (e : EF) (r : Rho) : List DV → MM DV
  | [] => ret (.d (.bool true))
  | x :: xs => fun st => match g x r st with
    | none => none
    | some r1 => match e r1 st with
      | some (.ok (.d (.bool true)), st1) => allL g e r xs st1
      | some (.ok (.d (.bool false)), st1) => some (.ok (.d (.bool false)), st1)
      | _ => none
def eAll (it : IF) (g : GF) (e : EF) (vs : List Nat) : EF := fun r => bnd (it r) fun xs => allL g e (wipeR r vs) xs
section
variable {K : PySem.W.Frag} {mg : Str → Option Value} {T : Tb} {W : Wd} {st : Sto} {H H' : Hp} {r : Rho} {σ : L2.St}
theorem RelH.tabbed {P : Addr} {pos : Pos} (h : RelH K T W st H) (no : ∀ q, ¬ T.lam P pos.line pos.col q) (t0 : TabAt P pos H H') : RelH K T W st H' := by
  obtain ⟨t, ps, more, eP, eP', em⟩ := t0
  refine ⟨fun q o e => ?_, fun q tq => ?_, h.len, h.nd, fun k a c e1 e2 => ?_, h.cap⟩
  · obtain ⟨z, ok⟩ := h.frz q o e
    refine ⟨?_, ok⟩
    rw [t.2 q (fun hq => ?_)]
    · exact z
    · rw [hq, eP] at z
      cases z
      exact ok
  · by_cases hq : q = P
    · subst hq
      obtain ⟨ps0, z1, z2, z3⟩ := h.tab q tq
      rw [eP] at z1
      cases z1
      obtain ⟨ps1, y1, y2⟩ := t.1
      rw [eP'] at y1
      cases y1
      refine ⟨_, eP', y2, fun p2 cv nm hl hc => ?_⟩
      rcases em with em | ⟨v, em⟩
      · subst em
        rw [Array.append_empty] at hc
        exact z3 p2 cv nm hl hc
      · subst em
        rw [Array.toList_append] at hc
        rcases NdefX.among_app2 _ z2 hc with hc | ⟨_, e1, e2⟩
        · exact z3 p2 cv nm hl hc
        · rw [← e1, ← e2] at hl
          exact absurd hl (no nm)
    · exact (h.tab q tq).imp (fun ps e => by rw [t.2 q hq]; exact e) fun _ _ e => e
  · obtain ⟨q1, q2⟩ := h.sto k a c e1 e2
    obtain ⟨u, eu, nt⟩ := q2.some
    have ne : a ≠ P := fun z => by
      rw [z, eP] at eu
      cases eu
      exact nt ps rfl
    exact ⟨q1, q2.mono (fun _ _ e => e) fun u e => by rw [t.2 a ne]; exact e⟩
theorem all_read {Wx : WX} {it : IF} {g : GF} {gs vs : List Nat} {e : EF} {tg' : TG} {Q : VK} {P : Addr} {pos : Pos} (hP : T.tab P) (no : ∀ q, ¬ T.lam P pos.line pos.col q) (hg : GOk K T tg' g gs) (hs : ∀ i ∈ gs, i ∈ vs) (h : tD K mg T Wx (eAll it g e vs) σ H Q) :
    tAllG pos P (tiD K mg T Wx it) tg' (tD K mg T W0x e) vs σ H Q := by
  obtain ⟨r, st, W, hH, hS, h⟩ := h
  refine ⟨r, st, W, hH, hS, h.bnd.mono (fun xs st1 h J H1 W1 l1 h1 hJ => ⟨(h1.tab P hP).g, fun H2 t2 => ?_⟩) fun _ _ q => q⟩
  have h2 := h1.tabbed no t2
  refine ⟨fun i m H => m = xs.length - i ∧ i ≤ xs.length ∧ ∃ st2 W2, W1.le W2 ∧ RelH K T W2 st2 H ∧ OutG (allL g e (wipeR r vs) (xs.drop i) st2) (okV K T W Q) (erX K mg T W Wx σ), ⟨xs.length, by simp, Nat.zero_le _, _, _, Wd.le.refl _, h2, h⟩, ?_⟩
  rintro i m H ⟨rfl, hi, st2, W2, l2, h2, e2⟩
  obtain ⟨j1, j2⟩ := hJ i H W2 st2 l2 h2
  by_cases hlt : i < xs.length
  · have ex : xs[i]? = some xs[i] := List.getElem?_eq_getElem hlt
    obtain ⟨hgo, hy⟩ := j1 _ ex
    rw [drop_some ex] at e2
    refine .inr ⟨hgo, fun H' => ∃ st2 W2, W1.le W2 ∧ RelH K T W2 st2 H' ∧ OutG (allL g e (wipeR r vs) (xs.drop (i + 1)) st2) (okV K T W Q) (erX K mg T W Wx σ), fun H' q => ⟨xs.length - (i + 1), by omega, rfl, hlt, q⟩, fun v H' y => ?_⟩
    obtain ⟨W3, l3, h3, rv⟩ := hy v H' y
    unfold allL at e2
    split at e2
    · exact e2.elim
    · rename_i r1 eg
      have s3 := (hS.mono (l1.trans (l2.trans l3))).wipe vs
      refine hg v _ H' _ W3 st2 _ _ r1 h3 s3 rv eg fun σ2 s2 u2 => ⟨wipe_upd u2 hs, r1, st2, W3, h3, s2, ?_⟩
      split at e2
      · rename_i st4 et
        rw [et]
        intro v H4 W4 l4 h4 rv
        cases (show Dp K W4.Hs v (.bool true) from rv)
        exact ⟨true, rfl, st4, W4, l2.trans (l3.trans l4), h4, e2⟩
      · rename_i st4 et
        rw [et]
        intro v H4 W4 l4 h4 rv
        cases (show Dp K W4.Hs v (.bool false) from rv)
        exact ⟨false, rfl, e2 _ H4 W4 (l1.trans (l2.trans (l3.trans l4))) h4 (.bl false)⟩
      · exact e2.elim
  · have ei : i = xs.length := by omega
    subst ei
    rw [List.drop_length] at e2
    exact .inl ⟨j2 rfl, e2 _ H W2 (l1.trans l2) h2 (.bl true)⟩
end
section
variable {X : Cx} {T : Tb} {Wx : WX}
theorem de_all {c P : Addr} {elt tg iter : Expr} {p pos gpos : Pos} {scope : Scope} {own : List (Str × Nat)} {it : IF} {g : GF} {gs : List Nat} {e : EF} {tg' : TG} {k : Nat}
    (hr : Room (k + 1) X.A) (hc : X.calm = true) (hN : X.N.Nodup) (hgl : Gl X "all") (hm : X.mg "all" = none) (TB : GxR.TabB X.base X.mg c P) (hP : T.tab P) (no : ∀ q, ¬ T.lam P gpos.line gpos.col q) (hcode : X.env.code = .ref c) (hi : DI X T Wx tg iter it) (ok : BlkOk X.N X.env.scope scope own) (go : GenOk scope)
    (hg : ∀ (s : Shared) (H : Hp) (C : Addr) (code : Value) (fp : List Addr) (A' : Around) (pn : List (Addr × Obj)), Room k A' → PG (genCx X s H (genE X scope C code) fp A' pn) tg tg') (gok : GOk X.K T tg' g gs) (hs' : ∀ i ∈ gs, i ∈ own.map (·.2))
    (he : ∀ (s : Shared) (H : Hp) (C : Addr) (code : Value) (fp : List Addr) (A' : Around) (pn : List (Addr × Obj)), Room k A' → DE (genCx X s H (genE X scope C code) fp A' pn) T W0x elt e)
    (hs : ∀ v, genFold iter X.env v = pure v := by intro _; rfl) (hb : bootBuiltins "all" = some (.builtin "all") := by rfl)
    (hst : starEach [.GeneratorExp elt [⟨tg, iter, [], 0⟩] scope gpos] X.env = (false, eval (.GeneratorExp elt [⟨tg, iter, [], 0⟩] scope gpos) X.env) :: starEach [] X.env := by rfl) :
    DE X T Wx (.Call (.Name "all" p) [.GeneratorExp elt [⟨tg, iter, [], 0⟩] scope gpos] [] pos) (eAll it g e (own.map (·.2))) :=
  PE.imp (pe_allG hr hc hN hgl hm TB hcode hi ok go hg he hs hb hst) fun σ H Q h => all_read hP no gok hs' h
end
end DL
end
section
/-! D9: isinstance, methods and stores of lists and dicts in the store, parallel stores, list(range(..)). -/
namespace DL
open PySem PySem.Spec PyProof.Rows L2
/-! ### isinstance -/
inductive Ty where
  | non | bool | int | str | list | tuple | dict
def Ty.name : Ty → String
  | .non => "NoneType"
  | .bool => "bool"
  | .int => "int"
  | .str => "str"
  | .list => "list"
  | .tuple => "tuple"
  | .dict => "dict"
def Ty.sub : Ty → Ty → Bool
  | .non, .non => true
  | .bool, .bool => true
  | .bool, .int => true
  | .int, .int => true
  | .str, .str => true
  | .list, .list => true
  | .tuple, .tuple => true
  | .dict, .dict => true
  | _, _ => false
def tyP : PyData → Ty
  | .none => .non
  | .bool _ => .bool
  | .int _ => .int
  | .str _ => .str
  | .list _ => .list
  | .tuple _ => .tuple
  | .dict _ => .dict
def tyN (st : Sto) : DV → Option Ty
  | .d p => some (tyP p)
  | .dk _ => some .dict
  | .dl _ => some .list
  | .xl _ => some .list
  | .mu k => match st[k]? with
    | some (.lst _) => some .list
    | some (.dk _) => some .dict
    | _ => none
theorem sub_ok : ∀ a b : Ty, kitB a.name b.name = some (a.sub b) := by
  intro a b
  cases a <;> cases b <;> decide +kernel
section
variable {K : PySem.W.Frag} {T : Tb} {W : Wd} {st : Sto} {H : Hp} {v : V} {x : DV}
theorem tyx_sql {a : Addr} {xs : List V} (q : SqL K H a xs) : TyX K H (.ref a) (.type "list") := by
  rcases q with (q | ⟨o, q⟩) | ⟨o, its, n, e, c, _⟩
  · exact .base (.lst q)
  · exact .base (.frz q)
  · exact .kList e c
theorem tyx_sqt {a : Addr} {xs : List V} (q : SqT K H a xs) : TyX K H (.ref a) (.type "tuple") := by
  rcases q with (q | ⟨o, q⟩) | ⟨o, its, n, e, c, _⟩
  · exact .base (.tup q)
  · exact .fTuple q
  · exact .kTuple e c
theorem tyx_rd {a : Addr} {kvs : List (Key × V)} (q : Rd H a (.dK kvs)) : TyX K H (.ref a) (.type "dict") := by
  rcases q with q | ⟨o, q⟩
  · exact .base (.dK q)
  · exact .fDict q
theorem tyx_of (hH : RelH K T W st H) (q : RepV K W v x) {t : Ty} (e : tyN st x = some t) : TyX K H v (.type t.name) := by
  cases x with
  | d p =>
    cases e
    have q := hH.dp q
    cases q with
    | non => exact .base .non
    | bl b => exact .base (.bl b)
    | int i => exact .base (.int i)
    | str s => exact .base (.str s)
    | lst h _ => exact tyx_sql h
    | tup h _ => exact tyx_sqt h
  | dk ks =>
    cases e
    obtain ⟨a, rfl, q⟩ := q
    exact tyx_rd (hH.rd q)
  | dl kss =>
    cases e
    obtain ⟨a, vs, rfl, q, _⟩ := q
    exact .base (.lst (hH.frz _ _ q).1)
  | xl xs =>
    cases e
    obtain ⟨a, vs, rfl, q, _⟩ := q
    exact .base (.lst (hH.frz _ _ q).1)
  | mu k =>
    obtain ⟨a, rfl, q⟩ := q
    change (match st[k]? with | some (.lst _) => some Ty.list | some (.dk _) => some Ty.dict | _ => none) = some t at e
    split at e
    · rename_i ds ek
      cases e
      obtain ⟨_, us, h, _⟩ := hH.sto _ _ _ q ek
      exact .base (.lst h)
    · rename_i ks ek
      cases e
      exact .base (.dK (hH.sto _ _ _ q ek).2.1)
    · cases e
end
theorem any2 {K : PySem.W.Frag} (u t1 t2 : Ty) : PySem.W.kitAny K (.type u.name) [.type t1.name, .type t2.name] = some (u.sub t1 || u.sub t2) := by
  unfold PySem.W.kitAny
  rw [kit_ty (sub_ok u t1)]
  cases u.sub t1 with
  | true => rfl
  | false =>
    show PySem.W.kitAny K (.type u.name) [.type t2.name] = _
    unfold PySem.W.kitAny
    rw [kit_ty (sub_ok u t2)]
    cases u.sub t2 <;> rfl
def eIsi (t : Ty) (a : EF) : EF := fun r => bnd (a r) fun x => lft fun st => (tyN st x).map fun u => .d (.bool (u.sub t))
def eIsi2 (t1 t2 : Ty) (a : EF) : EF := fun r => bnd (a r) fun x => lft fun st => (tyN st x).map fun u => .d (.bool (u.sub t1 || u.sub t2))
/-! ### a list in the store -/
def isLM (st : Sto) (x : DV) : Option Nat := match x with
  | .mu k => match st[k]? with
    | some (.lst _) => some k
    | _ => none
  | _ => none
/-- what may be laid into a changeable list -/
def pd? : DV → Option PyData
  | .d p => some p
  | _ => none
def eApp (o e : EF) : EF := fun r => bnd (o r) fun x => bnd (lft fun st => isLM st x) fun k => bnd (e r) fun y => fun st => match st[k]?, pd? y with
  | some (.lst ds), some p => if ds.length < sizeLine then some (.ok (.d .none), st.set k (.lst (ds ++ [p]))) else none
  | _, _ => none
def ePop (o e : EF) : EF := fun r => bnd (o r) fun x => bnd (lft fun st => isLM st x) fun k => bnd (e r) fun y => fun st => match st[k]?, pd? y with
  | some (.lst ds), some (.int i) => if -(2 ^ 63) ≤ i ∧ i < 2 ^ 63 then match seqIndex? i ds.length with
    | some j => match ds[j]? with
      | some p => some (.ok (.d p), st.set k (.lst (ds.eraseIdx j)))
      | none => none
    | none => none
    else none
  | _, _ => none
def putKs (ks : List Int) (i : Int) : List Int := if ks.any (fun k => decide (k = i)) = true then ks else ks ++ [i]
def putS (st : Sto) (k : Nat) (y : PyData) (p : PyData) : Option Sto := match st[k]?, y, p with
  | some (.lst ds), .int i, p => match ixN ds.length i with
    | some j => some (st.set k (.lst (ds.set j p)))
    | none => none
  | some (.dk ks), .int i, .bool true => if ks.length < sizeLine then some (st.set k (.dk (putKs ks i))) else none
  | _, _, _ => none
def sPut (v o i : EF) : SF := fun r => sBind (v r) r fun x => sBind (o r) r fun y => sBind (i r) r fun z st => match y, z, x with
  | .mu k, .d q, .d p => match putS st k q p with
    | some st' => some (.fl .nx r, st')
    | none => none
  | _, _, _ => none
def sPar (i j : Nat) (a : AF) : SF := fun r => sBind (a r) r fun xs st => match xs with
  | [x, y] => some (.fl .nx ((r.set i (some x)).set j (some y)), st)
  | _ => none
def sPar3 (i j l : Nat) (a : AF) : SF := fun r => sBind (a r) r fun xs st => match xs with
  | [x, y, z] => some (.fl .nx (((r.set i (some x)).set j (some y)).set l (some z)), st)
  | _ => none
def rgD (a b : Int) : List PyData := (List.range (b - a).toNat).map fun (i : Nat) => .int (a + i)
/-- list(range(n)), to be changed -/
def eLrg (a : EF) : EF := fun r => bnd (a r) fun x => fun st => match res st x with
  | some (.int n) => if n ≤ 16777216 ∧ -16777216 ≤ n then some (.ok (.mu st.length), st ++ [.lst (rgD 0 n)]) else none
  | _ => none
def sNone : SF := fun _ _ => none
def eNone : EF := fun _ _ => none

theorem putK_tmap (ks : List Int) (i : Int) : putK (tmap ks) (.inl i) (.bl true) = tmap (putKs ks i) := by
  unfold putK putKs
  have e : ((tmap ks).any fun kv => decide (kv.1 = Sum.inl i)) = ks.any fun k => decide (k = i) := by
    unfold tmap
    rw [List.any_map]
    congr 1
    funext k
    simp
  rw [e]
  split
  · unfold tmap
    rw [List.map_map]
    refine List.map_congr_left fun k _ => ?_
    simp only [Function.comp]
    split
    · rename_i h
      rw [h]
    · rfl
  · unfold tmap
    rw [List.map_append]
    rfl
section
variable {K : PySem.W.Frag} {mg : Str → Option Value} {T : Tb} {W : Wd} {st : Sto} {H : Hp} {v : V} {x : DV} {Q : VK}
theorem isLM_at (hH : RelH K T W st H) (q : RepV K W v x) {k : Nat} (e : isLM st x = some k) : ∃ a, v = .ref a ∧ W.L[k]? = some a ∧ ∃ us, H a = some (.lst us) := by
  unfold isLM at e
  split at e
  · rename_i k'
    split at e
    · rename_i ds ek
      cases e
      obtain ⟨a, rfl, q⟩ := q
      obtain ⟨_, us, h, _⟩ := hH.sto _ _ _ q ek
      exact ⟨a, rfl, q, us, h⟩
    · cases e
  · cases e
theorem Wd.le_at {W W' : Wd} (l : W.le W') {k : Nat} {a : Addr} (e : W.L[k]? = some a) : W'.L[k]? = some a := by
  obtain ⟨m, em⟩ := l.more
  rw [em, List.getElem?_append_left (List.getElem?_eq_some_iff.mp e).1]
  exact e
theorem pd_rep {p : PyData} (q : RepV K W v x) (e : pd? x = some p) : Dp K W.Hs v p := by
  unfold pd? at e
  split at e
  · cases e
    exact q
  · cases e
theorem dpall_set {Hs : Hp} {u : V} {p : PyData} (q : Dp K Hs u p) : ∀ {vs : List V} {ds : List PyData} (j : Nat), DpAll K Hs vs ds → DpAll K Hs (vs.set j u) (ds.set j p)
  | _, _, _, .nil => .nil
  | _, _, 0, .cons _ b => .cons q b
  | _, _, j + 1, .cons a b => .cons a (dpall_set q j b)
theorem dpall_erase {Hs : Hp} : ∀ {vs : List V} {ds : List PyData} (j : Nat), DpAll K Hs vs ds → DpAll K Hs (vs.eraseIdx j) (ds.eraseIdx j)
  | _, _, _, .nil => .nil
  | _, _, 0, .cons _ b => b
  | _, _, j + 1, .cons a b => .cons a (dpall_erase j b)
theorem dpall_rg {Hs : Hp} (a b : Int) : DpAll K Hs (rgV a b) (rgD a b) := by
  have e1 : rgV a b = ((List.range (b - a).toNat).map fun (i : Nat) => a + (i : Int)).map V.int := by
    unfold rgV
    rw [List.map_map]
    rfl
  have e2 : rgD a b = ((List.range (b - a).toNat).map fun (i : Nat) => a + (i : Int)).map PyData.int := by
    unfold rgD
    rw [List.map_map]
    rfl
  rw [e1, e2]
  exact dpall_of_ints _
end
section
variable {X : Cx} {T : Tb} {Wx : WX} {e o i : Expr} {pos p p1 p2 p3 : Pos}
theorem de_none : ∀ {e : Expr}, DE X T Wx e eNone := fun {e} => ⟨fun pins s σ H Q I ⟨r, st, W, hH, hS, h⟩ => h.elim⟩
theorem ds_none {st : Stmt} : DS X T Wx st sNone := PS.imp ps_never fun D σ H ⟨r, st, W, hH, hS, h⟩ => h.elim
theorem dss_none {st : List Stmt} : DSs X T Wx st sNone := PSs.imp pss_never fun D σ H ⟨r, st, W, hH, hS, h⟩ => h.elim
/-- isinstance(e, T) -/
theorem de_isi {nm : Str} {t : Ty} {fa : EF} (hg : Gl X "isinstance") (hm : X.mg "isinstance" = none) (hgT : Gl X nm) (hmT : X.mg nm = none) (hv : bootBuiltins nm = some (.type t.name)) (ha : DE X T Wx e fa)
    (hn : nm ≠ "__name__") (hd : (nm == ("__debug__" : Str)) = false) (hs : starEach [e, .Name nm p1] X.env = (false, eval e X.env) :: starEach [.Name nm p1] X.env := by rfl) (hs2 : starEach [.Name nm p1] X.env = (false, eval (.Name nm p1) X.env) :: starEach [] X.env := by rfl)
    (hpl : (backTo pos (starEach [.Name nm p1] X.env)).any (·.1) = false := by rfl) (hv2 : bootBuiltins "isinstance" = some (.builtin "isinstance") := by rfl) : DE X T Wx (.Call (.Name "isinstance" p) [e, .Name nm p1] [] pos) (eIsi t fa) :=
  PE.imp (pe_callB call_isi hg hm hv2 (pa_cons ha (pa_cons (pe_bltn (v := .ty t.name) hgT hmT hv rfl hn hd) pa_nil hs2) hs) (he := hs) (hpl := hpl)) fun σ H Q ⟨r, st, W, hH, hS, h⟩ => by
    refine td_bnd hH hS h fun x st1 v H1 W1 l1 h1 rv s1 h => ?_
    obtain ⟨z, e, k⟩ := h.lft
    obtain ⟨u, eu, rfl⟩ := Option.map_eq_some_iff.mp e
    exact ⟨v, _, _, _, _, rfl, .ty _, tyx_of h1 rv eu, kit_ty (sub_ok u t), k _ H1 W1 l1 h1 (.bl _)⟩
/-- isinstance(e, (T1, T2)) -/
theorem de_isi2 {n1 n2 : Str} {t1 t2 : Ty} {fa : EF} {kt : Nat} (hg : Gl X "isinstance") (hm : X.mg "isinstance" = none) (hgT : Gl X n1) (hmT : X.mg n1 = none) (hv : bootBuiltins n1 = some (.type t1.name)) (hgU : Gl X n2) (hmU : X.mg n2 = none) (hvU : bootBuiltins n2 = some (.type t2.name)) (ha : DE X T Wx e fa)
    (hn : n1 ≠ "__name__") (hd : (n1 == ("__debug__" : Str)) = false) (hn2 : n2 ≠ "__name__") (hd2 : (n2 == ("__debug__" : Str)) = false)
    (hs : starEach [e, .Tuple [.Name n1 p1, .Name n2 p2] kt p3] X.env = (false, eval e X.env) :: starEach [.Tuple [.Name n1 p1, .Name n2 p2] kt p3] X.env := by rfl)
    (hs2 : starEach [.Tuple [.Name n1 p1, .Name n2 p2] kt p3] X.env = (false, eval (.Tuple [.Name n1 p1, .Name n2 p2] kt p3) X.env) :: starEach [] X.env := by rfl)
    (hs3 : starEach [.Name n1 p1, .Name n2 p2] X.env = (false, eval (.Name n1 p1) X.env) :: starEach [.Name n2 p2] X.env := by rfl) (hs4 : starEach [.Name n2 p2] X.env = (false, eval (.Name n2 p2) X.env) :: starEach [] X.env := by rfl)
    (hpl : (backTo pos (starEach [.Tuple [.Name n1 p1, .Name n2 p2] kt p3] X.env)).any (·.1) = false := by rfl) (hv2 : bootBuiltins "isinstance" = some (.builtin "isinstance") := by rfl) :
    DE X T Wx (.Call (.Name "isinstance" p) [e, .Tuple [.Name n1 p1, .Name n2 p2] kt p3] [] pos) (eIsi2 t1 t2 fa) :=
  PE.imp (pe_callB call_isiT hg hm hv2 (pa_cons ha (pa_cons (pe_tup (pa_cons (pe_bltn (v := .ty t1.name) hgT hmT hv rfl hn hd) (pa_cons (pe_bltn (v := .ty t2.name) hgU hmU hvU rfl hn2 hd2) pa_nil hs4) hs3)) pa_nil hs2) hs) (he := hs) (hpl := hpl)) fun σ H Q ⟨r, st, W, hH, hS, h⟩ => by
    refine td_bnd hH hS h fun x st1 v H1 W1 l1 h1 rv s1 h => ?_
    obtain ⟨z, e, k⟩ := h.lft
    obtain ⟨u, eu, rfl⟩ := Option.map_eq_some_iff.mp e
    refine ⟨by show 2 ≤ sizeLine; decide, fun q n => ?_⟩
    have h2 := h1.put (o := .tup [.ty t1.name, .ty t2.name]) n (by show 2 ≤ sizeLine; decide)
    have l2 := Wd.le_put (o := .tup [.ty t1.name, .ty t2.name]) (h1.fresh n)
    refine ⟨v, q, _, _, _, _, rfl, upd_same, .cons (.ty _) (.cons (.ty _) .nil), tyx_of h2 (rv.mono l2) eu, ?_, k _ _ _ (l1.trans l2) h2 (.bl _)⟩
    exact any2 u t1 t2
/-! lists in the store -/
theorem de_app {fo fe : EF} {apos cpos : Pos} (ho : DE X T Wx o fo) (he : DE X T Wx e fe) (h : ∀ to t, PE X o to → PA X [e] t → PE X (.Call (.Attribute o "append" apos) [e] [] cpos) (tBM X.K "list" rAppend to t)) (hs : starEach [e] X.env = (false, eval e X.env) :: starEach [] X.env := by rfl) :
    DE X T Wx (.Call (.Attribute o "append" apos) [e] [] cpos) (eApp fo fe) :=
  PE.imp (h _ _ ho (pa_cons he pa_nil hs)) fun σ H Q ⟨r, st, W, hH, hS, h⟩ => by
    refine td_bnd hH hS h fun x st1 v H1 W1 l1 h1 rv s1 h => ?_
    obtain ⟨k, ek, h⟩ := h.bnd.lft
    obtain ⟨a, rfl, ea, us, hl⟩ := isLM_at h1 rv ek
    refine ⟨.inl ⟨rfl, us, .inl (.inl hl)⟩, ?_⟩
    refine td_bnd h1 s1 (h.mono (fun _ _ q => q) fun _ _ q => q.mono l1) fun y st2 u H2 W2 l2 h2 ru s2 h => ?_
    split at h
    · rename_i ds p e1 e2
      split at h
      · rename_i hz
        obtain ⟨q1, vs, q2, q3, q4⟩ := h2.sto _ _ _ (Wd.le_at l2 ea) e1
        have hl := dpall_length q4
        exact ⟨a, vs, u, rfl, rfl, q2, by omega, h .non _ W2 (l1.trans l2) (h2.set (c := .lst (ds ++ [p])) (Wd.le_at l2 ea) e1 ⟨vs ++ [u], upd_same, by rw [List.length_append, List.length_cons, List.length_nil]; omega, dpall_append q4 (.cons (pd_rep ru e2) .nil)⟩) .non⟩
      · exact h.elim
    · exact h.elim
theorem de_pop {fo fe : EF} {apos cpos : Pos} (ho : DE X T Wx o fo) (he : DE X T Wx e fe) (h : ∀ to t, PE X o to → PA X [e] t → PE X (.Call (.Attribute o "pop" apos) [e] [] cpos) (tBM X.K "list" rPopAt to t)) (hs : starEach [e] X.env = (false, eval e X.env) :: starEach [] X.env := by rfl) :
    DE X T Wx (.Call (.Attribute o "pop" apos) [e] [] cpos) (ePop fo fe) :=
  PE.imp (h _ _ ho (pa_cons he pa_nil hs)) fun σ H Q ⟨r, st, W, hH, hS, h⟩ => by
    refine td_bnd hH hS h fun x st1 v H1 W1 l1 h1 rv s1 h => ?_
    obtain ⟨k, ek, h⟩ := h.bnd.lft
    obtain ⟨a, rfl, ea, us, hl⟩ := isLM_at h1 rv ek
    refine ⟨.inl ⟨rfl, us, .inl (.inl hl)⟩, ?_⟩
    refine td_bnd h1 s1 (h.mono (fun _ _ q => q) fun _ _ q => q.mono l1) fun y st2 u H2 W2 l2 h2 ru s2 h => ?_
    split at h
    · rename_i ds i e1 e2
      split at h
      · rename_i hz
        split at h
        · rename_i j ej
          split at h
          · rename_i p ep
            obtain ⟨q1, vs, q2, q3, q4⟩ := h2.sto _ _ _ (Wd.le_at l2 ea) e1
            have hl := dpall_length q4
            obtain ⟨w, ew, qw⟩ := dpall_get q4 ep
            cases pd_rep ru e2
            exact ⟨a, vs, i, j, w, rfl, rfl, q2, hz.1, hz.2, by rw [hl]; exact ej, ew, h w _ W2 (l1.trans l2) (h2.set (c := .lst (ds.eraseIdx j)) (Wd.le_at l2 ea) e1 ⟨vs.eraseIdx j, upd_same, Nat.le_trans (List.length_eraseIdx_le _ _) q3, dpall_erase j q4⟩) qw⟩
          · exact h.elim
        · exact h.elim
      · exact h.elim
    · exact h.elim
/-- o[i] = e -/
theorem set_both (hu : X.A.units + 1 < cLine) : PSet X (fun o i v H Q => rSetL o i v H Q ∨ rSetD o i v H Q) := fun pins s σ H o i v ov iv u Q I ro ri rv h => h.elim (set_list pins s σ H o i v ov iv u Q I ro ri rv) (set_dict hu pins s σ H o i v ov iv u Q I ro ri rv)
theorem ds_put {fv fo fi : EF} {spos : Pos} (hu : X.A.units + 1 < cLine) (hv : DE X T Wx e fv) (ho : DE X T Wx o fo) (hi : DE X T Wx i fi)
    (h : ∀ tv to ti t, PE X e tv → PE X o to → PE X i ti → PSet X t → PS X (.Assign [.Subscript o i p] e spos) (tAsg tv (gSub to ti t))) : DS X T Wx (.Assign [.Subscript o i p] e spos) (sPut fv fo fi) :=
  PS.imp (h _ _ _ _ hv ho hi (set_both hu)) fun D σ H ⟨r, st, W, hH, hS, h⟩ => by
    refine tds_bnd hH hS h fun x st1 v H1 W1 l1 h1 rv s1 g1 => ?_
    refine tds_bnd h1 s1 g1 fun y st2 u H2 W2 l2 h2 ru s2 g2 => ?_
    refine tds_bnd h2 s2 g2 fun z st3 w H3 W3 l3 h3 rw3 s3 g3 => ?_
    clear g1 g2 h
    have h := g3
    clear g3
    split at h
    · rename_i k q p
      obtain ⟨a, rfl, ea⟩ := ru
      replace ea := Wd.le_at l3 ea
      replace rv : Dp X.K W3.Hs v p := rv.mono (l2.trans l3)
      split at h
      · rename_i st' es
        unfold putS at es
        split at es
        · rename_i p' ds i' ek
          split at es
          · rename_i j ej
            cases es
            obtain ⟨q1, vs, q2, q3, q4⟩ := h3.sto _ _ _ ea ek
            cases (show Dp X.K W3.Hs w (.int i') from rw3)
            refine .inl ⟨a, vs, i', j, rfl, rfl, q2, by rw [dpall_length q4]; exact ej, h _ _ W3 (Wd.le.refl W3) (h3.set (c := .lst (ds.set j _)) ea ek ⟨vs.set j v, upd_same, by rw [List.length_set]; exact q3, dpall_set rv j q4⟩) s3⟩
          · cases es
        · rename_i ks i' ek
          split at es
          · rename_i hz
            cases es
            obtain ⟨q1, q2, q3⟩ := h3.sto _ _ _ ea ek
            cases (show Dp X.K W3.Hs w (.int i') from rw3)
            cases rv
            have hk : (putKs ks i').length ≤ sizeLine := by
              unfold putKs
              split
              · exact q3
              · rw [List.length_append, List.length_cons, List.length_nil]
                omega
            refine .inr ⟨a, upd H3 a (.dK (tmap (putKs ks i'))), rfl, ?_, h _ _ W3 (Wd.le.refl W3) (h3.set (c := .dk (putKs ks i')) ea ek ⟨upd_same, hk⟩) s3⟩
            rw [← putK_tmap]
            exact DPut.k (k := .inl i') q2 (by unfold tmap; rw [List.length_map]; exact hz)
          · cases es
        · cases es
      · exact h.elim
    · exact h.elim
/-- x, y = a, b -/
theorem reps_two {K : PySem.W.Frag} {W : Wd} {vs : List V} {x y : DV} (q : RepVs K W vs [x, y]) : ∃ u v, vs = [u, v] ∧ RepV K W u x ∧ RepV K W v y := by
  cases q with
  | cons a b =>
    cases b with
    | cons b c =>
      cases c
      exact ⟨_, _, rfl, a, b⟩
theorem reps_three {K : PySem.W.Frag} {W : Wd} {vs : List V} {x y z : DV} (q : RepVs K W vs [x, y, z]) : ∃ u v w, vs = [u, v, w] ∧ RepV K W u x ∧ RepV K W v y ∧ RepV K W w z := by
  cases q with
  | cons a b =>
    obtain ⟨u, v, rfl, b, c⟩ := reps_two b
    exact ⟨_, _, _, rfl, a, b, c⟩
theorem ds_par {k j : Nat} {fa : AF} {as : List Expr} {s : Stmt} (ha : DA X T Wx as fa) (h : ∀ t, PA X as t → PS X s (tPar k j t)) : DS X T Wx s (sPar k j fa) :=
  PS.imp (h _ ha) fun D σ H ⟨r, st, W, hH, hS, h⟩ => by
    refine ⟨r, st, W, hH, hS, (OutS.bind hS h).mono (fun xs st1 q vs H1 W1 l h1 rv => ?_) fun _ _ q => q⟩
    have q := q.mono l
    split at q
    · obtain ⟨u, v, rfl, ru, rv⟩ := reps_two rv
      exact ⟨u, v, rfl, q _ _ W1 (Wd.le.refl W1) h1 (((hS.mono l).set ru).set rv)⟩
    · exact q.elim
theorem ds_par3 {k j l : Nat} {fa : AF} {as : List Expr} {s : Stmt} (ha : DA X T Wx as fa) (h : ∀ t, PA X as t → PS X s (tPar3 k j l t)) : DS X T Wx s (sPar3 k j l fa) :=
  PS.imp (h _ ha) fun D σ H ⟨r, st, W, hH, hS, h⟩ => by
    refine ⟨r, st, W, hH, hS, (OutS.bind hS h).mono (fun xs st1 q vs H1 W1 l h1 rv => ?_) fun _ _ q => q⟩
    have q := q.mono l
    split at q
    · obtain ⟨u, v, w, rfl, ru, rv, rw3⟩ := reps_three rv
      exact ⟨u, v, w, rfl, q _ _ W1 (Wd.le.refl W1) h1 ((((hS.mono l).set ru).set rv).set rw3)⟩
    · exact q.elim
/-- list(range(n)) -/
theorem de_lrg {fa : EF} (hc : X.calm = true) (hg : Gl X "list") (hm : X.mg "list" = none) (hgr : Gl X "range") (hmr : X.mg "range" = none) (ha : DE X T Wx e fa) (na : starEach [e] X.env = (false, eval e X.env) :: starEach [] X.env := by rfl)
    (nb : starEach [.Call (.Name "range" p1) [e] [] p2] X.env = (false, eval (.Call (.Name "range" p1) [e] [] p2) X.env) :: starEach [] X.env := by rfl) : DE X T Wx (.Call (.Name "list" p) [.Call (.Name "range" p1) [e] [] p2] [] pos) (eLrg fa) :=
  PE.imp (pe_listRg hc hg hm (prg_1 hgr hmr ha na) nb) fun σ H Q ⟨r, st, W, hH, hS, h⟩ => by
    refine td_bnd hH hS h fun x st1 v H1 W1 l1 h1 rv s1 h => ?_
    split at h
    · rename_i n en
      split at h
      · rename_i hn
        refine ⟨n, h1.resI rv en, ⟨by decide, by decide, by omega, by omega, by omega⟩, ?_⟩
        refine okV.new (c := .lst (rgD 0 n)) (o := .lst (rgV 0 n)) (fun v H' W' l => h v H' W' (l1.trans l)) h1 (fun _ z => nomatch z) fun p np => ⟨rgV 0 n, upd_same, ?_, dpall_rg 0 n⟩
        rw [rgV_length, sizeLine_eq]
        omega
      · exact h.elim
    · exact h.elim
end
end DL
end
section
/-! D10: sorted of a tuple of ints; sorted(set(list of ints)). -/
namespace DL
open PySem PySem.Spec PyProof.Rows L2

/-! ### a set made of a list's numbers -/
/-- the object that `set.__new__` makes -/
abbrev newS (w : World) : Obj :=
  { cls := .type "set", dict := none
    data := .set #[] 0
      (.fresh 0 0 (!w.params.followText "set-order")) }
/-- what is there when the set at p holds the numbers: they alone, every old object as it was -/
def Filled (w : World) (s : Shared) (p : Addr) (ns : List Int) (t : Shared) : Prop :=
  ∃ (g : Heap) (k c : Nat), t = { s with heap := g, toks := k } ∧
    SetR w g p (fun j => decide (j ∈ ns)) c ∧ c ≤ ns.length ∧
    ∀ b o, s.heap.get? b = some o → g.get? b = some o
theorem ints_get : ∀ {us : List Value} {ns : List Int}, IntsAre us ns → ∀ (i : Nat) (u : Value), us[i]? = some u → ∃ z k, ns[i]? = some z ∧ u = .int z k := by
  intro us ns hi
  induction hi
  case nil =>
    intro i u e
    cases e
  case cons ih =>
    intro i u e
    cases i with
    | zero =>
      cases e
      exact ⟨_, _, rfl, rfl⟩
    | succ i => exact ih i u e
theorem not_in_two {x y z : Addr} (h : x ≠ y ∧ ¬ x = z) : x ∉ [y, z] := fun q => by
  rcases List.mem_cons.mp q with e | q
  · exact h.1 e
  · exact h.2 (List.mem_singleton.mp q)
section
variable {P : Program} {w : World}
theorem init_fills {A : Around} {E : Value → Shared → Prop} {Z : PySem.Fin → Shared → Prop} {s : Shared} {l : Addr} {us : List Value} {ns : List Int}
    (hA : A.in1.handled = none) (hl : s.heap.IsList l us.toArray) (hi : IntsAre us ns) (hb : ns.length + 1 < scanBound)
    (fin : ∀ t, Filled w s s.heap.objs.size ns t → Z (.done (.ret .none)) t) :
    wpAny (model P w) A (Builtin.«set.__init__» ⟨[.ref s.heap.objs.size, .ref l], []⟩) Z E { s with heap := s.heap.push (newS w) } := by
  have long : us.length = ns.length := IntsAre.length hi
  have old : l < s.heap.objs.size := hl.elim fun o q => Heap.lt_size q.1
  obtain ⟨⟨cl, di, da, sl⟩, eo, rfl, n, rfl⟩ := hl.push (newS w)
  have no1 := PySem.F.sub_list_set
  have no2 := PySem.F.sub_list_frozenset
  have no3 : (Value.type "list" == .type "dict") = false := rfl
  have at0 : (s.heap.push (newS w)).get? s.heap.objs.size = some (newS w) := Heap.get?_push_size _ rfl
  unfold Builtin.«set.__init__» noKeywords Builtin.Frozenset.updateFrom
  generalize hPI : pyIter = PI
  wp_walk
  rw [← hPI]
  have src : (s.heap.push (newS w)).IsList l us.toArray := hl.push _
  have sz : (s.heap.push (newS w)).objs.size = s.heap.objs.size + 1 := Heap.size_push ..
  apply wpAny_pyIter_list src
  apply wpAny_bind
  apply wpAny_runValue
  have apart : l ≠ (s.heap.push (newS w)).objs.size := sz ▸ Nat.ne_of_lt (Nat.lt_succ_of_lt old)
  have mine : s.heap.objs.size ∉ [(s.heap.push (newS w)).objs.size, l] := by
    rw [sz]
    exact not_in_two ⟨Nat.ne_of_lt (Nat.lt_succ_self _), (Nat.ne_of_lt old).symm⟩
  have walk := (Walks.list (prog := P) (w := w) hA _ l apart us.toArray).toS
  apply set_update_ints walk _ mine ns (by simpa using long) hb (fun i u e => ints_get hi i u (by simpa using e)) _ 0 _ rfl (Nat.zero_le _)
  case a => exact ⟨⟨_, Heap.get?_push_size _ rfl, rfl, rfl⟩, src.push _⟩
  case a => exact ⟨0, Nat.le_refl _, setR_new_at (Heap.get?_push_of_some _ at0)⟩
  rintro ⟨g, _, _, k, _⟩ c m hc R
  obtain rfl := m.gens
  obtain rfl := m.drawn
  obtain rfl := m.os
  apply wpAny_pure
  refine wpAny_pure (fin _ ⟨g, k, c, rfl, R, by simpa [long] using hc, fun b o q => ?_⟩)
  have lo : b < s.heap.objs.size := Heap.lt_size q
  refine m.heap b o ?_ (Heap.get?_push_of_some _ (Heap.get?_push_of_some _ q))
  rw [sz]
  exact not_in_two ⟨Nat.ne_of_lt lo, Nat.ne_of_lt (Nat.lt_succ_of_lt lo)⟩
theorem set_makes {A : Around} {E : Value → Shared → Prop} {Q : Value → Shared → Prop} {s : Shared} {l : Addr} {us : List Value} {ns : List Int}
    (hA : A.handled = none) (hl : s.heap.IsList l us.toArray) (hi : IntsAre us ns) (hb : ns.length + 1 < scanBound)
    (h : ∀ t, Filled w s s.heap.objs.size ns t → Q (.ref s.heap.objs.size) t) :
    wpAny (model P w) A (call (.type "set") [.ref l]) Q E s := by
  have S := PySem.F.called_set
  obtain ⟨c, cs, mro⟩ := S.mro
  have made := S.made
  have sub := S.sub
  have nt := S.notType
  have can := S.canCreate
  have ok := PySem.F.typeCall_set_1 (.ref l)
  apply wpAny_call
  apply codeAny_of_tree
  apply wpAny_pure
  refine And.intro (Code.quiet_builtin _ (by decide +kernel)) (codeAny_builtin PySem.F.entry_type_call ?_)
  have plain := Around.under_plain (A := A) (weight_type_call_type "set" [.ref l] []) rfl
  wp_walk
  rw [show A.under (.builtin "type.__call__" ⟨.type "set" :: [.ref l], []⟩) = A.in1 from plain]
  apply codeAny_mono (code_set_led1 (s := s) (E := E) (Q₁ := fun v t => v = .ref s.heap.objs.size ∧ t = { s with heap := s.heap.push (newS w) }) _ ⟨rfl, rfl⟩)
  rintro (e | _ | _ | _ | v) t q
  case error => exact q
  case ok.ret =>
    obtain ⟨rfl, rfl⟩ := q
    have isset : Shared.TypeIs { s with heap := s.heap.push (newS w) } (.ref s.heap.objs.size) "set" := ⟨newS w, Heap.get?_push_size _ rfl, rfl⟩
    have look := S.init.lookup
    have bind := S.init.bind (.ref s.heap.objs.size)
    wp_walk
    have body : codeAny (model P w) A.in1 (.call (.builtin "set.__init__") ⟨[.ref s.heap.objs.size, .ref l], []⟩)
        (fun r t => r = .ok (.ret .none) ∧ Filled w s s.heap.objs.size ns t) { s with heap := s.heap.push (newS w) } := by
      apply codeAny_call_builtin S.init.plain PySem.F.entry_set_init
      apply check_set_init_1 isset
      exact init_fills (by simp [hA]) hl hi hb fun t ht => ⟨rfl, ht⟩
    apply codeAny_mono body
    rintro r t ⟨rfl, ht⟩
    wp_walk
    exact h t ht
  all_goals exact q.elim

/-! ### sorted of a tuple of numbers -/
/-- what `sorted` leaves: a new list at p with the numbers in order -/
def Ordered (s : Shared) (ns : List Int) (p : Addr) (t : Shared) : Prop :=
  ∃ (g : Heap) (us : List Value) (ms : List Int) (n : Nat), t = { s with heap := g } ∧ s.heap.get? p = none ∧
    (∀ b o, s.heap.get? b = some o → g.get? b = some o) ∧ g.get? p = some (seqObj "list" us.toArray n) ∧
    IntsAre us ms ∧ ms.Perm ns ∧ ms.Pairwise (· ≤ ·)
theorem sort_makes {A : Around} {E : Value → Shared → Prop} {Q : Value → Shared → Prop} {s : Shared} {l : Addr} {us : List Value} {ns : List Int}
    (hl : s.heap.IsTuple l us.toArray) (hi : IntsAre us ns) (hz : us.length ≤ sizeLine)
    (h : ∀ p t, Ordered s ns p t → Q (.ref p) t) :
    wpAny (model P w) A (call (.builtin "sorted") [.ref l]) Q E s := by
  obtain ⟨o, at0, cl, n, da⟩ := hl
  apply Calls.call_function_entry (id := "sorted") kind_sorted plain_sorted entry_sorted (args_sorted1 (.ref l))
  unfold Builtin.«sorted»
  apply wpAny_bind (m := checkCount "sorted" 1 1 1)
  apply wpAny_pure
  apply wpAny_bind
  apply wpAny_collect_seq l (.inr rfl) at0 cl da (hsz := by simpa using hz)
  intro g keep
  apply wpAny_bind
  apply wpAny_newList (hsz := by simpa using hz)
  apply wpAny_bind
  apply wpAny_holding
  have made : (g.push (seqObj "list" us.toArray 0)).get? g.objs.size = some (seqObj "list" us.toArray 0) := Heap.get?_push_size _ rfl
  apply wpAny_call_entry (s := { s with heap := g.push (seqObj "list" us.toArray 0) }) slot_list_sort (self := .ref g.objs.size) ⟨_, made, rfl⟩ entry_list_sort _ (args_list_sort _)
  apply SrtO.list_sort_ord (vs := us) SrtO.swo_int made hz (fun two => SrtO.ints_sortable hi two)
  intro out up same
  have nums := SrtO.ints_out hi up same
  obtain ⟨k, there⟩ := sortedHeap_at (vs := us) (out := out.toArray) made
  refine ⟨.none, rfl, wpAny_pure ⟨_, rfl, h g.objs.size _ ⟨_, out, out.map SrtO.iv, k, rfl, ?_, ?_, there, nums.1, nums.2.1, nums.2.2⟩⟩⟩
  · cases q : s.heap.get? g.objs.size with
    | none => rfl
    | some z => exact absurd (Heap.lt_size (keep _ _ q)) (Nat.lt_irrefl _)
  · intro b z q
    have lo : b < g.objs.size := Heap.lt_size (keep b z q)
    rw [sortedHeap_old (Nat.ne_of_lt lo) (by rw [Heap.size_push]; exact Nat.lt_succ_of_lt lo)]
    exact Heap.get?_push_of_some _ (keep b z q)
end
/-- the contract of `sorted` on a tuple of numbers -/
def rSortedIT (K : PySem.W.Frag) : List V → Hp → VK → Prop := fun vs H Q =>
  ∃ a ns, vs = [V.ref a] ∧ SqT K H a (List.map V.int ns) ∧
    ∀ ms p, List.Perm ms ns → List.Pairwise (· ≤ ·) ms → H p = none → Q (.ref p) (upd H p (.lst (ms.map V.int)))
theorem cr_sortedIT {X : Cx} : CallR X (.builtin "sorted") (rSortedIT X.K) := fun pins s σ H vs us Q I rs ⟨a, ns, e, ht, q⟩ => by
  subst e
  obtain ⟨its, rv, at0, hz⟩ := I.tuple ht
  have long := rv.length
  rw [Vals.ref1 rs]
  refine sort_makes at0 rv.ints (long ▸ hz) fun p t ⟨g, out, ms, n, e, free, keep, there, nums, perm, up⟩ => ?_
  subst e
  have none' : H p = none := I.hok.gone free
  have short : (ms.map V.int).length ≤ sizeLine := by
    rw [List.length_map] at hz ⊢
    exact perm.length_eq ▸ hz
  exact ⟨.ref p, upd H p (.lst (ms.map V.int)), I.laidN (t' := s.toks) keep free none' ⟨short, out, n, vals_of_ints nums, there⟩, rfl, q ms p perm up none'⟩
/-- a set of few different numbers has a small table -/
theorem set_few {w : World} {h : Heap} {a : Addr} {ns : List Int} {c : Nat} (R : SetR w h a (fun j => decide (j ∈ ns)) c)
    (few : ∀ m : List Int, m.Nodup → (∀ k, k ∈ m ↔ k ∈ ns) → m.length < 64) : c < 64 := by
  obtain ⟨_, es, _, _, _, _, _, _, once, all, _, _, count, _, _⟩ := R
  refine Nat.lt_of_le_of_lt (Nat.le_of_eq ?_) (few _ once fun k => ?_)
  · simpa using count.symm
  · have both := all k
    rw [decide_eq_true_eq] at both
    exact both.symm
def sqA (K : PySem.W.Frag) (H : Hp) (l : Addr) (vs : List V) : Prop := SqL K H l vs ∨ SqT K H l vs
def tSortSetA (K : PySem.W.Frag) (ta : TE) : TE := fun σ H Q => ta σ H fun x H1 => ∃ (l : Addr) (ns : List Int), x = V.ref l ∧ sqA K H1 l (ns.map V.int) ∧ (ns.length < 4000 ∧ ∀ m : List Int, m.Nodup → (∀ k, k ∈ m ↔ k ∈ ns) → m.length < 64) ∧
  ∀ (ns' : List Int) (p : Addr), ns'.Pairwise (· < ·) → (∀ k, k ∈ ns' ↔ k ∈ ns) → H1 p = none → Q (.ref p) (upd H1 p (.lst (ns'.map V.int)))
section
variable {X : Cx}
theorem pe_sortSetA {a : Expr} {ta : TE} {p p2 q pos : Pos} (hc : X.calm = true) (hg : Gl X "sorted") (hm : X.mg "sorted" = none) (hg2 : Gl X "set") (hm2 : X.mg "set" = none) (ha : PE X a ta) (hb : bootBuiltins "sorted" = some (.builtin "sorted") := by rfl)
    (na : starEach [a] X.env = (false, eval a X.env) :: starEach [] X.env := by rfl) : PE X (.Call (.Name "sorted" p) [.Call (.Name "set" p2) [a] [] q] [] pos) (tSortSetA X.K ta) := by
  refine ⟨fun pins s σ H Q I h => Call_ (ld_blt I hg hm hb (PyProof.Rows.callWith_builtin1 (PyProof.Rows.args_cons ?_ rfl) rfl rfl))⟩
  refine Call_ (ld_blt I hg2 hm2 PyProof.Rows.boot_set (PyProof.Rows.callWith_type1 (PyProof.Rows.args_cons (thn (ha.run pins s σ H _ I h) fun v s1 z => PyProof.Rows.args_nil ?_) na) na rfl))
  obtain ⟨x, H1, I1, r1, l, ns, rfl, hq, h64, q1⟩ := z
  cases r1
  have fin : ∀ (h' : Heap) (tk c : Nat), SetR X.w h' s1.heap.objs.size (fun j => decide (j ∈ ns)) c → c ≤ ns.length → (∀ b o, s1.heap.get? b = some o → h'.get? b = some o) → wpAny (model X.prog X.w) X.A (call (.builtin "sorted") [.ref s1.heap.objs.size]) (EP X pins σ Q) X.xe { s1 with heap := h', toks := tk } := fun h' tk c hS hcl hk => by
    have I2 : Inv X pins σ H1 { s1 with heap := h', toks := tk } := I1.kept fun b o e => hk b o e
    refine sorted_set (s := { s1 with heap := h', toks := tk }) hS (I1.ok.hd hc) (set_few hS h64.2) fun s' p out c' ns' k1 k2 k3 k4 k5 k6 k7 k8 k9 => ?_
    have hp : H1 p = none := I2.hok.fresh k4
    have hl : (ns'.map V.int).length ≤ sizeLine := Nat.le_trans (by have := set_few hS h64.2; rw [List.length_map, k9]; omega) (show 64 ≤ sizeLine by decide)
    exact ⟨.ref p, upd H1 p (.lst (ns'.map V.int)), I2.call' (ch := []) k3 (Un.laid k1 k4 hp) (I2.hok.laid k1 k4 ⟨hl, out.toList, c', vals_of_ints k6, by simpa using k5⟩) (by rw [k2]; exact I2.bare) (fun b z => by simp at z), rfl, q1 ns' p k7 (fun k => by rw [k8 k, decide_eq_true_eq]) hp⟩
  rcases hq with hq | hq
  · obtain ⟨its, r, pl, hz⟩ := I1.list hq
    exact set_makes (I1.ok.hd hc) pl.isList r.ints (by unfold scanBound; omega) fun t ⟨g, tk, c, e, hS, hcl, hk⟩ => e ▸ PyProof.Rows.args_nil (fin g tk c hS hcl hk)
  · obtain ⟨its, r, pl, hz⟩ := I1.tuple hq
    exact call_set_tupI ns (I1.ok.hd hc) pl (by simpa using r.ints) (by unfold scanBound; omega) fun h' tk c hS hcl hk => PyProof.Rows.args_nil (fin h' tk c hS hcl hk)
end
end DL
end
section
/-! D11: sorted, sorted(set(..)), zip, enumerate: mirrors and rules. -/
namespace DL
open PySem PySem.Spec PyProof.Rows L2
def insU (x : Int) : List Int → List Int
  | [] => [x]
  | y :: r => if x < y then x :: y :: r else if x = y then y :: r else y :: insU x r
def usort : List Int → List Int
  | [] => []
  | x :: r => insU x (usort r)
theorem insU_mem (x k : Int) : ∀ l : List Int, k ∈ insU x l ↔ k = x ∨ k ∈ l
  | [] => by simp [insU]
  | y :: r => by
    unfold insU
    split
    · simp
    · split
      · rename_i h
        subst h
        simp
      · rw [List.mem_cons, insU_mem x k r, List.mem_cons]
        constructor
        · rintro (h | h | h)
          · exact .inr (.inl h)
          · exact .inl h
          · exact .inr (.inr h)
        · rintro (h | h | h)
          · exact .inr (.inl h)
          · exact .inl h
          · exact .inr (.inr h)
theorem insU_pw (x : Int) : ∀ l : List Int, l.Pairwise (· < ·) → (insU x l).Pairwise (· < ·)
  | [], _ => by simp [insU]
  | y :: r, h => by
    obtain ⟨h1, h2⟩ := List.pairwise_cons.mp h
    unfold insU
    split
    · rename_i hxy
      refine List.pairwise_cons.mpr ⟨fun z hz => ?_, h⟩
      rcases List.mem_cons.mp hz with e | e
      · omega
      · have := h1 z e
        omega
    · split
      · exact h
      · refine List.pairwise_cons.mpr ⟨fun z hz => ?_, insU_pw x r h2⟩
        rcases (insU_mem x z r).mp hz with e | e
        · omega
        · exact h1 z e
theorem usort_mem (k : Int) : ∀ l : List Int, k ∈ usort l ↔ k ∈ l
  | [] => Iff.rfl
  | x :: r => by
    unfold usort
    rw [insU_mem, usort_mem k r, List.mem_cons]
theorem usort_pw : ∀ l : List Int, (usort l).Pairwise (· < ·)
  | [] => .nil
  | x :: r => insU_pw x _ (usort_pw r)
theorem usort_few {ns : List Int} (h : (usort ns).length < 64) : ∀ m : List Int, m.Nodup → (∀ k, k ∈ m ↔ k ∈ ns) → m.length < 64 := fun m nd hm => by
  have nu : (usort ns).Nodup := (usort_pw ns).imp fun {a b} h e => by omega
  rw [((List.perm_ext_iff_of_nodup nd nu).mpr fun k => by rw [hm k, usort_mem]).length_eq]
  exact h
theorem ssorted_ext : ∀ l m : List Int, l.Pairwise (· < ·) → m.Pairwise (· < ·) → (∀ k, k ∈ l ↔ k ∈ m) → l = m
  | [], [], _, _, _ => rfl
  | [], y :: m, _, _, h => absurd ((h y).mpr List.mem_cons_self) (by simp)
  | x :: l, [], _, _, h => absurd ((h x).mp List.mem_cons_self) (by simp)
  | x :: l, y :: m, h1, h2, h => by
    obtain ⟨a1, a2⟩ := List.pairwise_cons.mp h1
    obtain ⟨b1, b2⟩ := List.pairwise_cons.mp h2
    have exy : x = y := by
      rcases List.mem_cons.mp ((h x).mp List.mem_cons_self) with e | e
      · exact e
      · rcases List.mem_cons.mp ((h y).mpr List.mem_cons_self) with e2 | e2
        · exact e2.symm
        · have := b1 x e
          have := a1 y e2
          omega
    subst exy
    rw [ssorted_ext l m a2 b2 fun k => ?_]
    constructor
    · intro hk
      rcases List.mem_cons.mp ((h k).mp (List.mem_cons_of_mem _ hk)) with e | e
      · have := a1 k hk
        omega
      · exact e
    · intro hk
      rcases List.mem_cons.mp ((h k).mpr (List.mem_cons_of_mem _ hk)) with e | e
      · have := b1 k hk
        omega
      · exact e
/-- sorted of a list, a tuple of ints, a dict -/
def fSortA : List DV → Sto → Option DV := fun xs st => match xs with
  | [.d (.tuple ds)] => (ints? ds).map fun ns => .d (.list ((isort ltI ns).map .int))
  | xs => fSorted xs st
def eSortSet (a : EF) : EF := fun r => bnd (a r) fun x => lft fun st => match res st x with
  | some (.list ds) => match ints? ds with
    | some ns => if ns.length < 4000 ∧ (usort ns).length < 64 then some (.d (.list ((usort ns).map .int))) else none
    | none => none
  | _ => none
def pairD (p : PyData × PyData) : DV := .d (.tuple [p.1, p.2])
def iZipD (a b : EF) : IF := fun r => bnd (a r) fun x => bnd (b r) fun y => lft fun _ => match x, y with
  | .d (.list ds), .d (.list es) => some ((ds.zip es).map pairD)
  | .d (.tuple ds), .d (.tuple es) => some ((ds.zip es).map pairD)
  | _, _ => none
section
variable {K : PySem.W.Frag} {mg : Str → Option Value} {T : Tb} {W : Wd} {st : Sto} {H : Hp} {v : V} {x : DV} {Q : VK}
theorem bf_sortA : BfD K T (fun xs H Q => rSortA K xs H Q ∨ rSortedIT K xs H Q) fSortA := by
  intro W st H vs xs z Q hH rv e k
  unfold fSortA at e
  split at e
  · rename_i ds
    obtain ⟨ns, en, rfl⟩ := Option.map_eq_some_iff.mp e
    obtain ⟨v, rfl, q⟩ := reps1 rv
    obtain ⟨a, vs, rfl, q1, q2, q3⟩ := hH.resT q rfl
    have ev := dpall_ints q2 en
    subst ev
    refine .inr ⟨a, ns, rfl, q1, fun ns' p h1 h2 hp => ?_⟩
    have := ints_one h1 h2
    subst this
    refine okV.ints k hH ?_ p hp
    rw [(isort_perm ltI ns).length_eq]
    simpa using q3
  · exact .inl (bf_sorted W st H vs _ z Q hH rv e k)
theorem usort_len (ns : List Int) : (usort ns).length ≤ ns.length := by
  induction ns with
  | nil => exact Nat.le_refl _
  | cons x r ih =>
    have : ∀ l : List Int, (insU x l).length ≤ l.length + 1 := fun l => by
      induction l with
      | nil => exact Nat.le_refl _
      | cons y l ih =>
        unfold insU
        split
        · exact Nat.le_refl _
        · split
          · exact Nat.le_succ _
          · simpa using ih
    unfold usort
    have := this (usort r)
    simp only [List.length_cons]
    omega
/-- the pairs of a zip -/
theorem it_zip_go {H : Hp} {W W1 : Wd} {st : Sto} {ws us : List V} {ds es : List PyData} {i : Nat} {x : DV} (l : W.le W1) (h : RelH K T W1 st H) (q2 : DpAll K W.Hs ws ds) (p2 : DpAll K W.Hs us es) (e : ((ds.zip es).map pairD)[i]? = some x) :
    ∃ v u, ws[i]? = some v ∧ us[i]? = some u ∧ ∀ t, H t = none → ∃ W2, W1.le W2 ∧ RelH K T W2 st (upd H t (.tup [v, u])) ∧ RepV K W2 (.ref t) x := by
  rw [List.getElem?_map] at e
  obtain ⟨⟨d1, d2⟩, e1, rfl⟩ := Option.map_eq_some_iff.mp e
  have e3 := List.getElem?_zip_eq_some.mp e1
  obtain ⟨v, e4, q3⟩ := dpall_get q2 e3.1
  obtain ⟨u, e5, q4⟩ := dpall_get p2 e3.2
  refine ⟨v, u, e4, e5, fun t n => ⟨W1.put t (.tup [v, u]), Wd.le_put (h.fresh n), h.put n (by show 2 ≤ sizeLine; decide), ?_⟩⟩
  have l2 := l.trans (Wd.le_put (o := .tup [v, u]) (h.fresh n))
  exact .tup (.inl (.inl (by show upd W1.Hs t _ t = _; rw [upd_same]))) (.cons (dp_mono l2.hs _ _ q3) (.cons (dp_mono l2.hs _ _ q4) .nil))
theorem it_zipL {a b : Addr} {ws us : List V} {ds es : List PyData} (q : SqL K W.Hs a ws) (q2 : DpAll K W.Hs ws ds) (p : SqL K W.Hs b us) (p2 : DpAll K W.Hs us es) : ItOk K T W (Itz K a b) ((ds.zip es).map pairD) := fun i H W1 st l h => by
  have q1 := h.sql (sql_mono l.hs q)
  have p1 := h.sql (sql_mono l.hs p)
  refine ⟨fun x e => ?_, fun e => ⟨ws, us, q1, p1, ?_⟩⟩
  · obtain ⟨v, u, e1, e2, k⟩ := it_zip_go l h q2 p2 e
    refine ⟨⟨ws, us, v, u, q1, p1, e1, e2⟩, fun w H' y => ?_⟩
    obtain ⟨t, v', u', rfl, n, rfl, y1, y2⟩ := y
    have := (y1 ws q1).symm.trans e1
    cases this
    have := (y2 us p1).symm.trans e2
    cases this
    exact k t n
  · rw [List.length_map, List.length_zip] at e
    rw [dpall_length q2, dpall_length p2]
    omega
theorem it_zipT {a b : Addr} {ws us : List V} {ds es : List PyData} (q : SqT K W.Hs a ws) (q2 : DpAll K W.Hs ws ds) (p : SqT K W.Hs b us) (p2 : DpAll K W.Hs us es) : ItOk K T W (RZ.ItzT K a b) ((ds.zip es).map pairD) := fun i H W1 st l h => by
  have q1 := h.sqt (sqt_mono l.hs q)
  have p1 := h.sqt (sqt_mono l.hs p)
  refine ⟨fun x e => ?_, fun e => ⟨ws, us, q1, p1, ?_⟩⟩
  · obtain ⟨v, u, e1, e2, k⟩ := it_zip_go l h q2 p2 e
    refine ⟨⟨ws, us, v, u, q1, p1, e1, e2⟩, fun w H' y => ?_⟩
    obtain ⟨t, v', u', rfl, n, rfl, y1, y2⟩ := y
    have := (y1 ws q1).symm.trans e1
    cases this
    have := (y2 us p1).symm.trans e2
    cases this
    exact k t n
  · rw [List.length_map, List.length_zip] at e
    rw [dpall_length q2, dpall_length p2]
    omega
/-- enumerate of a list of data -/
def enD (ds : List PyData) : List DV := ds.zipIdx.map fun p => .d (.tuple [.int (p.2 : Nat), p.1])
def iEnumD (a : EF) : IF := fun r => bnd (a r) fun x => lft fun _ => match x with
  | .d (.list ds) => some (enD ds)
  | _ => none
theorem it_enum {a : Addr} {ws : List V} {ds : List PyData} (q : SqL K W.Hs a ws) (q2 : DpAll K W.Hs ws ds) : ItOk K T W (Ite K a) (enD ds) := fun i H W1 st l h => by
  have q1 := h.sql (sql_mono l.hs q)
  unfold enD
  refine ⟨fun x e => ?_, fun e => ⟨ws, q1, ?_⟩⟩
  · rw [List.getElem?_map, List.getElem?_zipIdx] at e
    obtain ⟨p, e1, rfl⟩ := Option.map_eq_some_iff.mp e
    obtain ⟨d, e3, rfl⟩ := Option.map_eq_some_iff.mp e1
    obtain ⟨v, e2, k⟩ := dpall_get q2 e3
    refine ⟨⟨ws, v, q1, e2⟩, fun w H' y => ?_⟩
    obtain ⟨t, v', rfl, n, rfl, y1⟩ := y
    have := (y1 ws q1).symm.trans e2
    cases this
    refine ⟨W1.put t (.tup [.int (i : Nat), v]), Wd.le_put (h.fresh n), h.put n (by show 2 ≤ sizeLine; decide), ?_⟩
    have l2 := l.trans (Wd.le_put (o := .tup [.int (i : Nat), v]) (h.fresh n))
    rw [show 0 + i = i by omega]
    exact .tup (.inl (.inl (by show upd W1.Hs t _ t = _; rw [upd_same]))) (.cons (.int _) (.cons (dp_mono l2.hs _ _ k) .nil))
  · rw [List.length_map, List.length_zipIdx] at e
    rw [dpall_length q2]
    omega
end
section
variable {X : Cx} {T : Tb} {Wx : WX} {e o i a b : Expr} {pos p p1 p2 p3 : Pos}
theorem call_sortAll (hc : X.calm = true) : CallR X (.builtin "sorted") (fun xs H Q => rSortA X.K xs H Q ∨ rSortedIT X.K xs H Q) := CallR.or (call_sortA hc) cr_sortedIT
theorem de_sortSet {fa : EF} (hc : X.calm = true) (hg : Gl X "sorted") (hm : X.mg "sorted" = none) (hg2 : Gl X "set") (hm2 : X.mg "set" = none) (ha : DE X T Wx a fa) (na : starEach [a] X.env = (false, eval a X.env) :: starEach [] X.env := by rfl) :
    DE X T Wx (.Call (.Name "sorted" p) [.Call (.Name "set" p1) [a] [] p2] [] pos) (eSortSet fa) :=
  PE.imp (pe_sortSetA hc hg hm hg2 hm2 ha (na := na)) fun σ H Q ⟨r, st, W, hH, hS, h⟩ => by
    refine td_bnd hH hS h fun x st1 v H1 W1 l1 h1 rv s1 h => ?_
    obtain ⟨z, e, k⟩ := h.lft
    split at e
    · rename_i ds ed
      split at e
      · rename_i ns en
        split at e
        · rename_i hl
          cases e
          obtain ⟨l, vs, rfl, q1, q2, q3⟩ := h1.resL rv ed
          have ev := dpall_ints q2 en
          subst ev
          refine ⟨l, ns, rfl, .inl q1, ⟨hl.1, usort_few hl.2⟩, fun ns' p h3 h4 hp => ?_⟩
          have : ns' = usort ns := ssorted_ext _ _ h3 (usort_pw ns) fun k => by rw [h4 k, usort_mem]
          subst this
          have hz := usort_len ns
          exact okV.ints (k.mono l1) h1 (Nat.le_trans (by omega) (show 64 ≤ sizeLine by decide)) p hp
        · cases e
      · cases e
    · cases e
theorem di_zip {fa fb : EF} {elts : List Expr} {kk : Nat} {tpos : Pos} (hg : Gl X "zip") (hm : X.mg "zip" = none) (ha : DE X T Wx a fa) (hb : DE X T Wx b fb) (hs : starEach [a, b] X.env = (false, eval a X.env) :: starEach [b] X.env := by rfl) (hs2 : starEach [b] X.env = (false, eval b X.env) :: starEach [] X.env := by rfl)
    (hpl : (backTo pos (starEach [b] X.env)).any (·.1) = false := by rfl) : DI X T Wx (.Tuple elts kk tpos) (.Call (.Name "zip" p) [a, b] [] pos) (iZipD fa fb) :=
  PI.imp (RZ.pi_zipA hg hm (pa_cons ha (pa_cons hb pa_nil hs2) hs) hs hpl) fun σ H R ⟨r, st, W, hH, hS, h⟩ => by
    refine td_bnd hH hS h fun x st1 v H1 W1 l1 h1 rv s1 h => ?_
    refine td_bnd h1 s1 (h.mono (fun _ _ q => q) fun _ _ q => q.mono l1) fun y st2 u H2 W2 l2 h2 ru s2 h => ?_
    obtain ⟨z, e, k⟩ := h.lft
    split at e
    · cases e
      obtain ⟨a1, ws, rfl, q1, q2⟩ := dp_list (rv.mono l2)
      obtain ⟨b1, us, rfl, p1, p2⟩ := dp_list ru
      exact ⟨a1, b1, ws, us, rfl, .inl ⟨h2.sql q1, h2.sql p1, k _ H2 W2 (l1.trans l2) h2 (it_zipL q1 q2 p1 p2)⟩⟩
    · cases e
      obtain ⟨a1, ws, rfl, q1, q2⟩ := dp_tuple (rv.mono l2)
      obtain ⟨b1, us, rfl, p1, p2⟩ := dp_tuple ru
      exact ⟨a1, b1, ws, us, rfl, .inr ⟨h2.sqt q1, h2.sqt p1, k _ H2 W2 (l1.trans l2) h2 (it_zipT q1 q2 p1 p2)⟩⟩
    · cases e
theorem di_enum {fa : EF} {elts : List Expr} {kk : Nat} {tpos : Pos} (hg : Gl X "enumerate") (hm : X.mg "enumerate" = none) (ha : DE X T Wx a fa) (hs : starEach [a] X.env = (false, eval a X.env) :: starEach [] X.env := by rfl) (hs2 : starEach [a] X.env = [(false, eval a X.env)] := by rfl) :
    DI X T Wx (.Tuple elts kk tpos) (.Call (.Name "enumerate" p) [a] [] pos) (iEnumD fa) :=
  PI.imp (pi_enum hg hm (pa_cons ha pa_nil hs) hs2) fun σ H R ⟨r, st, W, hH, hS, h⟩ => by
    refine td_bnd hH hS h fun x st1 v H1 W1 l1 h1 rv s1 h => ?_
    obtain ⟨z, e, k⟩ := h.lft
    split at e
    · cases e
      obtain ⟨a1, ws, rfl, q1, q2⟩ := dp_list rv
      exact ⟨a1, ws, rfl, h1.sql q1, k _ H1 W1 l1 h1 (it_enum q1 q2)⟩
    · cases e
end
end DL
end
section
/-! D12: a list of dicts, made by a comprehension and filled by a walk over pairs. -/
namespace DL
open PySem PySem.Spec PyProof.Rows L2
def addF (kss : List (List Int)) (i k : Int) : Option (List (List Int)) := match ixN kss.length i with
  | some j => match kss[j]? with
    | some ks => if ks.length < sizeLine then some (kss.set j (putKs ks k)) else none
    | none => none
  | none => none
def flG : List PyData → List (List Int) → Option (List (List Int))
  | [], kss => some kss
  | p :: ps, kss => match pair? p with
    | some (i, k) => match addF kss i k with
      | some k1 => match addF k1 k i with
        | some k2 => flG ps k2
        | none => none
      | none => none
    | none => none
def sFL : SF := fun r st => match r[(0 : Nat)]? with
  | some (some (.d (.tuple [.int n, .tuple prs]))) => if -(2 ^ 62) ≤ n ∧ n < 2 ^ 62 ∧ n.toNat ≤ sizeLine ∧ r.length = 5 then match flG prs (List.replicate n.toNat []) with
    | some kss => some (.fl (.rt (.dl kss)) r, st)
    | none => none
    else none
  | _ => none
/-- the dicts that have been made, by the heap H1 ahead of them -/
structure FLI (H1 : Hp) (D : Addr) (ads : List Addr) (kss : List (List Int)) (H : Hp) : Prop where
  dl : H D = some (.lst (ads.map V.ref))
  nd : ads.Nodup
  len : kss.length = ads.length
  at_ : ∀ (j : Nat) (a : Addr) (ks : List Int), ads[j]? = some a → kss[j]? = some ks → H a = some (.dK (tmap ks)) ∧ ks.length ≤ sizeLine
  fr : ∀ a ∈ ads, H1 a = none
  nD : D ∉ ads
  frD : H1 D = none
  keep : ∀ b o, H1 b = some o → H b = some o
theorem putKs_len (ks : List Int) (i : Int) : (putKs ks i).length ≤ ks.length + 1 := by
  unfold putKs
  split
  · exact Nat.le_succ _
  · simp
theorem FLI.add {H1 H : Hp} {D : Addr} {ads : List Addr} {kss kss' : List (List Int)} {i k : Int} (F : FLI H1 D ads kss H) (e : addF kss i k = some kss') :
    ∃ a ks, atI (ads.map V.ref) i = some (.ref a) ∧ H a = some (.dK (tmap ks)) ∧ ks.length < sizeLine ∧ FLI H1 D ads kss' (upd H a (.dK (tmap (putKs ks k)))) := by
  unfold addF at e
  split at e
  · rename_i j ej
    split at e
    · rename_i ks ek
      split at e
      · rename_i hl
        cases e
        have hj : j < ads.length := by rw [← F.len]; exact (List.getElem?_eq_some_iff.mp ek).1
        have ea : ads[j]? = some ads[j] := List.getElem?_eq_getElem hj
        obtain ⟨h1, h2⟩ := F.at_ j _ ks ea ek
        refine ⟨ads[j], ks, ?_, h1, hl, ?_⟩
        · unfold atI
          rw [List.length_map, ← F.len, ej]
          show (ads.map V.ref)[j]? = _
          rw [List.getElem?_map, ea]
          rfl
        · have mem : ads[j] ∈ ads := List.getElem_mem hj
          refine ⟨?_, F.nd, by rw [List.length_set]; exact F.len, fun j' a' ks' ea' ek' => ?_, F.fr, F.nD, F.frD, fun b o eb => ?_⟩
          · rw [upd_ne (fun z => F.nD (by rw [z]; exact mem))]
            exact F.dl
          · by_cases hjj : j = j'
            · subst hjj
              rw [List.getElem?_set_self (by rw [F.len]; exact hj)] at ek'
              cases ek'
              rw [ea] at ea'
              cases ea'
              rw [upd_same]
              exact ⟨rfl, Nat.le_trans (putKs_len ks k) hl⟩
            · rw [List.getElem?_set_ne hjj] at ek'
              have ne : a' ≠ ads[j] := fun z => by
                rw [z] at ea'
                exact hjj (nodup_at F.nd ea ea')
              rw [upd_ne ne]
              exact F.at_ j' a' ks' ea' ek'
          · rw [upd_ne (fun z => by
              have := F.fr _ mem
              rw [← z, eb] at this
              cases this)]
            exact F.keep b o eb
      · cases e
    · cases e
  · cases e
section
variable {K : PySem.W.Frag} {mg : Str → Option Value} {T : Tb} {Wx : WX} {W : Wd} {st : Sto} {H1 H : Hp} {D : Addr} {ads : List Addr} {kss : List (List Int)}
theorem fli_dk {Hs : Hp} : ∀ (ads : List Addr) (kss : List (List Int)), kss.length = ads.length → (∀ (j : Nat) (a : Addr) (ks : List Int), ads[j]? = some a → kss[j]? = some ks → Hs a = some (.dK (tmap ks))) → DkAll Hs (ads.map V.ref) kss
  | [], [], _, _ => .nil
  | [], _ :: _, h, _ => by simp at h
  | _ :: _, [], h, _ => by simp at h
  | a :: ads, ks :: kss, h, k => .cons (.inl (k 0 a ks rfl rfl)) (fli_dk ads kss (by simpa using h) fun j a' ks' e1 e2 => k (j + 1) a' ks' (by simpa using e1) (by simpa using e2))
/-- it is laid aside -/
theorem FLI.done (F : FLI H1 D ads kss H) (hH : RelH K T W st H1) (hl : ads.length ≤ sizeLine) : ∃ W', W.le W' ∧ RelH K T W' st H ∧ RepV K W' (.ref D) (.dl kss) := by
  have wn : ∀ a, H1 a = none → W.Hs a = none := fun a n => hH.fresh n
  have le : W.le ⟨fun b => if b = D ∨ b ∈ ads then H b else W.Hs b, W.L⟩ := ⟨fun p o e => by
    have ne : ¬ (p = D ∨ p ∈ ads) := fun z => by
      have : W.Hs p = none := wn p (z.elim (fun z => by rw [z]; exact F.frD) fun z => F.fr p z)
      rw [e] at this
      cases this
    show (if p = D ∨ p ∈ ads then H p else W.Hs p) = some o
    rw [if_neg ne]
    exact e, [], by simp⟩
  refine ⟨⟨fun b => if b = D ∨ b ∈ ads then H b else W.Hs b, W.L⟩, le, ⟨fun p o e => ?_, fun P t => ?_, hH.len, hH.nd, fun k a c e1 e2 => ?_, hH.capOf le⟩, ?_⟩
  · have e : (if p = D ∨ p ∈ ads then H p else W.Hs p) = some o := e
    split at e
    · rename_i z
      refine ⟨e, ?_⟩
      rcases z with z | z
      · rw [z, F.dl] at e
        cases e
        show (ads.map V.ref).length ≤ sizeLine
        rw [List.length_map]
        exact hl
      · obtain ⟨j, hj, rfl⟩ := List.getElem_of_mem z
        have hk : j < kss.length := by rw [F.len]; exact hj
        obtain ⟨q1, q2⟩ := F.at_ j _ kss[j] (List.getElem?_eq_getElem hj) (List.getElem?_eq_getElem hk)
        rw [q1] at e
        cases e
        show (tmap kss[j]).length ≤ sizeLine
        unfold tmap
        rw [List.length_map]
        exact q2
    · obtain ⟨h1, h2⟩ := hH.frz p o e
      exact ⟨F.keep _ _ h1, h2⟩
  · refine (hH.tab P t).imp (fun ps e => F.keep _ _ e) fun c q e => ?_
    have ne : ¬ (c = D ∨ c ∈ ads) := fun z => by
      have : W.Hs c = none := wn c (z.elim (fun z => by rw [z]; exact F.frD) fun z => F.fr c z)
      rw [e] at this
      cases this
    show (if c = D ∨ c ∈ ads then H c else W.Hs c) = some _
    rw [if_neg ne]
    exact e
  · obtain ⟨q1, q2⟩ := hH.sto k a c e1 e2
    obtain ⟨u, eu, _⟩ := q2.some
    have ne : ¬ (a = D ∨ a ∈ ads) := fun z => by
      have : H1 a = none := z.elim (fun z => by rw [z]; exact F.frD) fun z => F.fr a z
      rw [eu] at this
      cases this
    refine ⟨?_, q2.mono (fun p o e => ?_) fun u e => F.keep _ _ e⟩
    · show (if a = D ∨ a ∈ ads then H a else W.Hs a) = none
      rw [if_neg ne]
      exact q1
    · have ne : ¬ (p = D ∨ p ∈ ads) := fun z => by
        have : W.Hs p = none := wn p (z.elim (fun z => by rw [z]; exact F.frD) fun z => F.fr p z)
        rw [e] at this
        cases this
      show (if p = D ∨ p ∈ ads then H p else W.Hs p) = some o
      rw [if_neg ne]
      exact e
  · refine ⟨D, ads.map V.ref, rfl, ?_, fli_dk ads kss F.len fun j a ks e1 e2 => ?_⟩
    · show (if D = D ∨ D ∈ ads then H D else W.Hs D) = _
      rw [if_pos (.inl rfl)]
      exact F.dl
    · show (if a = D ∨ a ∈ ads then H a else W.Hs a) = _
      rw [if_pos (.inr (List.mem_of_getElem? e1))]
      exact (F.at_ j a ks e1 e2).1
/-- what the body of friend_lists reads as: the slots: net, found, _, one, other -/
def tFL (K : PySem.W.Frag) : TS := tSeq (tAsg (tLc (iRng1 (tCons (tOp (rIx K) (tVar 0) (tC (.int 0))) tNil)) (gName 2) tYes tDNewK [2]) (gName 1))
  (tSeq (tFor (iTup K (tOp (rIx K) (tVar 0) (tC (.int 1)))) (gTup K 2 (gCons (gName 3) (gCons (gName 4) gNil)))
     (tSeq (tAsg (tC (.bl true)) (gSub (tOp (rIx K) (tVar 1) (tVar 3)) (tVar 4) rSetD)) (tAsg (tC (.bl true)) (gSub (tOp (rIx K) (tVar 1) (tVar 4)) (tVar 3) rSetD))))
   (tRet (tVar 1)))
theorem fl_read {Dn : Ends} {σ : L2.St} (h : tsD K mg T Wx sFL Dn σ H) : tFL K Dn σ H := by
  obtain ⟨r, st, W, hH, hS, h⟩ := h
  unfold sFL at h
  split at h
  · rename_i n prs er
    split at h
    · rename_i hn
      obtain ⟨n1, n2, n3, n4⟩ := hn
      have h5 : σ.length = 5 := by rw [← hS.len]; exact n4
      split at h
      · rename_i kssE eF
        obtain ⟨v0, es0, rv⟩ := hS.at_ _ _ er
        have rv : Dp K W.Hs v0 (.tuple [.int n, .tuple prs]) := rv
        have rv := hH.dp rv
        obtain ⟨a0, ws, rfl, q1, q2⟩ := dp_tuple rv
        cases q2 with
        | cons c1 c2 =>
        cases c1
        cases c2 with
        | cons c2 c3 =>
        cases c3
        obtain ⟨aP, us, rfl, p1, p2⟩ := dp_tuple c2
        -- the comprehension
        refine ⟨_, es0, .inr (.inl ⟨a0, _, 0, _, rfl, rfl, q1, rfl, n, rfl, n1, n2, fun D nD => ?_⟩)⟩
        refine lc_range (fun i H2 => ∃ ads : List Addr, ads.length = i ∧ FLI H D ads (List.replicate i []) H2) ⟨[], rfl, upd_same, .nil, rfl, fun j a ks e => by simp at e, fun a h => by simp at h, by simp, nD, fun b o e => by rw [upd_ne (ne_of_none e nD)]; exact e⟩ (fun i H2 hi ⟨ads, hl, F⟩ => ?_) fun H2 ⟨ads, hl, F⟩ => ?_
        · refine ⟨?_, ?_⟩
          · show ((L2.wipe σ [2]).set 2 _).set 2 none = L2.wipe σ [2]
            simp [L2.wipe]
          · unfold tYes
            simp only [if_true]
            intro b nb
            have bD : b ≠ D := fun z => by rw [z, F.dl] at nb; cases nb
            refine ⟨ads.map V.ref, by rw [upd_ne (Ne.symm bD)]; exact F.dl, by rw [List.length_map, hl]; omega, ads ++ [b], by rw [List.length_append, hl]; rfl, ?_⟩
            have nba : b ∉ ads := fun hb => by
              obtain ⟨j, hj, ej⟩ := List.getElem_of_mem hb
              have hk : j < (List.replicate i ([] : List Int)).length := by rw [F.len]; exact hj
              have := (F.at_ j b _ (by rw [← ej]; exact List.getElem?_eq_getElem hj) (List.getElem?_eq_getElem hk)).1
              rw [nb] at this
              cases this
            have kb : ∀ c o, H c = some o → c ≠ b := fun c o e z => by
              have := F.keep c o e
              rw [z, nb] at this
              cases this
            refine ⟨by rw [upd_same, List.map_append]; rfl, ?_, ?_, fun j a ks ea ek => ?_, fun a ha => ?_, ?_, F.frD, fun c o e => ?_⟩
            · exact List.nodup_append.mpr ⟨F.nd, by simp, fun x hx y hy => by
                have : y = b := by simpa using hy
                subst this
                exact fun z => nba (z ▸ hx)⟩
            · rw [List.length_append, List.length_replicate, hl]
              rfl
            · by_cases hj : j < ads.length
              · rw [List.getElem?_append_left hj] at ea
                have hm := List.mem_of_getElem? ea
                have ek' : (List.replicate i ([] : List Int))[j]? = some ks := by
                  rw [List.getElem?_replicate] at ek ⊢
                  split at ek
                  · cases ek
                    rw [if_pos (by omega)]
                  · cases ek
                rw [upd_ne (fun z => F.nD (by rw [← z]; exact hm)), upd_ne (fun z => nba (by rw [← z]; exact hm))]
                exact F.at_ j a ks ea ek'
              · rw [List.getElem?_append_right (by omega)] at ea
                have ha : a = b := by
                  cases hjj : j - ads.length with
                  | zero => rw [hjj] at ea; cases ea; rfl
                  | succ m => rw [hjj] at ea; cases ea
                rw [List.getElem?_replicate] at ek
                split at ek
                · cases ek
                  rw [ha, upd_ne bD, upd_same]
                  exact ⟨rfl, Nat.zero_le _⟩
                · cases ek
            · rcases List.mem_append.mp ha with ha | ha
              · exact F.fr a ha
              · have : a = b := by simpa using ha
                rw [this]
                cases hb : H b with
                | none => rfl
                | some o => exact absurd rfl (kb b o hb)
            · rw [List.mem_append]
              rintro (z | z)
              · exact F.nD z
              · have z : D = b := by simpa using z
                exact bD z.symm
            · rw [upd_ne (ne_of_none e F.frD), upd_ne (kb c o e)]
              exact F.keep c o e
        · -- the walk
          have e1 : (σ.set 1 (some (.ref D)))[0]? = some (some (.ref a0)) := by rw [List.getElem?_set_ne (by decide)]; exact es0
          have q1' : SqT K H2 a0 [.int n, .ref aP] := sqt_mono F.keep q1
          have p1' : SqT K H2 aP us := sqt_mono F.keep p1
          refine ⟨_, e1, .inr (.inl ⟨a0, _, 1, _, rfl, rfl, q1', rfl, aP, rfl, ⟨us, p1'⟩, ?_⟩)⟩
          refine for_tup (fun i σ' H' => ∃ kss, flG (prs.drop i) kss = some kssE ∧ FLI H D ads kss H' ∧ σ'.length = 5 ∧ σ'[1]? = some (some (.ref D))) ⟨_, eF, F, by rw [List.length_set]; exact h5, by rw [List.getElem?_set_self (by omega)]⟩ (fun i σ' H' _ ⟨kss, _, F', _⟩ => sqt_mono F'.keep p1) (fun i x σ' H' ex ⟨kss, ef, F', l5, s1⟩ => ?_) fun σ' H' ⟨kss, ef, F', l5, s1⟩ => ?_
          · have hi : i < prs.length := by
              rw [← dpall_length p2]
              exact (List.getElem?_eq_some_iff.mp ex).1
            have ep : prs[i]? = some prs[i] := List.getElem?_eq_getElem hi
            rw [drop_some ep] at ef
            unfold flG at ef
            split at ef
            · rename_i a b epr
              split at ef
              · rename_i k1 ek1
                split at ef
                · rename_i k2 ek2
                  obtain ⟨v, ev, qv⟩ := dpall_get p2 ep
                  rw [ev] at ex
                  cases ex
                  obtain ⟨t, rfl, qt⟩ := dp_pair qv epr
                  refine ⟨t, _, rfl, sqt_mono F'.keep qt, rfl, _, _, rfl, _, _, rfl, rfl, ?_⟩
                  have s1' : ((σ'.set 3 (some (V.int a))).set 4 (some (V.int b)))[1]? = some (some (.ref D)) := by rw [List.getElem?_set_ne (by decide), List.getElem?_set_ne (by decide)]; exact s1
                  have s3 : ((σ'.set 3 (some (V.int a))).set 4 (some (V.int b)))[3]? = some (some (.int a)) := by rw [List.getElem?_set_ne (by decide), List.getElem?_set_self (by omega)]
                  have s4 : ((σ'.set 3 (some (V.int a))).set 4 (some (V.int b)))[4]? = some (some (.int b)) := by rw [List.getElem?_set_self (by rw [List.length_set]; omega)]
                  obtain ⟨c1, ks1, a1, b1, d1, F1⟩ := F'.add ek1
                  obtain ⟨c2, ks2, a2, b2, d2, F2⟩ := F1.add ek2
                  refine ⟨_, s1', _, s3, .inl ⟨D, _, a, _, rfl, rfl, .inl (.inl F'.dl), a1, _, s4, c1, _, rfl, DPut.k (k := .inl b) b1 (by unfold tmap; rw [List.length_map]; exact d1), ?_⟩⟩
                  rw [putK_tmap]
                  refine ⟨_, s1', _, s4, .inl ⟨D, _, b, _, rfl, rfl, .inl (.inl F1.dl), a2, _, s3, c2, _, rfl, DPut.k (k := .inl a) b2 (by unfold tmap; rw [List.length_map]; exact d2), ?_⟩⟩
                  rw [putK_tmap]
                  exact ⟨k2, ef, F2, by rw [List.length_set, List.length_set]; exact l5, s1'⟩
                · cases ef
              · cases ef
            · cases ef
          · rw [dpall_length p2, List.drop_length] at ef
            cases ef
            refine ⟨_, s1, ?_⟩
            obtain ⟨W', l, hW, rD⟩ := F'.done hH (by rw [hl]; exact n3)
            exact h _ H' W' l hW rD
      · exact h.elim
    · exact h.elim
  · exact h.elim
end
end DL
end
section
/-! D13: short names for derivations; parallel stores to cells; constants of the module. -/
namespace DL
open PySem PySem.Spec PyProof.Rows L2
theorem Room.u65 {k : Nat} {A : Around} (r : Room k A) : A.units + 65 < cLine := by have := r.un; omega
theorem Room.u1 {k : Nat} {A : Around} (r : Room k A) : A.units + 1 < cLine := by have := r.un; omega
def fuel : Nat := 100000
section
variable {X : Cx} {T : Tb} {Wx : WX} {pos p : Pos} {x : Str} {i k : Nat} {e a b : Expr} {es : List Expr}
/-- a local, a cell's name, a captured one -/
theorem vL (i : Nat) (hN : X.N[i]? = some x := by rfl) (h : X.env.scope.names.lookup x = some .local := by rfl) (hd : (x == ("__debug__" : Str)) = false := by decide) (hcd : (x == ("__classdict__" : Str)) = false := by decide) : DE X T Wx (.Name x pos) (eVar i) := de_var (pe_var hN (.inl h) hd hcd)
theorem vC (i : Nat) (hN : X.N[i]? = some x := by rfl) (h : X.env.scope.names.lookup x = some .cell := by rfl) (hd : (x == ("__debug__" : Str)) = false := by decide) (hcd : (x == ("__classdict__" : Str)) = false := by decide) : DE X T Wx (.Name x pos) (eVar i) := de_var (pe_var hN (.inr (.inl h)) hd hcd)
theorem vF (i : Nat) (hN : X.N[i]? = some x := by rfl) (h : X.env.scope.names.lookup x = some .free := by rfl) (hd : (x == ("__debug__" : Str)) = false := by decide) (hcd : (x == ("__classdict__" : Str)) = false := by decide) : DE X T Wx (.Name x pos) (eVar i) := de_var (pe_var hN (.inr (.inr h)) hd hcd)
/-- a module's constant -/
theorem gInt {n : Int} (h : ∃ t, X.mg x = some (.int n t)) (hg : Gl X x := by rfl) (hd : (x == ("__debug__" : Str)) = false := by decide) : DE X T Wx (.Name x pos) (eC (.int n)) := ⟨fun pins s σ H Q I q => by
  obtain ⟨t, ht⟩ := h
  obtain ⟨r, st, W, hH, hS, o⟩ := q
  exact ld_glob I hg ht ⟨.int n, H, I, ⟨t, rfl⟩, o _ H W (Wd.le.refl W) hH (.int n)⟩ hd⟩
/-- x, y = a, b where one is a cell: the pair is made -/
theorem gcons2 {K : PySem.W.Frag} {W1 : Wd} {st1 : Sto} {r : Rho} {σ : L2.St} {D : Ends} {mg : Str → Option Value} {H1 : Hp} {vs : List V} {xs : List DV} {i j : Nat} (h1 : RelH K T W1 st1 H1) (s1 : RelS K W1 r σ) (rv : RepVs K W1 vs xs)
    (q : OutS K mg T Wx W1 D (match (generalizing := false) xs with | [x, y] => some (.fl .nx ((r.set i (some x)).set j (some y)), st1) | _ => none)) :
    vs.length ≤ sizeLine ∧ ∀ p, H1 p = none → gTup K 2 (gCons (gName i) (gCons (gName j) gNil)) (.ref p) σ (upd H1 p (.tup vs)) D.nx := by
  split at q
  · obtain ⟨u, v, rfl, ru, rv⟩ := reps_two rv
    refine ⟨by show 2 ≤ sizeLine; decide, fun p n => ?_⟩
    have l2 := Wd.le_put (o := .tup [u, v]) (h1.fresh n)
    exact ⟨p, [u, v], rfl, .inl (.inl upd_same), rfl, u, [v], rfl, v, [], rfl, rfl, q _ _ (W1.put p (.tup [u, v])) l2 (h1.put n (by show 2 ≤ sizeLine; decide)) (((s1.mono l2).set (ru.mono l2)).set (rv.mono l2))⟩
  · exact q.elim
theorem gcons3 {K : PySem.W.Frag} {W1 : Wd} {st1 : Sto} {r : Rho} {σ : L2.St} {D : Ends} {mg : Str → Option Value} {H1 : Hp} {vs : List V} {xs : List DV} {i j l : Nat} (h1 : RelH K T W1 st1 H1) (s1 : RelS K W1 r σ) (rv : RepVs K W1 vs xs)
    (q : OutS K mg T Wx W1 D (match (generalizing := false) xs with | [x, y, z] => some (.fl .nx (((r.set i (some x)).set j (some y)).set l (some z)), st1) | _ => none)) :
    vs.length ≤ sizeLine ∧ ∀ p, H1 p = none → gTup K 3 (gCons (gName i) (gCons (gName j) (gCons (gName l) gNil))) (.ref p) σ (upd H1 p (.tup vs)) D.nx := by
  split at q
  · obtain ⟨u, v, w, rfl, ru, rv, rw3⟩ := reps_three rv
    refine ⟨by show 3 ≤ sizeLine; decide, fun p n => ?_⟩
    have l2 := Wd.le_put (o := .tup [u, v, w]) (h1.fresh n)
    exact ⟨p, [u, v, w], rfl, .inl (.inl upd_same), rfl, u, [v, w], rfl, v, [w], rfl, w, [], rfl, rfl, q _ _ (W1.put p (.tup [u, v, w])) l2 (h1.put n (by show 3 ≤ sizeLine; decide)) ((((s1.mono l2).set (ru.mono l2)).set (rv.mono l2)).set (rw3.mono l2))⟩
  · exact q.elim
theorem ds_parC {k j : Nat} {fa : AF} {as : List Expr} {s : Stmt} (ha : DA X T Wx as fa) (h : ∀ t, PA X as t → PS X s (tAsg (tTup t) (gTup X.K 2 (gCons (gName k) (gCons (gName j) gNil))))) : DS X T Wx s (sPar k j fa) :=
  PS.imp (h _ ha) fun D σ H ⟨r, st, W, hH, hS, h⟩ => by
    refine ⟨r, st, W, hH, hS, (OutS.bind hS h).mono (fun xs st1 q vs H1 W1 l h1 rv => ?_) fun _ _ q => q⟩
    exact gcons2 h1 (hS.mono l) rv (q.mono l)
theorem ds_par3C {k j l : Nat} {fa : AF} {as : List Expr} {s : Stmt} (ha : DA X T Wx as fa) (h : ∀ t, PA X as t → PS X s (tAsg (tTup t) (gTup X.K 3 (gCons (gName k) (gCons (gName j) (gCons (gName l) gNil)))))) : DS X T Wx s (sPar3 k j l fa) :=
  PS.imp (h _ ha) fun D σ H ⟨r, st, W, hH, hS, h⟩ => by
    refine ⟨r, st, W, hH, hS, (OutS.bind hS h).mono (fun xs st1 q vs H1 W1 l h1 rv => ?_) fun _ _ q => q⟩
    exact gcons3 h1 (hS.mono l) rv (q.mono l)
/-- short: methods of lists -/
theorem mApp {o : Expr} {apos cpos : Pos} {fo fe : EF} (ho : DE X T Wx o fo) (he : DE X T Wx e fe) (hbase : attributeBase o "append" X.env (eval o X.env) = eval o X.env := by rfl)
    (hfew : ((backTo cpos (starEach [e] X.env)).all (fun x => !x.1) && (backToKw cpos (keywordEach [] X.env)).all (fun x => x.1.isSome) && decide (([e] : List Expr).length + ([] : List Keyword).length + (if ([] : List Keyword).isEmpty then 0 else 1) < 30)) = true := by rfl)
    (hline : (apos.endLine == cpos.line) = true := by rfl) (hs : starEach [e] X.env = (false, eval e X.env) :: starEach [] X.env := by rfl) (hplain : (backTo cpos (starEach [] X.env)).any (·.1) = false := by rfl) : DE X T Wx (.Call (.Attribute o "append" apos) [e] [] cpos) (eApp fo fe) :=
  de_app ho he (fun to t h1 h2 => pe_bm PySem.F.plainAttrs_list PySem.F.slot_list_append PySem.F.type_list_append mt_append h1 h2 hbase hfew hline hs hplain) hs
theorem mPop {o : Expr} {apos cpos : Pos} {fo fe : EF} (ho : DE X T Wx o fo) (he : DE X T Wx e fe) (hbase : attributeBase o "pop" X.env (eval o X.env) = eval o X.env := by rfl)
    (hfew : ((backTo cpos (starEach [e] X.env)).all (fun x => !x.1) && (backToKw cpos (keywordEach [] X.env)).all (fun x => x.1.isSome) && decide (([e] : List Expr).length + ([] : List Keyword).length + (if ([] : List Keyword).isEmpty then 0 else 1) < 30)) = true := by rfl)
    (hline : (apos.endLine == cpos.line) = true := by rfl) (hs : starEach [e] X.env = (false, eval e X.env) :: starEach [] X.env := by rfl) (hplain : (backTo cpos (starEach [] X.env)).any (·.1) = false := by rfl) : DE X T Wx (.Call (.Attribute o "pop" apos) [e] [] cpos) (ePop fo fe) :=
  de_pop ho he (fun to t h1 h2 => pe_bm PySem.F.plainAttrs_list PySem.F.slot_list_pop PySem.F.type_list_pop mt_popAt h1 h2 hbase hfew hline hs hplain) hs
/-- short: built-ins of one or two values -/
theorem bLen {fa : EF} (hm : X.mg "len" = none) (ha : DE X T Wx e fa) (hg : Gl X "len" := by rfl) (hs : starEach [e] X.env = (false, eval e X.env) :: starEach [] X.env := by rfl) : DE X T Wx (.Call (.Name "len" p) [e] [] pos) (eCall (fB fLen) (aCons fa aNil)) :=
  de_blt call_lenA bf_len hg hm (by rfl) (da_cons ha da_nil hs) fun t h => pe_callB call_lenA hg hm (by rfl) h (he := hs) (hpl := by rfl)
theorem bInt {fa : EF} (hm : X.mg "int" = none) (ha : DE X T Wx e fa) (hg : Gl X "int" := by rfl) (hs : starEach [e] X.env = (false, eval e X.env) :: starEach [] X.env := by rfl) : DE X T Wx (.Call (.Name "int" p) [e] [] pos) (eCall (fB fInt) (aCons fa aNil)) :=
  de_bty call_intA bf_int (da_cons ha da_nil hs) fun t h => pe_callTy call_intA hg hm (by rfl) h (he := hs) (hpl := by rfl)
theorem bStr {fa : EF} (hm : X.mg "str" = none) (ha : DE X T Wx e fa) (hg : Gl X "str" := by rfl) (hs : starEach [e] X.env = (false, eval e X.env) :: starEach [] X.env := by rfl) : DE X T Wx (.Call (.Name "str" p) [e] [] pos) (eCall (fB fStr) (aCons fa aNil)) :=
  de_bty call_str_int bf_str (da_cons ha da_nil hs) fun t h => pe_callTy call_str_int hg hm (by rfl) h (he := hs) (hpl := by rfl)
theorem bTup {fa : EF} (hm : X.mg "tuple" = none) (ha : DE X T Wx e fa) (hg : Gl X "tuple" := by rfl) (hs : starEach [e] X.env = (false, eval e X.env) :: starEach [] X.env := by rfl) : DE X T Wx (.Call (.Name "tuple" p) [e] [] pos) (eCall (fB fTup) (aCons fa aNil)) :=
  de_bty call_tuple_of bf_tup (da_cons ha da_nil hs) fun t h => pe_callTy call_tuple_of hg hm (by rfl) h (he := hs) (hpl := by rfl)
theorem bSum {fa : EF} (hc : X.calm = true) (hm : X.mg "sum" = none) (ha : DE X T Wx e fa) (hg : Gl X "sum" := by rfl) (hs : starEach [e] X.env = (false, eval e X.env) :: starEach [] X.env := by rfl) : DE X T Wx (.Call (.Name "sum" p) [e] [] pos) (eCall (fB fSum) (aCons fa aNil)) :=
  de_blt (cr_sum hc) bf_sum hg hm (by rfl) (da_cons ha da_nil hs) fun t h => pe_callB (cr_sum hc) hg hm (by rfl) h (he := hs) (hpl := by rfl)
theorem bSorted {fa : EF} (hc : X.calm = true) (hm : X.mg "sorted" = none) (ha : DE X T Wx e fa) (hg : Gl X "sorted" := by rfl) (hs : starEach [e] X.env = (false, eval e X.env) :: starEach [] X.env := by rfl) : DE X T Wx (.Call (.Name "sorted" p) [e] [] pos) (eCall (fB fSortA) (aCons fa aNil)) :=
  de_blt (call_sortAll hc) bf_sortA hg hm (by rfl) (da_cons ha da_nil hs) fun t h => pe_callB (call_sortAll hc) hg hm (by rfl) h (he := hs) (hpl := by rfl)
theorem bMin {fa fb : EF} (hc : X.calm = true) (hm : X.mg "min" = none) (ha : DE X T Wx a fa) (hb : DE X T Wx b fb) (hg : Gl X "min" := by rfl) (hs : starEach [a, b] X.env = (false, eval a X.env) :: starEach [b] X.env := by rfl) (hs2 : starEach [b] X.env = (false, eval b X.env) :: starEach [] X.env := by rfl) (hpl : (backTo pos (starEach [b] X.env)).any (·.1) = false := by rfl) : DE X T Wx (.Call (.Name "min" p) [a, b] [] pos) (eCall (fB fMin) (aCons fa (aCons fb aNil))) :=
  de_blt (call_min2 hc) bf_min hg hm (by rfl) (da_cons ha (da_cons hb da_nil hs2) hs) fun t h => pe_callB (call_min2 hc) hg hm (by rfl) h (he := hs) (hpl := hpl)
theorem bMax {fa fb : EF} (hc : X.calm = true) (hm : X.mg "max" = none) (ha : DE X T Wx a fa) (hb : DE X T Wx b fb) (hg : Gl X "max" := by rfl) (hs : starEach [a, b] X.env = (false, eval a X.env) :: starEach [b] X.env := by rfl) (hs2 : starEach [b] X.env = (false, eval b X.env) :: starEach [] X.env := by rfl) (hpl : (backTo pos (starEach [b] X.env)).any (·.1) = false := by rfl) : DE X T Wx (.Call (.Name "max" p) [a, b] [] pos) (eCall (fB fMax) (aCons fa (aCons fb aNil))) :=
  de_blt (call_max2 hc) bf_max hg hm (by rfl) (da_cons ha (da_cons hb da_nil hs2) hs) fun t h => pe_callB (call_max2 hc) hg hm (by rfl) h (he := hs) (hpl := hpl)
end
end DL
end
section
/-! D14: the end of a law row: from the mirror of the law to the row. -/
namespace DL
open PySem PySem.Spec PyProof.Rows L2
/-- the law's promise holds if its mirror says True -/
theorem law_sp {K : PySem.W.Frag} {mg : Str → Option Value} {T : Tb} {F : List DV → MM DV} {H : Hp} {a : Addr} {ns : List Int} (hn : ns.length ≤ sizeLine) (hT : ∀ P, T.tab P → H P = some (.tbl #[])) (hcap : T.cap = []) (hS : SqL K H a (ns.map V.int))
    (h : ∃ st', F [.d (.list (ns.map .int))] [] = some (.ok (.d (.bool true)), st')) : spD K mg T 1 F [.ref a] H (fun v _ => v = .bl true) fun _ _ _ => False := by
  obtain ⟨st', e⟩ := h
  have key : ∃ Hs : Hp, (∀ p o, Hs p = some o → H p = some o ∧ okFrz o) ∧ SqL K Hs a (ns.map V.int) := by
    rcases hS with (q | ⟨o, q⟩) | q
    · refine ⟨fun b => if b = a then H a else none, fun p o z => ?_, .inl (.inl (by simp [q]))⟩
      have z : (if p = a then H a else none) = some o := z
      split at z
      · rename_i hp
        rw [q] at z
        cases z
        rw [hp]
        exact ⟨q, by show (ns.map V.int).length ≤ sizeLine; rw [List.length_map]; exact hn⟩
      · cases z
    · refine ⟨fun b => if b = a then H a else none, fun p u z => ?_, .inl (.inr ⟨o, by simp [q]⟩)⟩
      have z : (if p = a then H a else none) = some u := z
      split at z
      · rename_i hp
        rw [q] at z
        cases z
        rw [hp]
        exact ⟨q, by show (ns.map V.int).length ≤ sizeLine; rw [List.length_map]; exact hn⟩
      · cases z
    · exact ⟨fun _ => none, fun p o z => (nomatch z), .inr q⟩
  obtain ⟨Hs, h1, h2⟩ := key
  refine ⟨rfl, ⟨Hs, []⟩, [], [.d (.list (ns.map .int))], ⟨h1, fun P t => ⟨#[], hT P t, trivial, fun pos cv q _ z => by
    have z : codeAmong pos [] = some cv := z
    simp [codeAmong] at z⟩, rfl, .nil, fun k b c z => by simp at z, fun q hq => by rw [hcap] at hq; cases hq⟩, .cons (.lst h2 (dpall_of_ints ns)) .nil, ?_⟩
  rw [e]
  intro v H' W' _ _ rv
  cases (show Dp K W'.Hs v (.bool true) from rv)
  rfl
/-- the end of a row whose defs hold generator expressions: each def's table is empty -/
theorem walk_ofAll {l : PySem.W.OpenLaw} {n k : Nat} {q : Program} {loose : List Str} {XP : (Str → Option Value) → Heap → Prop} {YP : World → Heap → Prop} {d : DefRec} {K : Params → PySem.W.Frag} {CX : World → CXT} {x : Str}
    (most : l.most = some n) (few : n ≤ sizeLine) (plain : d.params.defaults = []) (room : Room k callerA) (inK : ∀ (w : World) (h : Heap), YP w h → (K w.params).In h)
    (F : ∀ (w : World) (mg : Str → Option Value) (fa : Addr) (h : Heap), YP w h → (K w.params).In h → h.Ns mainGlobals mg → mg d.name = some (.ref fa) →
      (∀ e ∈ recsOf q, ∀ g, mg e.name = some (.ref g) → LamX.OwnTab (K w.params) g h) → LamX.LawAtS l w (K w.params) (CX w) k n x mg fa h)
    (noX : ∀ (w : World) (H : Hp) (s : Shared) (e : Value) (s' : Shared), CX w [] H s (fun _ _ _ => False) e s' → False) :
    PySem.W.WalkO q loose XP YP l.row.toRowW d [] (fun f vs => PySem.call f vs) := by
  refine Att.attach_callB most plain fun w s₀ s₁ mg mb fa o pm cd doc a vs ns G Y ho hd hcd hmg hobj hints hlen hbits hg => ?_
  have inn := inK w _ Y
  have tabs : ∀ e ∈ recsOf q, ∀ g, mg e.name = some (.ref g) → LamX.OwnTab (K w.params) g s₁.heap := fun e he g eg c P o1 fd1 z dd vs1 sl r1 r2 r3 r4 r5 => by
    obtain ⟨a2, o2, fd2, c2, P2, t1, t2, t3, t4, t5, ⟨⟨oc, vc, u1, _, u3, u4⟩, empty⟩⟩ := G.T.tab e he
    cases eg.symm.trans t1
    cases (inn _ _ r1).symm.trans t2
    cases r2.symm.trans t3
    cases r3.symm.trans t4
    cases (inn _ _ r4).symm.trans u1
    cases u3
    cases r5.symm.trans u4
    exact empty
  obtain ⟨fd, cs, sp, e1, e2, e3, e4, e5, e6⟩ := F w mg fa _ Y inn G.T.g hmg tabs
  exact LamX.law_callTs inn G.T.g G.T.b G.T.builtins G.T.nolimit hg e1 e2 e3 G.T.bmain hobj hints (Nat.le_trans hlen few) room e6 e4 (fun H hH hS => e5 H a ns hlen hbits hH hS) fun H e s' => noX w H s₁ e s'
/-- a table known, for the generators' rule -/
theorem tab_of {base : Heap} {mg : Str → Option Value} {c P : Addr} (h : LamX.TabB base mg c P) : GxR.TabB base mg c P := ⟨h.code, h.bm, h.gP⟩
theorem dn_mk {K : PySem.W.Frag} {h : Heap} {mg : Str → Option Value} {x : Str} {st : Stmt} {ps : List Str} {f : Addr} {oc kV doc pm cdv ct : Value} {od an : Option Addr} {osl : Array (Option Value)} (X : K.In h) (G : h.Ns mainGlobals mg) (a : PySem.W.nsIn K mainGlobals x = some (some (.ref f)))
    (l : K.lookup f = some ⟨oc, od, .func (PySem.W.fnOf x x (defArgs st) (defBody st) (defScope st) .none kV doc pm an cdv ct), osl⟩) (c : PySem.W.codeIn K cdv x = true) (k : PySem.W.keepIn K (.ref f) = true)
    (b : Fun K x x st f (PySem.W.fnOf x x (defArgs st) (defBody st) (defScope st) .none kV doc pm an cdv ct) → Binds K (PySem.W.fnOf x x (defArgs st) (defBody st) (defScope st) .none kV doc pm an cdv ct) ps []) :
    Dn K mg x st ps f (PySem.W.fnOf x x (defArgs st) (defBody st) (defScope st) .none kV doc pm an cdv ct) := ⟨fun_mk l c k, PySem.W.mg_of X G a, b (fun_mk l c k)⟩
/-- what is told of a def with a generator expression -/
def GenFacts (K : PySem.W.Frag) (mg : Str → Option Value) (h : Heap) (x : Str) (st : Stmt) (ps : List Str) : Prop := ∃ f fd, Dn K mg x st ps f fd ∧ ∃ c P, fd.code = .ref c ∧ PySem.W.codeHdIn K c P = true ∧ K.lookup P = none ∧ h.get? P = some { cls := .none, data := .fields #[] }
/-- a def with a generator expression: its code object and table too -/
theorem gen_mk {q : Program} {K : PySem.W.Frag} {h : Heap} {mg : Str → Option Value} {x : Str} {st : Stmt} {ps : List Str} {f c P : Addr} {oc kV doc pm ct e : Value} {od an dd : Option Addr} {osl sl : Array (Option Value)} {vs : Array Value} (X : K.In h) (G : h.Ns mainGlobals mg)
    (tabs : ∀ e ∈ recsOf q, ∀ g, mg e.name = some (.ref g) → LamX.OwnTab K g h) (hm : ((recsOf q).any fun e => e.name == x) = true) (a : PySem.W.nsIn K mainGlobals x = some (some (.ref f)))
    (l : K.lookup f = some ⟨oc, od, .func (PySem.W.fnOf x x (defArgs st) (defBody st) (defScope st) .none kV doc pm an (.ref c) ct), osl⟩) (cc : PySem.W.codeIn K (.ref c) x = true) (k : PySem.W.keepIn K (.ref f) = true)
    (lc : K.lookup c = some ⟨e, dd, .fields vs, sl⟩) (p : vs[11]? = some (.ref P)) (hh : PySem.W.codeHdIn K c P = true) (nP : K.lookup P = none)
    (b : Fun K x x st f (PySem.W.fnOf x x (defArgs st) (defBody st) (defScope st) .none kV doc pm an (.ref c) ct) → Binds K (PySem.W.fnOf x x (defArgs st) (defBody st) (defScope st) .none kV doc pm an (.ref c) ct) ps []) :
    GenFacts K mg h x st ps := by
  obtain ⟨r, hr, er⟩ := List.any_eq_true.mp hm
  have en : r.name = x := beq_iff_eq.mp er
  exact ⟨f, _, dn_mk X G a l cc k b, c, P, rfl, hh, nP, tabs r hr f (by rw [en]; exact PySem.W.mg_of X G a) c P _ _ _ _ _ _ l rfl rfl lc p⟩
theorem mem_snd {l : List (Addr × Addr)} {c P : Addr} (h : (c, P) ∈ l) : P ∈ l.map (·.2) := List.mem_map.mpr ⟨(c, P), h, rfl⟩
theorem gint_mk {K : PySem.W.Frag} {h : Heap} {mg : Str → Option Value} {x : Str} {v : Value} {n : Int} {t : Tok} (X : K.In h) (G : h.Ns mainGlobals mg) (e : PySem.W.nsIn K mainGlobals x = some (some v)) (hv : v = .int n t) : ∃ t, mg x = some (.int n t) := ⟨t, by rw [← hv]; exact PySem.W.mg_of X G e⟩
theorem no_x {P : Program} {w : World} {H : Hp} {s : Shared} {e : Value} {s' : Shared} (z : L2.CX P w [] H s (fun _ _ _ => False) e s') : False := by
  obtain ⟨_, _, _, _, _, _, _, _, _, _, _, _, z⟩ := z
  exact z
end DL
end
section
/-! D15: raise of an own exception, try .. except. -/
namespace DL
open PySem PySem.Spec PyProof.Rows L2
/-- an own class over ValueError, by the literal facts -/
structure Xc (K : PySem.W.Frag) (mg : Str → Option Value) (x : Str) (C : Addr) : Prop where
  g : mg x = some (.ref C)
  q : PySem.W.excIn K C [.type "ValueError", .type "Exception", .type "BaseException", .type "object"] "ValueError.__new__" = true
  k : PySem.W.keepIn K (.ref C) = true
  b : PySem.W.subIn K (.ref C) (.type "BaseException") = some true
  t : PySem.W.typeIn K (.ref C) = some (.type "type")
section
variable {X : Cx} {T : Tb} {Wx : WX}
/-- X(), X an own exception class without own __init__ -/
theorem pmk_own0 {C : Addr} {bmB : List Value} {B newId initId : String} {x : Str} {p pos : Pos} (F : ExcBaseFacts B newId initId bmB) (q : PySem.W.excIn X.K C bmB newId = true) (gC : X.mg x = some (.ref C))
    (kC : PySem.W.keepIn X.K (.ref C) = true) (r : Raises X (.ref C)) (hg : Gl X x) (hdb : (x == ("__debug__" : Str)) = false := by decide) :
    PMk X (.Call (.Name x p) [] [] pos) (fun _ H Q => Q (.ref C) none H) := by
  intro pins s σ H Q I h
  refine wpAny_Call_Name_kw (ld_glob I hg gC ?_ hdb)
  refine PySem.W.callWith_K0 I.kIn kC ?_
  show wpAny _ _ (call (.ref C) []) _ _ _
  obtain ⟨bm, N, nm, qn, bs, hdct, sn, sub, ab, col, dd, k0, k1, k2, k3, k5, mN, hC, hN, hni, T⟩ := exc_obj I.kIn q
  refine wpAny_call_exc_subT F T hC hN hni (fun h' e hm => ?_) (Nat.zero_le _)
  exact mk_of I hm r h (I.hok.gone hm.new)
def sRaise (c : Str) : SF := fun r st => some (.er ⟨c, []⟩ r, st)
theorem ds_raise0 {x : Str} {C : Addr} {p pos pos' : Pos} (hc : X.calm = true) (tk : Takes X Wx) (c : Xc X.K X.mg x C) (hg : Gl X x) (hdb : (x == ("__debug__" : Str)) = false := by decide) :
    DS X T Wx (.Raise (some (.Call (.Name x p) [] [] pos)) none pos') (sRaise x) :=
  PS.imp (ps_raise hc tk (pmk_own0 PySem.F.excBase_ValueError c.q c.g c.k (raises_own c.b c.t) hg hdb)) fun D σ H ⟨r, st, W, hH, hS, h⟩ => h (.ref C) none σ H W (Wd.le.refl W) hH hS ⟨⟨C, c.g, rfl⟩, .inl rfl⟩
/-- try .. except x as n -/
def sTry (b : SF) (c : Str) (i : Nat) (s : SF) : SF := fun r st => match b r st with
  | some (.er x r1, st1) => if x.cls = c then (match s (r1.set i none) st1 with
    | some (.fl .nx r2, st2) => some (.fl .nx (r2.set i none), st2)
    | some (.fl (.rt v) r2, st2) => some (.fl (.rt v) r2, st2)
    | _ => none) else none
  | o => o
theorem ds_try_as {x n : Str} {C : Addr} {i : Nat} {body suite : List Stmt} {b₀ : Stmt} {np pos pos' : Pos} {b su : SF} (hs : X.stack = X.env :: X.outer) (hf : X.env.frame = some X.env.locals) (hN : X.N.Nodup) (hi : X.N[i]? = some n) (hln : X.env.kindOf n = some .local)
    (c : Xc X.K X.mg x C) (m : PySem.W.exmOne X.K (.ref C) (.ref C) = some true) (hg : Gl X x) (tk : Takes X Wx) (hdb : (x == ("__debug__" : Str)) = false)
    (hb : ∀ (W : WX) (pn : List (Addr × Obj)) (xe : Value → Shared → Prop), Takes (X.tr pn xe) W → PassesOwn (model X.prog X.w) X.A X.env xe → DSs (X.tr pn xe) T W body b)
    (hsu : ∀ (a : Addr) (pn : List (Addr × Obj)), DSs (X.suite a pn) T (fun _ _ _ _ => False) (b₀ :: suite) su) :
    DS X T Wx (.Try body [.ExceptHandler (some (.Name x np)) (some n) (b₀ :: suite) pos'] [] [] pos) (sTry b x i su) := by
  refine PS.imp (ps_try_as (tb := fun W => tsD X.K X.mg T W b) (ts := fun _ _ _ => tsD X.K X.mg T (fun _ _ _ _ => False) su) hs hf hN hi hln ⟨hg, hdb, .inl c.g⟩ tk hb fun a oe cls d pn _ _ => hsu a _) fun D σ H ⟨r, st, W, hH, hS, h⟩ => ⟨r, st, W, hH, hS, ?_⟩
  unfold sTry at h
  generalize b r st = z at h ⊢
  match z, h with
  | some (.fl .nx r2, st2), h => exact h
  | some (.fl .ct r2, st2), h => exact h
  | some (.fl .bk r2, st2), h => exact h
  | some (.fl (.rt x) r2, st2), h => exact h
  | some (.er e r1, st1), h =>
    intro cv dd σ1 H1 W1 l1 h1 s1 xr
    simp only at h
    split at h
    · rename_i ec
      obtain ⟨⟨C', g', rfl⟩, _⟩ := xr
      rw [ec, c.g] at g'
      cases g'
      refine ⟨true, m, fun _ a _ => ⟨r1.set i none, st1, W1, h1, s1.forget, ?_⟩, fun z => (nomatch z)⟩
      generalize su (r1.set i none) st1 = z at h ⊢
      match z, h with
      | some (.fl .nx r2, st2), h => exact fun σ3 H3 W3 l3 h3 s3 => h _ H3 W3 (l1.trans l3) h3 s3.forget
      | some (.fl (.rt x) r2, st2), h => exact fun v3 H3 W3 l3 h3 s3 => h v3 H3 W3 (l1.trans l3) h3 s3
    · exact h.elim
end
end DL
end
section
/-! D16: sorted(set(a list or a tuple of ints)). -/
namespace DL
open PySem PySem.Spec PyProof.Rows L2
section
variable {X : Cx}
def intsOf : PyData → Option (List Int)
  | .list ds => ints? ds
  | .tuple ds => ints? ds
  | _ => none
def eSortSetA (a : EF) : EF := fun r => bnd (a r) fun x => lft fun st => match (res st x).bind intsOf with
  | some ns => if ns.length < 4000 ∧ (usort ns).length < 64 then some (.d (.list ((usort ns).map .int))) else none
  | none => none
variable {T : Tb} {Wx : WX} {a : Expr} {pos p p1 p2 : Pos}
theorem de_sortSetA {fa : EF} (hc : X.calm = true) (hg : Gl X "sorted") (hm : X.mg "sorted" = none) (hg2 : Gl X "set") (hm2 : X.mg "set" = none) (ha : DE X T Wx a fa) (na : starEach [a] X.env = (false, eval a X.env) :: starEach [] X.env := by rfl) :
    DE X T Wx (.Call (.Name "sorted" p) [.Call (.Name "set" p1) [a] [] p2] [] pos) (eSortSetA fa) :=
  PE.imp (pe_sortSetA hc hg hm hg2 hm2 ha (na := na)) fun σ H Q ⟨r, st, W, hH, hS, h⟩ => by
    refine td_bnd hH hS h fun x st1 v H1 W1 l1 h1 rv s1 h => ?_
    obtain ⟨z, e, k⟩ := h.lft
    have fin : ∀ ns l, (ns.length < 4000 ∧ (usort ns).length < 64) → z = .d (.list ((usort ns).map .int)) → sqA X.K H1 l (ns.map V.int) → v = .ref l → ∃ (l : Addr) (ns : List Int), v = V.ref l ∧ sqA X.K H1 l (ns.map V.int) ∧ (ns.length < 4000 ∧ ∀ m : List Int, m.Nodup → (∀ k, k ∈ m ↔ k ∈ ns) → m.length < 64) ∧
        ∀ (ns' : List Int) (p : Addr), ns'.Pairwise (· < ·) → (∀ k, k ∈ ns' ↔ k ∈ ns) → H1 p = none → Q (.ref p) (upd H1 p (.lst (ns'.map V.int))) := fun ns l hl ez q1 ev => ⟨l, ns, ev, q1, ⟨hl.1, usort_few hl.2⟩, fun ns' p h3 h4 hp => by
      have : ns' = usort ns := ssorted_ext _ _ h3 (usort_pw ns) fun k => by rw [h4 k, usort_mem]
      subst this
      have hz := usort_len ns
      rw [ez] at k
      exact okV.ints (k.mono l1) h1 (Nat.le_trans (by omega) (show 64 ≤ sizeLine by decide)) p hp⟩
    cases hr : res st1 x with
    | none => rw [hr] at e; cases e
    | some d =>
      rw [hr] at e
      cases d with
      | list ds =>
        change (match ints? ds with | some ns => _ | none => none) = some z at e
        cases en : ints? ds with
        | none => rw [en] at e; cases e
        | some ns =>
          rw [en] at e
          simp only at e
          split at e
          · rename_i hl
            cases e
            obtain ⟨l, vs, rfl, q1, q2, q3⟩ := h1.resL rv hr
            have ev := dpall_ints q2 en
            subst ev
            exact fin ns l hl rfl (.inl q1) rfl
          · cases e
      | tuple ds =>
        change (match ints? ds with | some ns => _ | none => none) = some z at e
        cases en : ints? ds with
        | none => rw [en] at e; cases e
        | some ns =>
          rw [en] at e
          simp only at e
          split at e
          · rename_i hl
            cases e
            obtain ⟨l, vs, rfl, q1, q2, q3⟩ := h1.resT rv hr
            have ev := dpall_ints q2 en
            subst ev
            exact fin ns l hl rfl (.inr q1) rfl
          · cases e
      | _ => cases e
theorem exm_own {K : PySem.W.Frag} {S : Addr} (h1 : PySem.W.subIn K (.ref S) (.type "BaseException") = some true) (h2 : PySem.W.isClsIn K S = true) (h3 : PySem.W.typeIn K (.ref S) = some (.type "type")) (h4 : PySem.W.subIn K (.ref S) (.ref S) = some true) :
    PySem.W.exmOne K (.ref S) (.ref S) = some true := by
  unfold PySem.W.exmOne
  rw [h1]
  simp only [beq_self_eq_true, if_true]
  have h2' : (PySem.W.clsIn K S).isSome = true := h2
  show (if ((PySem.W.clsIn K S).isSome && PySem.W.typeIn K (.ref S) == some (.type "type")) = true then PySem.W.subIn K (.ref S) (.ref S) else none) = some true
  rw [h2', h3, h4]
  rfl
/-- list(range(n)), never changed -/
def eLrgD (a : EF) : EF := fun r => bnd (a r) fun x => lft fun st => match res st x with
  | some (.int j) => if j ≤ 16777216 ∧ -16777216 ≤ j then some (.d (.list (rgD 0 j))) else none
  | _ => none
theorem de_lrgD {e : Expr} {fa : EF} (hc : X.calm = true) (hg : Gl X "list") (hm : X.mg "list" = none) (hgr : Gl X "range") (hmr : X.mg "range" = none) (ha : DE X T Wx e fa) (na : starEach [e] X.env = (false, eval e X.env) :: starEach [] X.env := by rfl)
    (nb : starEach [.Call (.Name "range" p1) [e] [] p2] X.env = (false, eval (.Call (.Name "range" p1) [e] [] p2) X.env) :: starEach [] X.env := by rfl) : DE X T Wx (.Call (.Name "list" p) [.Call (.Name "range" p1) [e] [] p2] [] pos) (eLrgD fa) :=
  PE.imp (pe_listRg hc hg hm (prg_1 hgr hmr ha na) nb) fun σ H Q ⟨r, st, W, hH, hS, h⟩ => by
    refine td_bnd hH hS h fun x st1 v H1 W1 l1 h1 rv s1 h => ?_
    obtain ⟨z, e, k⟩ := h.lft
    split at e
    · rename_i n en
      split at e
      · rename_i hn
        cases e
        exact ⟨n, h1.resI rv en, ⟨by decide, by decide, by omega, by omega, by omega⟩, (k.mono l1).lst h1 (dpall_rg 0 n) (Nat.le_trans (by rw [rgV_length]; omega) (show 16777216 ≤ sizeLine by decide))⟩
      · cases e
    · cases e
end
end DL
end
section
/-! D17: the facts of an own exception class, made. -/
namespace DL
open PySem PySem.Spec PyProof.Rows L2
theorem xc_mk {K : PySem.W.Frag} {h : Heap} {mg : Str → Option Value} {x : Str} {C : Addr} (X : K.In h) (G : h.Ns mainGlobals mg) (a : PySem.W.nsIn K mainGlobals x = some (some (.ref C)))
    (q : PySem.W.excIn K C [.type "ValueError", .type "Exception", .type "BaseException", .type "object"] "ValueError.__new__" = true) (k : PySem.W.keepIn K (.ref C) = true) (b : PySem.W.subIn K (.ref C) (.type "BaseException") = some true)
    (t : PySem.W.typeIn K (.ref C) = some (.type "type")) (f : PySem.W.isClsIn K C = true) (s : PySem.W.subIn K (.ref C) (.ref C) = some true) : Xc K mg x C ∧ PySem.W.exmOne K (.ref C) (.ref C) = some true :=
  ⟨⟨PySem.W.mg_of X G a, q, k, b, t⟩, exm_own b f t s⟩
end DL
end
section
/-! D18: x += e, x *= e of ints. -/
namespace DL
open PySem PySem.Spec PyProof.Rows L2
def sAug (i : Nat) (o : Int → Int → Int) (c : Int → Int → Bool) (a : EF) : SF := fun r st => match r[i]? with
  | some (some (.d (.int x))) => sBind (a r) r (fun y st => match y with
    | .d (.int z) => if c x z = true then some (.fl .nx (r.set i (some (.d (.int (o x z))))), st) else none
    | _ => none) st
  | _ => none
def cAll (_ _ : Int) : Bool := true
def cMul (i j : Int) : Bool := decide ((-(2 ^ 64) < i ∧ i < 2 ^ 64) ∨ (-(2 ^ 64) < j ∧ j < 2 ^ 64))
section
variable {X : Cx} {T : Tb} {Wx : WX} {e : Expr} {pos pos' : Pos}
theorem ds_aug {i : Nat} {x : Str} {op : Operator} {ti : TIp} {o : Int → Int → Int} {c : Int → Int → Bool} {fa : EF} (hN : X.N.Nodup) (hi : X.N[i]? = some x) (hx : Loc X.env.scope x) (ha : DE X T Wx e fa) (ho : PIp X op ti)
    (hti : ∀ x z H Q, c x z = true → Q (.int (o x z)) H → ti (.int x) (.int z) H Q) (hf : X.fn x = true ∨ X.env.scope.names.lookup x = some .local := by first | exact .inl rfl | exact .inr rfl | assumption) :
    DS X T Wx (.AugAssign (.Name x pos') op e pos) (sAug i o c fa) :=
  PS.imp (ps_aug hN hi hx ha ho hf) fun D σ H ⟨r, st, W, hH, hS, h⟩ => by
    unfold sAug at h
    split at h
    · rename_i x er
      obtain ⟨v, e1, rv⟩ := hS.at_ i _ er
      cases (show Dp X.K W.Hs v (.int x) from rv)
      refine ⟨_, e1, ?_⟩
      refine tds_bnd hH hS h fun y st1 u H1 W1 l1 h1 ru s1 h => ?_
      split at h
      · rename_i z
        split at h
        · rename_i hc
          cases (show Dp X.K W1.Hs u (.int z) from ru)
          refine hti x z H1 _ hc ?_
          exact h _ H1 W1 (Wd.le.refl _) h1 (s1.set (show RepV X.K W1 (.int (o x z)) (.d (.int (o x z))) from Dp.int _))
        · exact h.elim
      · exact h.elim
    · exact h.elim
theorem pip_add : PIp X .Add (rI0 fun i j => .int (i + j)) := iop_add
theorem pip_sub : PIp X .Sub (rI0 fun i j => .int (i - j)) := iop_sub
theorem pip_mul : PIp X .Mult (rI CMul fun i j => .int (i * j)) := iop_mul
end
end DL
end
section
/-! D19: mixed lists: data, empty dicts, places. -/
namespace DL
open PySem PySem.Spec PyProof.Rows L2
/-- an empty dict that nothing changes -/
def eDctZ : EF := fun _ => ret (.dk [])
def it1? : DV → Option It1
  | .d p => some (.d p)
  | .dk [] => some .e
  | .mu k => some (.m k)
  | _ => none
def its? : List DV → Option (List It1)
  | [] => some []
  | x :: r => match it1? x, its? r with
    | some a, some b => some (a :: b)
    | _, _ => none
def eLstX (a : AF) : EF := fun r => bnd (a r) fun xs => lft fun _ => if xs.length ≤ sizeLine then (its? xs).map .xl else none
def toXl : DV → Option (List It1)
  | .xl xs => some xs
  | .d (.list ds) => some (ds.map .d)
  | _ => none
def oAddX : DV → DV → Sto → Option DV := fun x y _ => match toXl x, toXl y with
  | some a, some b => if a.length + b.length ≤ sizeLine then some (.xl (a ++ b)) else none
  | _, _ => none
section
variable {K : PySem.W.Frag} {T : Tb} {W : Wd} {st : Sto} {H : Hp} {v : V} {x : DV} {Q : VK}
theorem rep_it1 : ∀ {x : DV} {y : It1}, RepV K W v x → it1? x = some y → RepI K W v y
  | .d p, _, h, e => by
    cases e
    exact h
  | .dk [], _, h, e => by
    cases e
    exact h
  | .dk (_ :: _), _, _, e => by cases e
  | .dl _, _, _, e => by cases e
  | .xl _, _, _, e => by cases e
  | .mu k, _, h, e => by
    cases e
    exact h
theorem reps_its : ∀ {vs : List V} {xs : List DV} {ys : List It1}, RepVs K W vs xs → its? xs = some ys → XlAll K W vs ys
  | _, _, _, .nil, e => by
    cases e
    exact .nil
  | _, _, _, .cons a b, e => by
    simp only [its?] at e
    split at e
    · rename_i e1 e2
      cases e
      exact .cons (rep_it1 a e1) (reps_its b e2)
    · cases e
theorem xl_append : ∀ {vs ws : List V} {xs ys : List It1}, XlAll K W vs xs → XlAll K W ws ys → XlAll K W (vs ++ ws) (xs ++ ys)
  | _, _, _, _, .nil, h => h
  | _, _, _, _, .cons a b, h => .cons a (xl_append b h)
theorem xl_dp : ∀ {vs : List V} {ds : List PyData}, DpAll K W.Hs vs ds → XlAll K W vs (ds.map .d)
  | _, _, .nil => .nil
  | _, _, .cons a b => .cons a (xl_dp b)
theorem okV.xl {xs : List It1} {vs : List V} (h : okV K T W Q (.xl xs) st) (hH : RelH K T W st H) (q : XlAll K W vs xs) (l : vs.length ≤ sizeLine) : ∀ p, H p = none → Q (.ref p) (upd H p (.lst vs)) := fun p n =>
  h _ _ (W.put p (.lst vs)) (Wd.le_put (hH.fresh n)) (hH.put n l) ⟨p, vs, rfl, by show upd W.Hs p _ p = _; rw [upd_same], q.mono (Wd.le_put (hH.fresh n))⟩
theorem to_xl (hH : RelH K T W st H) {xs : List It1} (q : RepV K W v x) (e : toXl x = some xs) : ∃ a vs, v = .ref a ∧ SqL K H a vs ∧ XlAll K W vs xs ∧ vs.length ≤ sizeLine := by
  cases x with
  | xl ys =>
    cases e
    obtain ⟨a, vs, rfl, h1, h2⟩ := q
    obtain ⟨g1, g2⟩ := hH.frz a _ h1
    exact ⟨a, vs, rfl, .inl (.inl g1), h2, g2⟩
  | d p =>
    cases p with
    | list ds =>
      cases e
      obtain ⟨a, vs, rfl, h1, h2, h3⟩ := hH.resL q rfl
      exact ⟨a, vs, rfl, h1, xl_dp h2, h3⟩
    | _ => cases e
  | _ => cases e
end
section
variable {X : Cx} {T : Tb} {Wx : WX} {pos : Pos} {e : Expr}
theorem de_dctZ : DE X T Wx (.Dict [] [] pos) eDctZ :=
  PE.imp pe_dnewK fun σ H Q ⟨r, st, W, hH, hS, h⟩ p n => h _ _ (W.put p (.dK [])) (Wd.le_put (hH.fresh n)) (hH.put n (Nat.zero_le _)) ⟨p, rfl, .inl (by show upd W.Hs p _ p = _; rw [upd_same]; rfl)⟩
theorem de_lstX {es : List Expr} {fa : AF} (ha : DA X T Wx es fa) : DE X T Wx (.List es pos) (eLstX fa) :=
  PE.imp (pe_lst ha) fun σ H Q ⟨r, st, W, hH, hS, h⟩ => by
    refine tad_bnd hH hS h fun x st1 v H1 W1 l1 h1 rv s1 h => ?_
    obtain ⟨z, e, k⟩ := h.lft
    split at e
    · rename_i hl
      obtain ⟨ds, e1, rfl⟩ := Option.map_eq_some_iff.mp e
      have q := reps_its rv e1
      have hl2 : v.length ≤ sizeLine := by
        rw [rv.length]
        exact hl
      exact ⟨hl2, (k.mono l1).xl h1 q hl2⟩
    · cases e
theorem opd_addX {K : PySem.W.Frag} : OpD K T (rCatS K) oAddX := by
  intro W st H u v x y z Q hH ru rv e k
  unfold oAddX at e
  split at e
  · rename_i a b e1 e2
    split at e
    · rename_i hl
      cases e
      obtain ⟨p1, vs, rfl, h1, h2, h3⟩ := to_xl hH ru e1
      obtain ⟨p2, ws, rfl, g1, g2, g3⟩ := to_xl hH rv e2
      have l1 := xl_len h2
      have l2 := xl_len g2
      exact ⟨p1, p2, vs, ws, rfl, rfl, h1, g1, by omega, k.xl hH (xl_append h2 g2) (by rw [List.length_append]; omega)⟩
    · cases e
  · cases e
theorem hti_add : ∀ x z H (Q : VK), cAll x z = true → Q (.int (x + z)) H → (rI0 fun i j => V.int (i + j)) (.int x) (.int z) H Q := fun x z H Q _ q => ⟨x, z, rfl, rfl, q⟩
theorem hti_sub : ∀ x z H (Q : VK), cAll x z = true → Q (.int (x - z)) H → (rI0 fun i j => V.int (i - j)) (.int x) (.int z) H Q := fun x z H Q _ q => ⟨x, z, rfl, rfl, q⟩
theorem hti_mul : ∀ x z H (Q : VK), cMul x z = true → Q (.int (x * z)) H → (rI CMul fun i j => V.int (i * j)) (.int x) (.int z) H Q := fun x z H Q c q => ⟨x, z, rfl, rfl, of_decide_eq_true (p := (-(2 ^ 64) < x ∧ x < 2 ^ 64) ∨ (-(2 ^ 64) < z ∧ z < 2 ^ 64)) c, q⟩
end
end DL
end
section
/-! D20: max, min of a list or a tuple of ints; t[::-1]; xs.extend(ys); tuples of the module. -/
namespace DL
open PySem PySem.Spec PyProof.Rows L2

/-! ### max, min of a tuple -/
/-- a strict order by which the best of some numbers is chosen -/
structure Beats (more : Int → Int → Bool) : Prop where
  self : ∀ a, more a a = false
  keep : ∀ a b c, more a b = true → more c b = false → more c a = false
theorem best_top {more : Int → Int → Bool} (O : Beats more) (val : Nat → Int) : ∀ k,
    argBest (fun i j => more (val i) (val j)) k ≤ k ∧ ∀ j ≤ k, more (val j) (val (argBest (fun i j => more (val i) (val j)) k)) = false := by
  intro k
  induction k with
  | zero => exact ⟨Nat.le_refl _, fun j hj => by rw [Nat.le_zero.mp hj]; exact O.self _⟩
  | succ k ih =>
    rw [argBest]
    split
    · rename_i win
      refine ⟨Nat.le_refl _, fun j hj => ?_⟩
      rcases Nat.lt_or_eq_of_le hj with lo | e
      · exact O.keep _ _ _ win (ih.2 j (Nat.le_of_lt_succ lo))
      · rw [e]
        exact O.self _
    · rename_i lose
      refine ⟨Nat.le_succ_of_le ih.1, fun j hj => ?_⟩
      rcases Nat.lt_or_eq_of_le hj with lo | e
      · exact ih.2 j (Nat.le_of_lt_succ lo)
      · rw [e]
        exact eq_false_of_ne_true lose
section
variable {P : Program} {w : World}
/-- one pass over a tuple's numbers -/
theorem pass_tuple {B : Around} {E : Value → Shared → Prop} {Q : Value → Shared → Prop} {s : Shared} {l : Addr} {us : List Value} {ns : List Int} {op : CmpOp} {more : Int → Int → Bool} (O : Beats more)
    (cmp : ∀ (p : Nat → Value → Prop) (val : Nat → Int), (∀ i v, p i v → ∃ t, v = .int (val i) t) → CmpOf P w B op p fun i j => more (val i) (val j))
    (hB : B.handled = none) (hl : s.heap.IsTuple l us.toArray) (hi : IntsAre us ns) (some' : 0 < ns.length)
    (h : ∀ g k m t, (∀ b o, s.heap.get? b = some o → g.get? b = some o) → m ∈ ns → (∀ a ∈ ns, more a m = false) → Q (.int m t) { s with heap := g, toks := k }) :
    wpAny (model P w) B (pyIter (.ref l)) (fun it s₂ => ∃ I fp wr n p St bt, it = .ref I ∧ Walks P w B I fp wr n p St ∧ St 0 s₂.heap ∧ (∀ b ∈ fp, b < s₂.heap.objs.size) ∧ 0 < n ∧ CmpOf P w B op p bt ∧
      ∀ v g k, p (argBest bt (n - 1)) v → (∀ b o, b ∉ wr → s₂.heap.get? b = some o → g.get? b = some o) → Q v { s₂ with heap := g, toks := k }) E s := by
  have old : l < s.heap.objs.size := hl.elim fun o q => Heap.lt_size q.1
  have long : us.length = ns.length := hi.length
  apply wpAny_pyIter_tuple hl
  refine ⟨_, _, _, _, _, _, _, rfl, Walks.tuple hB s.heap.objs.size l (Nat.ne_of_lt old) us.toArray, ⟨⟨_, Heap.get?_push_size _ rfl, rfl, rfl⟩, hl.push _⟩, ?_, by simpa [long] using some',
    cmp _ (fun i => (ns[i]?).getD 0) fun i v q => ?_, fun v g k q keep => ?_⟩
  · intro b hb
    have lo : b ≤ s.heap.objs.size := by
      rcases List.mem_cons.mp hb with e | e
      · exact Nat.le_of_eq e
      · exact Nat.le_of_lt (List.mem_singleton.mp e ▸ old)
    exact Nat.lt_of_lt_of_eq (Nat.lt_succ_of_le lo) (Heap.size_push ..).symm
  · obtain ⟨z, t, e1, e2⟩ := ints_get hi i v (by simpa using q)
    exact ⟨t, by rw [e2, e1]; rfl⟩
  · obtain ⟨z, t, e1, e2⟩ := ints_get hi _ v (by simpa using q)
    have top := best_top O (fun i => (ns[i]?).getD 0) (us.toArray.size - 1)
    subst e2
    refine h g k z t (fun b o q => keep b o ?_ (Heap.get?_push_of_some _ q)) (List.mem_of_getElem? e1) fun a ha => ?_
    · exact fun e => Nat.ne_of_lt (Heap.lt_size q) (List.mem_singleton.mp e)
    · obtain ⟨j, lo, e⟩ := List.mem_iff_getElem.mp ha
      have beat := top.2 j (by rw [List.size_toArray, long]; exact Nat.le_sub_one_of_lt lo)
      have e3 : ns[argBest (fun i j => more (ns[i]?.getD 0) (ns[j]?.getD 0)) (us.toArray.size - 1)]? = some z := e1
      rw [List.getElem?_eq_getElem lo, e3] at beat
      rw [← e]
      exact beat
end
def rMaxA (K : PySem.W.Frag) : List V → Hp → VK → Prop := fun vs H Q => rMax K vs H Q ∨ ∃ a ns, vs = [V.ref a] ∧ SqT K H a (List.map V.int ns) ∧ 0 < ns.length ∧ ∀ m ∈ ns, (∀ y ∈ ns, y ≤ m) → Q (.int m) H
def rMinA (K : PySem.W.Frag) : List V → Hp → VK → Prop := fun vs H Q => rMin K vs H Q ∨ ∃ a ns, vs = [V.ref a] ∧ SqT K H a (List.map V.int ns) ∧ 0 < ns.length ∧ ∀ m ∈ ns, (∀ y ∈ ns, m ≤ y) → Q (.int m) H
theorem beats_gt : Beats fun a b => decide (a > b) := ⟨fun a => by simp, fun a b c h k => by simp at h k ⊢; omega⟩
theorem beats_lt : Beats fun a b => decide (a < b) := ⟨fun a => by simp, fun a b c h k => by simp at h k ⊢; omega⟩
theorem cr_maxA {X : Cx} (hc : X.calm = true) : CallR X (.builtin "max") (rMaxA X.K) :=
  CallR.or (cr_max hc) fun pins s σ H vs us Q I rs ⟨a, ns, e, ht, some', q⟩ => by
    subst e
    obtain ⟨its, rv, at0, _⟩ := I.tuple ht
    rw [Vals.ref1 rs]
    apply call_max_walk
    exact pass_tuple beats_gt (fun p val => CmpOf.ints_gt val) (I.ok.hd hc) at0 rv.ints some' fun g k m t keep here top => ⟨.int m, H, I.kept keep, ⟨t, rfl⟩, q m here fun y hy => by simpa using top y hy⟩
theorem cr_minA {X : Cx} (hc : X.calm = true) : CallR X (.builtin "min") (rMinA X.K) :=
  CallR.or (cr_min hc) fun pins s σ H vs us Q I rs ⟨a, ns, e, ht, some', q⟩ => by
    subst e
    obtain ⟨its, rv, at0, _⟩ := I.tuple ht
    rw [Vals.ref1 rs]
    apply call_min_walk
    exact pass_tuple beats_lt (fun p val => CmpOf.ints_lt val) (I.ok.hd hc) at0 rv.ints some' fun g k m t keep here top => ⟨.int m, H, I.kept keep, ⟨t, rfl⟩, q m here fun y hy => by simpa using top y hy⟩
def minI : List Int → Int → Int
  | [], m => m
  | n :: r, m => minI r (if n < m then n else m)
theorem minI_spec : ∀ (r : List Int) (m : Int), (minI r m = m ∨ minI r m ∈ r) ∧ minI r m ≤ m ∧ ∀ y ∈ r, minI r m ≤ y
  | [], m => ⟨.inl rfl, Int.le_refl _, fun _ h => by cases h⟩
  | n :: r, m => by
    unfold minI
    obtain ⟨h1, h2, h3⟩ := minI_spec r (if n < m then n else m)
    refine ⟨?_, ?_, fun y hy => ?_⟩
    · rcases h1 with h1 | h1
      · rw [h1]
        split
        · exact .inr List.mem_cons_self
        · exact .inl rfl
      · exact .inr (List.mem_cons_of_mem _ h1)
    · refine Int.le_trans h2 ?_
      split <;> omega
    · rcases List.mem_cons.mp hy with e | e
      · subst e
        refine Int.le_trans h2 ?_
        split <;> omega
      · exact h3 y e
theorem max_one {n m : Int} {r : List Int} (hm : m ∈ n :: r) (hle : ∀ y, y ∈ n :: r → y ≤ m) : m = maxI r n := by
  obtain ⟨h1, h2, h3⟩ := maxI_spec r n
  refine Int.le_antisymm ?_ ?_
  · rcases List.mem_cons.mp hm with z | z
    · rw [z]
      exact h2
    · exact h3 m z
  · rcases h1 with z | z
    · rw [z]
      exact hle n List.mem_cons_self
    · exact hle _ (List.mem_cons_of_mem _ z)
theorem min_one {n m : Int} {r : List Int} (hm : m ∈ n :: r) (hle : ∀ y, y ∈ n :: r → m ≤ y) : m = minI r n := by
  obtain ⟨h1, h2, h3⟩ := minI_spec r n
  refine Int.le_antisymm ?_ ?_
  · rcases h1 with z | z
    · rw [z]
      exact hle n List.mem_cons_self
    · exact hle _ (List.mem_cons_of_mem _ z)
  · rcases List.mem_cons.mp hm with z | z
    · rw [z]
      exact h2
    · exact h3 m z
def seqI? (st : Sto) (x : DV) : Option (List Int) := match res st x with
  | some (.list ds) => ints? ds
  | some (.tuple ds) => ints? ds
  | _ => none
def fMaxA : List DV → Sto → Option DV := fun xs st => match xs with
  | [x] => match seqI? st x with
    | some (n :: r) => some (.d (.int (maxI r n)))
    | _ => none
  | _ => none
def fMinA : List DV → Sto → Option DV := fun xs st => match xs with
  | [x] => match seqI? st x with
    | some (n :: r) => some (.d (.int (minI r n)))
    | _ => none
  | _ => none
theorem seqI_at {K : PySem.W.Frag} {T : Tb} {W : Wd} {st : Sto} {H : Hp} {v : V} {x : DV} {ns : List Int} (hH : RelH K T W st H) (q : RepV K W v x) (e : seqI? st x = some ns) : ∃ a, v = .ref a ∧ (SqL K H a (ns.map V.int) ∨ SqT K H a (ns.map V.int)) := by
  unfold seqI? at e
  split at e
  · rename_i ds e1
    obtain ⟨a, ws, rfl, q1, q2, q3⟩ := hH.resL q e1
    rw [dpall_ints q2 e] at q1
    exact ⟨a, rfl, .inl q1⟩
  · rename_i ds e1
    obtain ⟨a, ws, rfl, q1, q2, q3⟩ := hH.resT q e1
    rw [dpall_ints q2 e] at q1
    exact ⟨a, rfl, .inr q1⟩
  · cases e
theorem bf_maxA {K : PySem.W.Frag} {T : Tb} : BfD K T (rMaxA K) fMaxA := by
  intro W st H vs xs z Q hH rv e k
  unfold fMaxA at e
  split at e
  · obtain ⟨v, rfl, q⟩ := reps1 rv
    split at e
    · rename_i n r e1
      cases e
      obtain ⟨a, rfl, q1 | q1⟩ := seqI_at hH q e1
      · exact .inl ⟨a, n :: r, rfl, q1, by simp, fun m hm hle => by rw [max_one hm hle]; exact k.flat hH (.int _)⟩
      · exact .inr ⟨a, n :: r, rfl, q1, by simp, fun m hm hle => by rw [max_one hm hle]; exact k.flat hH (.int _)⟩
    · cases e
  · cases e
theorem bf_minA {K : PySem.W.Frag} {T : Tb} : BfD K T (rMinA K) fMinA := by
  intro W st H vs xs z Q hH rv e k
  unfold fMinA at e
  split at e
  · obtain ⟨v, rfl, q⟩ := reps1 rv
    split at e
    · rename_i n r e1
      cases e
      obtain ⟨a, rfl, q1 | q1⟩ := seqI_at hH q e1
      · exact .inl ⟨a, n :: r, rfl, q1, by simp, fun m hm hle => by rw [min_one hm hle]; exact k.flat hH (.int _)⟩
      · exact .inr ⟨a, n :: r, rfl, q1, by simp, fun m hm hle => by rw [min_one hm hle]; exact k.flat hH (.int _)⟩
    · cases e
  · cases e

/-! ### t[::-1] -/
section
variable {P : Program} {w : World}
theorem pick_same {f g : Nat → Option Value} : ∀ {l : List Nat}, (∀ k ∈ l, f k = g k) → l.filterMap f = l.filterMap g
  | [], _ => rfl
  | k :: l, h => by
    have one := h k List.mem_cons_self
    have more := pick_same fun j hj => h j (List.mem_cons_of_mem k hj)
    simp only [List.filterMap_cons, one, more]
theorem rev_list (xs : Array Value) : (List.range xs.size).filterMap (fun (k : Nat) => xs[((xs.size : Int) - 1 + (k : Int) * (-1)).toNat]?) = xs.toList.reverse := by
  have step : ∀ k ∈ List.range xs.size, xs[((xs.size : Int) - 1 + (k : Int) * (-1)).toNat]? = xs.toList.reverse[k]? := fun k hk => by
    have lo := List.mem_range.mp hk
    have pos : ((xs.size : Int) - 1 + (k : Int) * (-1)).toNat = xs.size - 1 - k := by omega
    rw [pos, List.getElem?_reverse (by simpa using lo), Array.length_toList, Array.getElem?_toList]
  rw [pick_same step]
  have all : xs.size = xs.toList.reverse.length := by simp
  rw [all]
  generalize xs.toList.reverse = ys
  clear step all
  induction ys with
  | nil => rfl
  | cons y ys ih =>
    rw [List.length_cons, List.range_succ_eq_map, List.filterMap_cons, List.filterMap_map]
    exact congrArg (y :: ·) ih
/-- what the slice [::-1] means for n items -/
theorem rev_slice {B : Around} {E : Value → Shared → Prop} {s : Shared} {sl : Addr} {t : Tok} {n : Nat} {Q : Int × Int × Nat → Shared → Prop} (hs : s.heap.IsSliceOf sl .none .none (.int (-1) t)) (h : Q ((n : Int) - 1, -1, n) s) :
    wpAny (model P w) B (Builtin.Slice.sliceApplied (.ref sl) (pure (n : Int))) Q E s := by
  obtain ⟨o, at0, _, da⟩ := hs
  have fld : ∀ (i : Nat) {v : Value} {R : Value → Shared → Prop}, #[Value.none, .none, .int (-1) t][i]? = some v → R v s → wpAny (model P w) B (field (.ref sl) i) R E s := fun i v R e r => wpAny_field at0 da e r
  have many : Builtin.Slice.slicePlaces ((n : Int) - 1) (-1) (-1) = n := by
    simp only [Builtin.Slice.slicePlaces]
    rw [if_neg (by decide)]
    have one : (-(-1) : Int) = 1 := rfl
    rw [one, Int.ediv_one]
    split <;> omega
  have res : wpAny (model P w) B (pure ((n : Int) - 1, (-1 : Int), Builtin.Slice.slicePlaces ((n : Int) - 1) (-1) (-1))) Q E s := wpAny_pure (many.symm ▸ h)
  delta Builtin.Slice.sliceApplied Builtin.Slice.sliceFields
  apply wpAny_bind
  apply wpAny_bind
  apply fld 0 rfl
  apply wpAny_bind
  apply fld 1 rfl
  apply wpAny_bind
  apply fld 2 rfl
  apply wpAny_pure
  apply wpAny_bind
  apply slicePart_int
  apply wpAny_bind
  apply slicePart_none
  apply wpAny_bind
  apply slicePart_none
  apply wpAny_bind
  apply wpAny_pure
  exact res
theorem tail_rev {B : Around} {E : Value → Shared → Prop} {s : Shared} {sl l : Addr} {t : Tok} {us : Array Value} {Q : Value → Shared → Prop} (hl : IsTup s.heap l us) (hs : s.heap.IsSliceOf sl .none .none (.int (-1) t)) (small : us.size ≤ sizeLine)
    (h : Q (.ref s.heap.objs.size) { s with heap := s.heap.push { cls := .type "tuple", data := .seq us.toList.reverse.toArray } }) :
    wpAny (model P w) B (getItem (.ref l) (.ref sl)) Q E s := by
  have fits : sizeOk (.seq us.toList.reverse.toArray) := show us.toList.reverse.toArray.size ≤ sizeLine by simpa using small
  have isl : s.TypeIs (.ref sl) "slice" := hs.elim fun o q => ⟨o, q.1, q.2.1⟩
  delta getItem
  apply wpAny_holding
  apply wpAny_bind
  apply wpAny_sequenceKey hl.typeIs (by decide)
  apply wpAny_bind
  apply wpAny_callSpecial?_slot (id := "tuple.__getitem__") hl.typeIs slot_tuple_getitem
  apply wpAny_call_entry slot_tuple_getitem hl.typeIs entry_tuple_getitem _ (args_tuple_getitem _ _)
  delta Builtin.«tuple.__getitem__»
  apply wpAny_bind
  apply wpAny_pure
  apply wpAny_bind
  apply tupleItemsOf_ hl
  apply wpAny_bind
  apply wpAny_typeOf isl
  apply wpAny_bind
  apply rev_slice hs
  have whole : (((us.size : Int) - 1 == 0 && (-1 : Int) == 1) && us.size == us.size) = false := by
    rw [Bool.and_assoc]
    exact Bool.and_false _
  dsimp only
  rw [whole, rev_list]
  apply wpAny_bind
  apply wpAny_newObj_type (hd := fits)
  exact wpAny_pure ⟨_, rfl, wpAny_pure h⟩
end
section
variable {X : Cx} {T : Tb} {Wx : WX}
def tRevT (K : PySem.W.Frag) (te : TE) : TE := fun σ H Q => te σ H fun x H1 => ∃ a xs, x = .ref a ∧ SqT K H1 a xs ∧ ∀ p, H1 p = none → Q (.ref p) (upd H1 p (.tup xs.reverse))
theorem pe_revT {e : Expr} {te : TE} {k : Nat} {p1 p2 p3 pos : Pos} (he : PE X e te) : PE X (.Subscript e (.Slice none none (some (.UnaryOp .USub (.Constant (.int 1) k p1) p2)) p3) pos) (tRevT X.K te) := by
  constructor
  intro pins s σ H Q I h
  have step : PO X (some (.UnaryOp .USub (.Constant (.int 1) k p1) p2)) _ := po_some (pe_un un_neg pe_int)
  apply Subscript_
  apply thn (he.run pins s σ H _ I h)
  rintro _ t ⟨_, G, J, r0, a, xs, rfl, ht, q⟩
  cases r0
  apply wpAny_Slice
  apply thn (po_none.run pins t σ G (fun o G' => o = none ∧ G' = G) J ⟨rfl, rfl⟩)
  rintro lo t1 ⟨_, _, J1, plo, rfl, rfl⟩
  apply thn (po_none.run pins t1 σ _ (fun o G' => o = none ∧ G' = _) J1 ⟨rfl, rfl⟩)
  rintro hi t2 ⟨_, _, J2, phi, rfl, rfl⟩
  apply thn (step.run pins t2 σ _ (fun o G' => o = some (-1) ∧ G' = _) J2 ⟨1, rfl, -1, rfl, rfl, rfl⟩)
  rintro st t3 ⟨_, _, J3, pst, rfl, rfl⟩
  cases plo
  cases phi
  cases pst
  rename_i u
  have J4 := J3.kept (t' := t3.toks) fun b o z => Heap.get?_push_of_some ({ cls := .type "slice", data := .fields #[.none, .none, .int (-1) u] } : Obj) z
  obtain ⟨its, rv, at0, hz⟩ := J4.tuple ht
  have long : its.length = xs.length := rv.length.symm
  refine tail_any (ops := [.ref a, .ref t3.heap.objs.size]) at0.typeIs slot_tuple_getitem.lookup ?_ (by with_unfolding_all rfl)
  apply tail_rev at0 (Heap.IsSliceOf.new _ _ _ _) (by simpa [long] using hz)
  have free := J4.hok.fresh (Nat.le_refl _)
  have rv' : Vals xs.reverse its.reverse := rv.reverse
  exact ⟨.ref _, upd _ _ (.tup xs.reverse), J4.laid (t' := t3.toks) (fun b o z => Heap.get?_push_of_some _ z) (Nat.le_refl _) ⟨by simpa using hz, _, rv', IsTup.new _ _⟩, rfl, q _ free⟩
def eRevT (a : EF) : EF := fun r => bnd (a r) fun x => lft fun st => match res st x with
  | some (.tuple ds) => some (.d (.tuple ds.reverse))
  | _ => none
theorem dpall_rev {K : PySem.W.Frag} {Hs : Hp} : ∀ {vs : List V} {ds : List PyData}, DpAll K Hs vs ds → DpAll K Hs vs.reverse ds.reverse
  | _, _, .nil => .nil
  | v :: vs, d :: ds, .cons a b => by
    simp only [List.reverse_cons]
    exact dpall_append (dpall_rev b) (.cons a .nil)
theorem de_revT {e : Expr} {fa : EF} {k : Nat} {p1 p2 p3 pos : Pos} (he : DE X T Wx e fa) : DE X T Wx (.Subscript e (.Slice none none (some (.UnaryOp .USub (.Constant (.int 1) k p1) p2)) p3) pos) (eRevT fa) :=
  PE.imp (pe_revT he) fun σ H Q ⟨r, st, W, hH, hS, h⟩ => by
    refine td_bnd hH hS h fun x st1 v H1 W1 l1 h1 rv s1 h => ?_
    obtain ⟨z, e, k⟩ := h.lft
    split at e
    · rename_i ds e1
      cases e
      obtain ⟨a, vs, rfl, q1, q2, q3⟩ := h1.resT rv e1
      exact ⟨a, vs, rfl, q1, (k.mono l1).tup h1 (dpall_rev q2) (by rw [List.length_reverse]; exact q3)⟩
    · cases e

/-! ### xs.extend(ys) -/
theorem ext_body (l b : Addr) (us vs : Array Value) (n n2 : Nat) (dd : Option Addr) (ss : Array (Option Value))
    (short : ¬(!us.isEmpty && Builtin.List.listTooLong (us.size + vs.size)) = true) (z1 : us.size ≤ sizeLine) (z2 : (us ++ vs).size ≤ sizeLine + 1) :
    Meets (Builtin.«list.extend» ⟨[.ref l, .ref b], []⟩) fun _ R s =>
      s.heap.get? l = some { cls := .type "list", dict := none, data := .seq us n, slots := #[] } ∧
      s.heap.get? b = some { cls := .type "list", dict := dd, data := .seq vs n2, slots := ss } ∧
      R (.ok (.ret .none)) { s with heap := s.heap.update l (Obj.mapSeq (· ++ vs)) } :=
  .of_wp fun prog w A R ⟨hp, gs, dr, tk, os⟩ ⟨at1, at2, fin⟩ => by
    have g1 := AutoSeq1.idx_int
    have g2 := AutoSeq1.sub_list_list
    have g3 := AutoSeq1.sub_list_tuple
    have g4 := AutoSeq1.sub_tuple_list
    have g5 := AutoSeq1.sub_tuple_tuple
    wp_walk using wpAny_updateSeq at1 rfl (hz := z1) (_hz' := z2), AutoSeq1.wpAny_loadPart' at1, AutoSeq1.wpAny_loadPart' at2
    exact ⟨Value.none, rfl, fin⟩
def rExtendS (K : PySem.W.Frag) : V → List V → Hp → VK → Prop := fun x vs H Q => ∃ l b xs zs, x = .ref l ∧ vs = [.ref b] ∧ H l = some (.lst xs) ∧ SqL K H b zs ∧ xs.length + zs.length ≤ sizeLine ∧ Q .non (upd H l (.lst (xs ++ zs)))
theorem mt_extendS : MtM X "list.extend" (rExtendS X.K) := fun pins s σ H x vs v us Q I rx rs ⟨l, b, xs, zs, e1, e2, at1, at2, fit, q⟩ => by
  subst e1 e2
  cases rx
  cases rs with
  | cons r0 r1 =>
    cases r0
    cases r1
    obtain ⟨_, its, n, rv, _, here⟩ := I.lstM at1
    obtain ⟨jts, rw', ⟨⟨_, dd, _, ss⟩, n2, there, e3, e4, e5⟩, _⟩ := I.list at2
    simp only at e3 e4 e5
    subst e3 e4 e5
    have n1 : its.length = xs.length := rv.length.symm
    have n3 : jts.length = zs.length := rw'.length.symm
    have both : its.toArray.size + jts.toArray.size ≤ sizeLine := by simpa [n1, n3] using fit
    have body := ext_body l b its.toArray jts.toArray n n2 none ss (by rw [notLongL both]; simp) (Nat.le_trans (Nat.le_add_right _ _) both) (by rw [Array.size_append]; exact Nat.le_succ_of_le both)
    refine call_meets PySem.F.slot_list_extend ⟨_, here, rfl⟩ PySem.F.entry_list_extend (PySem.F.args_list_extend_2 _ _) body ⟨here, there, .non, upd H l (.lst (xs ++ zs)), I.lset (its' := its ++ jts) at1 here (by simp) (rv.append rw') ?_, rfl, q⟩
    rw [List.length_append]
    exact fit
def eExt (o e : EF) : EF := fun r => bnd (o r) fun x => bnd (lft fun st => isLM st x) fun k => bnd (e r) fun y => fun st => match st[k]?, res st y with
  | some (.lst ds), some (.list es) => if ds.length + es.length ≤ sizeLine then some (.ok (.d .none), st.set k (.lst (ds ++ es))) else none
  | _, _ => none
theorem mExt {o e : Expr} {apos cpos : Pos} {fo fe : EF} (ho : DE X T Wx o fo) (he : DE X T Wx e fe) (hbase : attributeBase o "extend" X.env (eval o X.env) = eval o X.env := by rfl)
    (hfew : ((backTo cpos (starEach [e] X.env)).all (fun x => !x.1) && (backToKw cpos (keywordEach [] X.env)).all (fun x => x.1.isSome) && decide (([e] : List Expr).length + ([] : List Keyword).length + (if ([] : List Keyword).isEmpty then 0 else 1) < 30)) = true := by rfl)
    (hline : (apos.endLine == cpos.line) = true := by rfl) (hs : starEach [e] X.env = (false, eval e X.env) :: starEach [] X.env := by rfl) (hplain : (backTo cpos (starEach [] X.env)).any (·.1) = false := by rfl) : DE X T Wx (.Call (.Attribute o "extend" apos) [e] [] cpos) (eExt fo fe) :=
  PE.imp (pe_bm PySem.F.plainAttrs_list PySem.F.slot_list_extend PySem.F.type_list_extend mt_extendS ho (pa_cons he pa_nil hs) hbase hfew hline hs hplain) fun σ H Q ⟨r, st, W, hH, hS, h⟩ => by
    refine td_bnd hH hS h fun x st1 v H1 W1 l1 h1 rv s1 h => ?_
    obtain ⟨k, ek, h⟩ := h.bnd.lft
    obtain ⟨a, rfl, ea, us, hl⟩ := isLM_at h1 rv ek
    refine ⟨.inl ⟨rfl, us, .inl (.inl hl)⟩, ?_⟩
    refine td_bnd h1 s1 (h.mono (fun _ _ q => q) fun _ _ q => q.mono l1) fun y st2 u H2 W2 l2 h2 ru s2 h => ?_
    split at h
    · rename_i ds es e1 e2
      split at h
      · rename_i hz
        obtain ⟨q1, vs, q2, q3, q4⟩ := h2.sto _ _ _ (Wd.le_at l2 ea) e1
        obtain ⟨b, ws, rfl, p1, p2, p3⟩ := h2.resL ru e2
        have hl := dpall_length q4
        have hl2 := dpall_length p2
        exact ⟨a, b, vs, ws, rfl, rfl, q2, p1, by omega, h .non _ W2 (l1.trans l2) (h2.set (c := .lst (ds ++ es)) (Wd.le_at l2 ea) e1 ⟨vs ++ ws, upd_same, by rw [List.length_append]; omega, dpall_append q4 p2⟩) .non⟩
      · exact h.elim
    · exact h.elim
theorem bMaxA {e : Expr} {pos p : Pos} {fa : EF} (hc : X.calm = true) (hm : X.mg "max" = none) (ha : DE X T Wx e fa) (hg : Gl X "max" := by rfl) (hs : starEach [e] X.env = (false, eval e X.env) :: starEach [] X.env := by rfl) : DE X T Wx (.Call (.Name "max" p) [e] [] pos) (eCall (fB fMaxA) (aCons fa aNil)) :=
  de_blt (cr_maxA hc) bf_maxA hg hm (by rfl) (da_cons ha da_nil hs) fun t h => pe_callB (cr_maxA hc) hg hm (by rfl) h (he := hs) (hpl := by rfl)
theorem bMinA {e : Expr} {pos p : Pos} {fa : EF} (hc : X.calm = true) (hm : X.mg "min" = none) (ha : DE X T Wx e fa) (hg : Gl X "min" := by rfl) (hs : starEach [e] X.env = (false, eval e X.env) :: starEach [] X.env := by rfl) : DE X T Wx (.Call (.Name "min" p) [e] [] pos) (eCall (fB fMinA) (aCons fa aNil)) :=
  de_blt (cr_minA hc) bf_minA hg hm (by rfl) (da_cons ha da_nil hs) fun t h => pe_callB (cr_minA hc) hg hm (by rfl) h (he := hs) (hpl := by rfl)
/-! ### a tuple of ints of the module -/
def KTup (K : PySem.W.Frag) (mg : Str → Option Value) (x : Str) (ns : List Int) : Prop := ∃ a, mg x = some (.ref a) ∧ SqT K (fun _ => none) a (ns.map V.int)
theorem gTup' {x : Str} {pos : Pos} {ns : List Int} {ds : List PyData} (h : KTup X.K X.mg x ns) (e : ns.map .int = ds := by rfl) (hg : Gl X x := by rfl) (hd : (x == ("__debug__" : Str)) = false := by decide) : DE X T Wx (.Name x pos) (eC (.tuple ds)) := ⟨fun pins s σ H Q I q => by
  subst e
  obtain ⟨a, ht, hs⟩ := h
  obtain ⟨r, st, W, hH, hS, o⟩ := q
  exact ld_glob I hg ht ⟨.ref a, H, I, rfl, o _ H W (Wd.le.refl W) hH (.tup (sqt_mono (fun _ _ z => by cases z) hs) (dpall_of_ints ns))⟩ hd⟩
end
theorem ktup_mk {K : PySem.W.Frag} {h : Heap} {mg : Str → Option Value} {x : Str} {v : Value} {a : Addr} {o : Obj} {its : Array Value} {n : Nat} {ns : List Int} (_ : K.In h) (G : h.Ns mainGlobals mg) (e : PySem.W.nsIn K mainGlobals x = some (some v)) (hv : v = .ref a)
    (l : K.lookup a = some o) (hc : o.cls = .type "tuple") (hd : o.data = .seq its n) (hs : its.size ≤ sizeLine) (r : Vals (ns.map V.int) its.toList) (X : K.In h := by assumption) : KTup K mg x ns := ⟨a, by rw [← hv]; exact PySem.W.mg_of X G e, .inr ⟨o, its, n, l, hc, hd, hs, r⟩⟩
end DL
end
section
/-! D21: lambdas: made. -/
namespace DL
open PySem PySem.Spec PyProof.Rows L2 LamX

/-! ### the last part of the making, any tuple of defaults -/
section
variable {M : Model} {A : Around} {E : Value → Shared → Prop} {s : Shared}
/-- the tuple of the captured cells, where there are any -/
theorem clos_tup {clos : List (Str × Addr)} {f : Value → Sem Value} {R : Value → Shared → Prop} (go : ∀ (u : Value) (g : Heap), (∀ x ob, s.heap.get? x = some ob → g.get? x = some ob) → s.heap.objs.size ≤ g.objs.size → wpAny M A (f u) R E { s with heap := g }) :
    wpAny M A (if clos.isEmpty = true then (pure Value.none >>= f) else (newTextTuple ((clos.mergeSort fun a b => a.1.cps.toList ≤ b.1.cps.toList).map (.ref ·.2)) >>= f)) R E s := by
  by_cases he : clos.isEmpty = true
  · rw [if_pos he]
    exact wpAny_bind (wpAny_pure (go .none s.heap (fun _ _ q => q) (Nat.le_refl _)))
  · rw [if_neg he]
    exact wpAny_bind (wpAny_newTextTuple (go _ _ (fun _ _ q => Heap.get?_push_of_some _ q) (by rw [Heap.size_push]; exact Nat.le_succ _)))
abbrev lamFd (q : Str) (ar : Arguments) (bd : Expr) (sc : Scope) (cs : List (Str × Addr)) (pm code ct dv : Value) : FuncData := { PySem.W.kla_fn "<lambda>" q ar bd sc cs pm code ct with defaults := dv }
abbrev lamObj (q : Str) (ar : Arguments) (bd : Expr) (sc : Scope) (cs : List (Str × Addr)) (pm code ct dv : Value) : Obj := { cls := .type "function", data := .func (lamFd q ar bd sc cs pm code ct dv) }
variable {q : Str} {ar : Arguments} {bd : Expr} {sc : Scope} {en : Env} {C0 P0 : Addr} {tb : Array Value} {at_ : Pos} {row : Nat} {mg : Str → Option Value} {cs : List (Str × Addr)} {R : Value → Shared → Prop}
theorem lam_tail (dv : Value) (e1 : closureFor sc en = pure cs) (e2 : en.globals = mainGlobals) (gl : s.heap.Ns mainGlobals mg) (e3 : en.code = .ref C0) (cd : PySem.W.CodeHd s.heap C0 P0) (e4 : s.heap.get? P0 = some (PySem.W.tabObj tb)) (e5 : TriplesOk tb.toList)
    (e6 : codeAmong at_ tb.toList = none) (e7 : mainGlobals ≠ P0) (bt : s.heap.BuiltinsAt mg P0)
    (go : ∀ (z : Addr) (u : Value) (g : Heap) (k : Tok), (∀ x ob, x ≠ P0 → s.heap.get? x = some ob → g.get? x = some ob) → s.heap.objs.size ≤ z → z < g.objs.size → g.CodeRec (.ref z) q → g.get? P0 = some (PySem.W.tabObj (tb ++ #[rawInt at_.line, rawInt at_.col, .ref z])) →
      R (.ref g.objs.size) { s with heap := g.push (lamObj q ar bd sc cs ((mg "__name__").getD .none) (.ref z) u dv), toks := k }) :
    wpAny M A (makeTail "<lambda>" q ar (.expr bd) sc en dv .none none at_ row) R E s := by
  obtain ⟨nb, ob, b1, b2, _, b3, b4, b5, b6, b7⟩ := bt
  rw [makeTail, e1, e2]
  refine wpAny_bind (wpAny_pure (clos_tup fun u g1 k1 z1 => ?_))
  have cd1 := cd.keeps k1
  refine wpAny_bind (wpAny_functionCodeX e3 (cd1.code (k1 _ _ e4) e5) (cd1.tab (k1 _ _ e4)) e6 fun z g2 k x2 y1 y2 _ y3 y4 _ => ?_)
  have gl2 := (gl.keeps k1).extBut x2 e7
  refine wpAny_bind (wpAny_builtinsFor gl2 b1 b2 (x2 _ _ b3 (k1 _ _ b4)) b5 b6 b7 (wpAny_bind (wpAny_nsGet gl2 (wpAny_bind (wpAny_pure (wpAny_newObj_type ?_ (by size_fits)))))))
  exact go z u g2 k (fun x ob ne q => x2 x ob ne (k1 x ob q)) (Nat.le_trans z1 y1) y2 y3 y4.2
theorem lam_tailHit (dv : Value) {cv : Value} (e1 : closureFor sc en = pure cs) (e2 : en.globals = mainGlobals) (gl : s.heap.Ns mainGlobals mg) (e3 : en.code = .ref C0) (cd : PySem.W.CodeHd s.heap C0 P0) (e4 : s.heap.get? P0 = some (PySem.W.tabObj tb)) (e5 : TriplesOk tb.toList)
    (e6 : codeAmong at_ tb.toList = some cv) (bt : s.heap.BuiltinsAt mg P0)
    (go : ∀ (u : Value) (g : Heap) (k : Tok), (∀ x ob, s.heap.get? x = some ob → g.get? x = some ob) → s.heap.objs.size ≤ g.objs.size → R (.ref g.objs.size) { s with heap := g.push (lamObj q ar bd sc cs ((mg "__name__").getD .none) cv u dv), toks := k }) :
    wpAny M A (makeTail "<lambda>" q ar (.expr bd) sc en dv .none none at_ row) R E s := by
  obtain ⟨nb, ob, b1, b2, _, b3, b4, b5, b6, b7⟩ := bt
  rw [makeTail, e1, e2]
  refine wpAny_bind (wpAny_pure (clos_tup fun u g1 k1 z1 => ?_))
  have cd1 := cd.keeps k1
  have gl1 := gl.keeps k1
  refine wpAny_bind (wpAny_functionCode_hit e3 (cd1.code (k1 _ _ e4) e5) e6 (wpAny_bind (wpAny_builtinsFor gl1 b1 b2 (k1 _ _ b4) b5 b6 b7 (wpAny_bind (wpAny_nsGet gl1 (wpAny_bind (wpAny_pure (wpAny_newObj_type ?_ (by size_fits)))))))))
  exact go u g1 s.toks k1 z1
end

/-! ### what the walk knows then -/
section
variable {X : Cx} {pins : List (Addr × Obj)} {σ : L2.St} {H : Hp} {s : Shared}
theorem inv_lam {F : LF} {o : Obj} {k : Nat} {m u : Value} (I : Inv X pins σ H s) (ho : o = { cls := .type "function", data := .func (F.fd m u) }) :
    Inv X pins σ (upd H s.heap.objs.size (FnL s.heap.objs.size F)) { s with heap := s.heap.push o, toks := k } := by
  have here : (s.heap.push o).get? s.heap.objs.size = some ⟨.type "function", none, .func (F.fd m u), #[]⟩ := by
    rw [ho]
    exact Heap.get?_push_size _ rfl
  exact I.laid (fun _ _ q => Heap.get?_push_of_some _ q) (Nat.le_refl _) ⟨⟨none, #[], m, u, here⟩, ⟨_, here⟩, fun _ _ ⟨d, l, m', u', z⟩ stay => ⟨d, l, m', u', stay _ z⟩⟩
end
section
variable {K : PySem.W.Frag} {T : Tb} {W : Wd} {st : Sto} {H : Hp}
/-- a code object is laid into a table -/
theorem RelH.code (h : RelH K T W st H) {P c' : Addr} {q : Str} {ps : Array Value} {pos : Pos} (hT : T.tab P) (hP : H P = some (.tbl ps)) (hu : ∀ q', T.lam P pos.line pos.col q' → q' = q) (n : H c' = none) :
    RelH K T (W.put c' (CodeO c' q)) st (upd (upd H P (.tbl (ps ++ #[rawInt pos.line, rawInt pos.col, .ref c']))) c' (CodeO c' q)) := by
  have nHs := h.fresh n
  have nPc : P ≠ c' := ne_of_none hP n
  have le := Wd.le_put (o := CodeO c' q) nHs
  have ntP : ∀ b o, W.Hs b = some o → b ≠ P := fun b o e z => by
    obtain ⟨e1, e2⟩ := h.frz b o e
    rw [z, hP] at e1
    cases e1
    exact e2
  refine ⟨fun b u e => ?_, fun P2 t => ?_, h.len, h.nd, fun k a c e1 e2 => ?_, h.capOf le⟩
  · by_cases hb : b = c'
    · subst hb
      have e' : upd W.Hs b _ b = some u := e
      rw [upd_same] at e' ⊢
      cases e'
      exact ⟨rfl, trivial⟩
    · have e' : upd W.Hs c' _ b = some u := e
      rw [upd_ne hb] at e' ⊢
      obtain ⟨e1, e2⟩ := h.frz b u e'
      rw [upd_ne (ntP b u e')]
      exact ⟨e1, e2⟩
  · by_cases h2 : P2 = P
    · subst h2
      obtain ⟨ps0, z1, z2, z3⟩ := h.tab P2 t
      rw [hP] at z1
      cases z1
      refine ⟨_, by rw [upd_ne nPc, upd_same], by rw [Array.toList_append]; exact PySem.TriplesOk_snoc _ _ _ _ z2, fun p2 cv nm hl hc => ?_⟩
      rw [Array.toList_append] at hc
      rcases NdefX.among_app2 _ z2 hc with hc | ⟨ec, e1, e2⟩
      · obtain ⟨c0, f1, f2⟩ := z3 p2 cv nm hl hc
        exact ⟨c0, f1, le.1 _ _ f2⟩
      · rw [← e1, ← e2] at hl
        have := hu nm hl
        subst this
        exact ⟨c', ec, by show upd W.Hs c' _ c' = _; rw [upd_same]⟩
    · refine (h.tab P2 t).imp (fun ps' e => ?_) fun c nm e => le.1 _ _ e
      rw [upd_ne (ne_of_none e n), upd_ne h2]
      exact e
  · obtain ⟨q1, q2⟩ := h.sto k a c e1 e2
    obtain ⟨u, eu, nt⟩ := q2.some
    have n1 : a ≠ c' := ne_of_none eu n
    have n2 : a ≠ P := fun z => by
      rw [z, hP] at eu
      cases eu
      exact nt ps rfl
    refine ⟨by show upd W.Hs c' _ a = none; rw [upd_ne n1]; exact q1, q2.mono le.1 fun u e => ?_⟩
    rw [upd_ne n1, upd_ne n2]
    exact e
/-- a function laid into the store -/
theorem RelH.clo (h : RelH K T W st H) {f : Addr} {j : Nat} {F : LF} (n : H f = none) (hj : T.nf j F) (hc : W.Hs F.c = some (CodeO F.c F.qual)) (hd : ∀ t, F.dT = some t → W.Hs t = some (.tup [.int 0])) : RelH K T (W.push f) (st ++ [.clo j]) (upd H f (FnL f F)) :=
  h.push n fnL_ne ⟨F, hj, upd_same, hc, hd⟩
end

/-! ### the rule -/
def eLam (j : Nat) : EF := fun _ st => some (.ok (.mu st.length), st ++ [.clo j])
/-- what the making of a lambda asks -/
structure LamOk (X : Cx) (T : Tb) (c P : Addr) (q : Str) (pos : Pos) (scope : Scope) : Prop where
  tb : TabB X.base X.mg c P
  code : X.env.code = .ref c
  tab : T.tab P
  one : ∀ q', T.lam P pos.line pos.col q' → q' = q
  lam : T.lam P pos.line pos.col q
  qual : X.env.qual ++ "<lambda>" = q
  free : ∀ y ∈ scope.names, y.2 = .free → X.env.scope.names.lookup y.1 = some .cell ∨ X.env.scope.names.lookup y.1 = some .free
section
variable {X : Cx} {T : Tb} {Wx : WX} {c P : Addr} {q : Str} {pos : Pos} {params : Arguments} {body : Expr} {scope : Scope} {j : Nat}
/-- the last part: the tuple of defaults is there -/
theorem lam_last {pins : List (Addr × Obj)} {σ : L2.St} {H : Hp} {s : Shared} {W : Wd} {st : Sto} {Q : VK} {dT : Option Addr} (L : LamOk X T c P q pos scope) (I : Inv X pins σ H s) (hH : RelH X.K T W st H) (hd : ∀ t, dT = some t → W.Hs t = some (.tup [.int 0]))
    (nf : ∀ c', T.nf j ⟨q, params, body, scope, cloFrom X.env.cells scope.names [], c', dT⟩)
    (h : ∀ f H1 W', W.le W' → RelH X.K T W' (st ++ [.clo j]) H1 → W'.L[st.length]? = some f → Q (.ref f) H1) :
    wpAny (model X.prog X.w) X.A (makeTail "<lambda>" (X.env.qual ++ "<lambda>") params (.expr body) scope X.env (match dT with | none => .none | some t => .ref t) .none none pos pos.line) (EP X pins σ Q) X.xe s := by
  have hfree : ∀ y ∈ scope.names, y.2 = .free → _ := fun y hy e => I.ok.has y.1 (L.free y hy e)
  obtain ⟨ps, hP, ht, ha⟩ := hH.tab P L.tab
  have bP : s.heap.BuiltinsAt X.mg P := L.tb.bm.keeps I.bk
  have hP' : s.heap.get? P = some { cls := .none, data := .fields ps } := I.hok P _ hP
  have pushL : ∀ (W1 : Wd) (H1 : Hp) (f : Addr), RelH X.K T W1 st H1 → (W1.push f).L[st.length]? = some f := fun W1 H1 f h1 => by
    show (W1.L ++ [f])[st.length]? = some f
    rw [← h1.len]
    simp
  rw [L.qual]
  cases hc : codeAmong pos ps.toList with
  | none =>
    refine lam_tail (mg := X.mg) (C0 := c) (P0 := P) (tb := ps) _ (closure_ok hfree) I.ok.glob (I.mod.glob.keeps I.bk) L.code (L.tb.code.keeps I.bk) hP' ht hc L.tb.gP bP fun c' ctv h' tk hx hge hlt hrec htb => ?_
    obtain ⟨c2, oc, vs, t, e2, hoc, hd2, hv⟩ := hrec
    cases e2
    have nC : H c' = none := I.hok.fresh hge
    have I1 := inv_table (t' := s.toks) (q := q) (more := #[rawInt pos.line, rawInt pos.col, .ref c']) (h' := h') I hP (fun b o hb e => hx b o hb e) htb hge ⟨oc, vs, t, hoc, hd2, hv⟩
    have R1 := hH.code (c' := c') L.tab hP L.one nC
    have le1 := Wd.le_put (o := CodeO c' q) (hH.fresh nC)
    have I2 := inv_lam (F := ⟨q, params, body, scope, cloFrom X.env.cells scope.names [], c', dT⟩) (m := (X.mg "__name__").getD .none) (u := ctv) (k := tk) I1 rfl
    have nf1 := I1.hok.fresh (Nat.le_refl h'.objs.size)
    have R2 := R1.clo (j := j) (f := h'.objs.size) nf1 (nf c') (by show upd W.Hs c' _ c' = _; rw [upd_same]) fun t z => le1.1 _ _ (hd t z)
    exact ⟨.ref _, _, I2, rfl, h _ _ _ (le1.trans Wd.le_push) R2 (pushL _ _ _ R1)⟩
  | some cv =>
    obtain ⟨c', e, hco⟩ := ha pos cv q L.lam hc
    subst e
    refine lam_tailHit (mg := X.mg) (C0 := c) (P0 := P) (tb := ps) _ (closure_ok hfree) I.ok.glob (I.mod.glob.keeps I.bk) L.code (L.tb.code.keeps I.bk) hP' ht hc bP fun ctv h' tk hx hsz => ?_
    have I1 : Inv X pins σ H { s with heap := h', toks := tk } := I.kept hx
    have I2 := inv_lam (F := ⟨q, params, body, scope, cloFrom X.env.cells scope.names [], c', dT⟩) (m := (X.mg "__name__").getD .none) (u := ctv) (k := tk) I1 rfl
    have R2 := hH.clo (j := j) (f := h'.objs.size) (I1.hok.fresh (Nat.le_refl _)) (nf c') hco hd
    exact ⟨.ref _, _, I2, rfl, h _ _ _ Wd.le_push R2 (pushL _ _ _ hH)⟩
theorem de_lam0 (L : LamOk X T c P q pos scope) (hdef : defaultsOf params X.env = ([], [])) (nf : ∀ c', T.nf j ⟨q, params, body, scope, cloFrom X.env.cells scope.names [], c', none⟩) : DE X T Wx (.Lambda params body scope pos) (eLam j) := by
  constructor
  rintro pins s σ H Q I ⟨r, st, W, hH, hS, o⟩
  apply PySem.W.kla_eval hdef
  rw [makeFunction_eq]
  simp only [List.zip_nil_right, List.filterMap_nil, List.isEmpty_nil, if_true, pure_bind]
  exact lam_last (dT := none) L I hH (fun t z => by cases z) nf fun f H1 W' l R e => o _ H1 W' l R ⟨f, rfl, e⟩
end
end DL
end
section
/-! D22: lambdas: called. -/
namespace DL
open PySem PySem.Spec PyProof.Rows L2 LamX NdefX

/-! ### a lambda's run -/
abbrev LF.nf0 (F : LF) : NF := ⟨"<lambda>", F.qual, F.params, [], F.scope, F.cl, F.c⟩
theorem fnL_at {P : Program} {w : World} {H : Hp} {h : Heap} {f : Addr} {F : LF} (hok : HOk P w H h) (e : H f = some (FnL f F)) : ∃ (od : Option Addr) (sl : Array (Option Value)) (pm ctv : Value), h.get? f = some (⟨.type "function", od, .func (F.fd pm ctv), sl⟩ : Obj) := by
  obtain ⟨z, _, _⟩ := hok f _ e
  exact z
/-- the values that stand for arguments left out -/
def DefAt (F : LF) (h : Heap) (ds : List Value) : Prop := match F.dT with
  | none => ds = []
  | some t => ∃ k, ds = [.int 0 k] ∧ h.IsTuple t ds.toArray
/-- n arguments are given; with those left out they are bound to the names ps -/
def LBinds (F : LF) (ps : List Str) (n : Nat) : Prop := ∀ (P : Program) (w : World) (A : Around) (E : Value → Shared → Prop) (s : Shared) (Q : List (Str × Value) → Shared → Prop) (us ds : List Value) (pm ctv : Value),
  us.length = n → DefAt F s.heap ds → Q (ps.zip (us ++ ds)) s → wpAny (model P w) A (bindArgs (F.fd pm ctv) ⟨us, []⟩) Q E s
section
variable {CX : CXT} {P : Program} {w : World} {K : PySem.W.Frag} {mg : Str → Option Value} {base : Heap} {N ps fr : List Str} {F : LF} {f : Addr}
theorem lam_call {A : Around} {outer : List Env} {s : Shared} {H : Hp} {us : List Value} {vs : List V} {ws : List (Option V)} {Q : VK} {E : XK} {k n : Nat} {t : TE} {ds : List V}
    (S : NScope N ps fr F.scope) (B : LBinds F ps n) (hr : Room (k + 1) A) (e0 : Env0 P w K mg base A outer s H) (hf : H f = some (FnL f F)) (hc : H F.c = some (CodeO F.c F.qual)) (hd : ∀ t, F.dT = some t → H t = some (.tup [.int 0])) (hds : ds = match F.dT with | none => [] | some _ => [.int 0])
    (C : CellsAt F.cl fr ws s.heap H) (r : Vals vs us) (hn : vs.length = n) (hp : n + ds.length = ps.length)
    (body : Room k (A.deeper (envF F.nf0 f s.heap.objs.size)) → PE (ncx CX P w K mg base N F.nf0 f A outer s H E) F.body t) (ht : t (startF N (vs ++ ds) ws) H Q) :
    codeAny (model P w) A (.call (.ref f) ⟨us, []⟩) (CR CX outer P w H s Q E) s := by
  have lim : s.heap.NoLimit := e0.mod.nolimit.keeps fun b o e => (e0.bs b o e).1
  obtain ⟨od, sl, pm, ctv, here⟩ := fnL_at e0.hok hf
  have given : us.length = n := r.length ▸ hn
  -- the values of the arguments left out
  obtain ⟨du, at0, rd⟩ : ∃ du, DefAt F s.heap du ∧ Vals ds du := by
    subst hds
    unfold DefAt
    cases e : F.dT with
    | none => exact ⟨[], rfl, .nil⟩
    | some t =>
      obtain ⟨_, its, rv, tup⟩ := e0.hok t _ (hd t e)
      cases rv with
      | cons ra rv =>
        cases rv
        obtain ⟨k, rfl⟩ := ra
        exact ⟨[.int 0 k], ⟨k, rfl, tup⟩, .cons ⟨k, rfl⟩ .nil⟩
  have all := r.append rd
  have many : (vs ++ ds).length = ps.length := by rw [List.length_append, hn, hp]
  apply PySem.W.kla_callFunE hr.depth here rfl S.co S.gen rfl (codeO_at e0.hok hc)
  apply B P w A.in1 _ s _ us du pm ctv given at0
  apply wpAny_newFunctionEnv S.nocell (fun b hb => S.par b.1 (List.of_mem_zip hb).1) _ S.kind
  intro g names same
  refine ⟨lim.fresh _ same, ?_⟩
  have keep : ∀ b o, s.heap.get? b = some o → g.get? b = some o := fun b o e => same.extBut b o (Nat.ne_of_lt (Heap.lt_size e)) (Heap.get?_push_of_some _ e)
  have I : Inv (ncx CX P w K mg base N F.nf0 f A outer s H E) [] (startF N (vs ++ ds) ws) H { s with heap := g, toks := s.toks + (ps.zip (us ++ du)).length } := inv_startN S hr.hd e0 many all C names keep
  have run := (body (hr.deeper _)).run [] _ _ H Q I ht
  apply PySem.W.kla_codeExpr
  apply wpAny_mono run
  · rintro v z ⟨x, G, J, rv, q⟩
    exact ⟨x, G, J.os, J.bare, J.base, J.hok, rv, q⟩
  · exact fun e z q => q
end

/-! ### a lambda called in the frame that made it -/
/-- what a mirror knows of a lambda: how many names, where its captured ones stand in the frame around it, whether an argument is left out, its body's mirror -/
structure LM where
  n : Nat
  js : List Nat
  dn : Bool
  B : EF
def LM.ds (L : LM) : List PyData := if L.dn then [.int 0] else []
/-- the names' values at its entry -/
def rhoL (n : Nat) (r : Rho) (js : List Nat) (xs : List DV) : Rho := xs.map some ++ (js.map (fun j => (r[j]?).getD none) ++ List.replicate (n - xs.length - js.length) none)
/-- its end: plain data or an exception; places of its own are forgotten -/
def endL (n : Nat) : Option (Rs DV × Sto) → Option (Rs DV × Sto)
  | some (.ok (.d p), st) => some (.ok (.d p), st.take n)
  | some (.er x, st) => some (.er x, st.take n)
  | _ => none
def runL (L : LM) (r : Rho) (xs : List DV) : MM DV := fun st => endL st.length (L.B (rhoL L.n r L.js (xs ++ L.ds.map .d)) st)
def eClo0 (i : Nat) (tb : List LM) : EF := fun r st => match r[i]? with
  | some (some (.mu k)) => match st[k]? with
    | some (.clo j) => match tb[j]? with
      | some L => runL L r [] st
      | none => none
    | _ => none
  | _ => none
section
variable {K : PySem.W.Frag} {W : Wd} {r r2 : Rho} {σ σ2 : L2.St}
/-- each known name's value stands for the machine's -/
def Each (K : PySem.W.Frag) (W : Wd) (r : Rho) (σ : L2.St) : Prop := ∀ (i : Nat) (x : DV), r[i]? = some (some x) → ∃ v, σ[i]? = some (some v) ∧ RepV K W v x
theorem Each.app (l : r.length = σ.length) (a : Each K W r σ) (b : Each K W r2 σ2) : Each K W (r ++ r2) (σ ++ σ2) := by
  intro i x e
  by_cases h : i < r.length
  · rw [List.getElem?_append_left h] at e
    rw [List.getElem?_append_left (l ▸ h)]
    exact a i x e
  · have h := Nat.not_lt.mp h
    rw [List.getElem?_append_right h] at e
    rw [List.getElem?_append_right (l ▸ h), ← l]
    exact b _ x e
theorem Each.none (n : Nat) : Each K W (List.replicate n none) σ := by
  intro i x e
  rw [List.getElem?_replicate] at e
  split at e <;> cases e
theorem Each.vals {vs : List V} {xs : List DV} (q : RepVs K W vs xs) : Each K W (xs.map some) (vs.map some) := by
  induction q with
  | nil =>
    intro i x e
    cases e
  | cons a _ ih =>
    intro i x e
    cases i with
    | zero =>
      cases e
      exact ⟨_, rfl, a⟩
    | succ i => exact ih i x e
theorem Each.slots (h : Each K W r σ) : ∀ js : List Nat, Each K W (js.map fun j => (r[j]?).getD Option.none) (js.map (slotAt σ))
  | [] => fun i x e => by cases e
  | j :: js => fun i x e => by
    cases i with
    | succ i => exact Each.slots h js i x e
    | zero =>
      have e : (r[j]?).getD Option.none = some x := Option.some.inj e
      cases q : r[j]? with
      | none =>
        rw [q] at e
        cases e
      | some o =>
        rw [q] at e
        have e : o = some x := e
        subst e
        obtain ⟨v, ev, rv⟩ := h j x q
        exact ⟨v, congrArg some (slotAt_of ev), rv⟩
theorem startL {N : List Str} {js : List Nat} {vs : List V} {xs : List DV} (hS : RelS K W r σ) (q : RepVs K W vs xs) : RelS K W (rhoL N.length r js xs) (startF N vs (js.map (slotAt σ))) := by
  have l := q.length
  refine ⟨by simp [rhoL, startF, l], ?_⟩
  have first : (xs.map some).length = (vs.map some).length := by simp [l]
  have second : (js.map fun j => (r[j]?).getD Option.none).length = (js.map (slotAt σ)).length := by simp
  exact Each.app first (Each.vals q) (Each.app second (Each.slots hS.at_ js) (Each.none _))
end
/-- what a call of the lambda F asks; N: its names, ps: its parameters, fr: the captured ones -/
structure LOk (X : Cx) (T : Tb) (k n : Nat) (L : LM) (F : LF) (N ps fr : List Str) : Prop where
  names : N.length = L.n
  scope : NScope N ps fr F.scope
  bind : LBinds F ps n
  some_ : F.dT.isSome = L.dn
  many : n + L.ds.length = ps.length
  caps : X.Ok → Caps X F.cl fr L.js
  body : ∀ (f : Addr) (A : Around) (outer : List Env) (s : Shared) (H : Hp) (E : XK), Room k (A.deeper (envF F.nf0 f s.heap.objs.size)) → Takes (ncx (L2.CX X.prog X.w) X.prog X.w X.K X.mg X.base N F.nf0 f A outer s H E) (Wd0 E) →
    DE (ncx (L2.CX X.prog X.w) X.prog X.w X.K X.mg X.base N F.nf0 f A outer s H E) T (Wd0 E) F.body L.B
section
variable {X : Cx} {T : Tb} {Wx : WX} {k : Nat}
/-- the world behind the call -/
theorem end_ok {W : Wd} {st : Sto} {H : Hp} {z : Option (Rs DV × Sto)} {Q : VK} {E : XK} {σ : L2.St} (hH : RelH X.K T W st H) (o : OutG (endL st.length z) (okV X.K T W Q) (fun x st' => ∀ c dd H' W', W.le W' → RelH X.K T W' st' H' → XRep X.mg H' c dd x → E c dd H')) :
    OutG z (okV X.K T W Q) (erX X.K X.mg T W (Wd0 E) σ) := by
  match z, o with
  | some (.ok (.d p), st'), o => exact fun v H' W' l a rv => o v H' _ (take_le l hH) (a.take _ (hH.capOf (take_le l hH))) rv
  | some (.er x, st'), o => exact fun c dd H' W' l a e => o c dd H' _ (take_le l hH) (a.take _ (hH.capOf (take_le l hH))) e
theorem lam_go {pins : List (Addr × Obj)} {σ : L2.St} {H : Hp} {s : Shared} {W : Wd} {st : Sto} {r : Rho} {Q : VK} {L : LM} {F : LF} {N ps fr : List Str} {f : Addr} {n : Nat} {us : List Value} {vs : List V} {xs : List DV} (ok : LOk X T k n L F N ps fr) (hr : Room (k + 1) X.A) (tk : Takes X Wx) (I : Inv X pins σ H s)
    (hH : RelH X.K T W st H) (hS : RelS X.K W r σ) (hf : H f = some (FnL f F)) (hc : H F.c = some (CodeO F.c F.qual)) (hd : ∀ t, F.dT = some t → H t = some (.tup [.int 0])) (rv : Vals vs us) (q : RepVs X.K W vs xs) (hn : xs.length = n) (o : OutG (runL L r xs st) (okV X.K T W Q) (erX X.K X.mg T W Wx σ)) :
    wpAny (model X.prog X.w) X.A (call (.ref f) us) (EP X pins σ Q) X.xe s := by
  have dflt : RepVs X.K W (match F.dT with | none => [] | some _ => [V.int 0]) (L.ds.map .d) := by
    have e := ok.some_
    unfold LM.ds
    rw [← e]
    cases F.dT with
    | none => exact .nil
    | some t => exact .cons (.int 0) .nil
  have q2 : RepVs X.K W (vs ++ match F.dT with | none => [] | some _ => [V.int 0]) (xs ++ L.ds.map .d) := by
    clear o rv hn
    induction q with
    | nil => exact dflt
    | cons a _ ih => exact .cons a ih
  have l1 := q.length
  have l2 := dflt.length
  rw [List.length_map] at l2
  have got : OutG (L.B (rhoL N.length r L.js (xs ++ L.ds.map .d)) st) (okV X.K T W Q) (erX X.K X.mg T W (Wd0 (WE Wx σ)) (startF N (vs ++ match F.dT with | none => [] | some _ => [V.int 0]) (L.js.map (slotAt σ)))) := by
    unfold runL at o
    rw [← ok.names] at o
    exact end_ok hH o
  have run := lam_call (CX := L2.CX X.prog X.w) (P := X.prog) (w := X.w) (K := X.K) (mg := X.mg) (base := X.base) (Q := Q) (E := WE Wx σ) ok.scope ok.bind hr I.env0 hf hc hd rfl (NdefX.cells_of I (ok.caps I.ok)) rv (l1.trans hn) (by rw [l2]; exact ok.many)
    (fun room => ok.body f X.A X.stack s H _ room (takes_of rfl rfl rfl rfl)) ⟨_, st, W, hH, startL hS q2, got⟩
  apply wpAny_call
  apply codeAny_mono run
  intro z t out
  match z, out with
  | .error e, out => exact passAt tk σ pins H s e t I out
  | .ok (.ret u), out => exact I.after out
theorem de_clo0 {tb : List LM} {i : Nat} {x : Str} {p pos : Pos} (ok : ∀ j F, T.nf j F → ∃ L N ps fr, tb[j]? = some L ∧ LOk X T k 0 L F N ps fr) (hr : Room (k + 1) X.A) (tk : Takes X Wx) (hi : X.N[i]? = some x) (hv : Vis X.env.scope x)
    (hd : (x == ("__debug__" : Str)) = false := by decide) (hcd : (x == ("__classdict__" : Str)) = false := by decide) : DE X T Wx (.Call (.Name x p) [] [] pos) (eClo0 i tb) := by
  constructor
  rintro pins s σ H Q I ⟨r, st, W, hH, hS, o⟩
  unfold eClo0 at o
  split at o
  · rename_i k0 e0
    split at o
    · rename_i j e1
      obtain ⟨_, es, a, rfl, ea⟩ := hS.at_ i _ e0
      obtain ⟨_, F, nf, hf, hc, hdf⟩ := hH.sto k0 a _ ea e1
      obtain ⟨L, N, ps, fr, e2, lok⟩ := ok j F nf
      rw [e2] at o
      have var := (pe_var (pos := p) hi hv hd hcd).run pins s σ H (fun v H1 => v = .ref a ∧ H1 = H) I ⟨.ref a, es, rfl, rfl⟩
      apply wpAny_Call_Name_kw
      apply thn var
      rintro u t ⟨_, _, J, ru, rfl, rfl⟩
      cases ru
      obtain ⟨od, sl, pm, ctv, here⟩ := fnL_at J.hok hf
      apply PySem.W.callWith_F0 (first := []) ⟨_, od, _, sl, here⟩
      exact lam_go lok hr tk J hH hS hf (hH.frz _ _ hc).1 (fun t e => (hH.frz _ _ (hdf t e)).1) .nil .nil rfl o
    · exact o.elim
  · exact o.elim
end
end DL
end
section
/-! D23: a lambda with a default; a frame's own table of lambdas. -/
namespace DL
open PySem PySem.Spec PyProof.Rows L2 LamX NdefX
section
variable {X : Cx} {T : Tb} {Wx : WX} {c P : Addr} {q : Str} {pos p0 : Pos} {params : Arguments} {body : Expr} {scope : Scope} {j kk : Nat}
theorem de_lam1 (L : LamOk X T c P q pos scope) (hdef : defaultsOf params X.env = ([eval (.Constant (.int 0) kk p0) X.env], [])) (nf : ∀ c' t, T.nf j ⟨q, params, body, scope, cloFrom X.env.cells scope.names [], c', some t⟩) : DE X T Wx (.Lambda params body scope pos) (eLam j) := by
  constructor
  rintro pins s σ H Q I ⟨r, st, W, hH, hS, o⟩
  rw [arm_eval_Lambda, hdef]
  apply wpAny_bind
  apply wpAny_bind
  apply thn ((pe_int (X := X) (j := 0) (pos := p0)).run pins s σ H (fun v G => v = .int 0 ∧ G = H) I ⟨rfl, rfl⟩)
  rintro v t ⟨_, _, J, rv, rfl, rfl⟩
  obtain ⟨k, rfl⟩ := rv
  apply wpAny_bind
  apply wpAny_holding
  apply wpAny_pure
  apply wpAny_pure
  apply wpAny_bind
  apply wpAny_holding
  apply wpAny_pure
  rw [makeFunction_eq]
  simp only [List.zip_nil_right, List.filterMap_nil, List.isEmpty_nil, List.isEmpty_cons, Bool.false_eq_true, if_true, if_false, pure_bind]
  apply wpAny_bind
  apply wpAny_newTextTuple
  have J2 := J.laid (t' := t.toks) (o := .tup [.int 0]) (fun b o e => Heap.get?_push_of_some { cls := .type "tuple", data := .seq [Value.int 0 k].toArray } e) (Nat.le_refl _) ⟨by decide, [.int 0 k], .cons ⟨k, rfl⟩ .nil, IsTup.new _ _⟩
  have free := J.fresh
  have le := Wd.le_put (o := .tup [.int 0]) (hH.fresh free)
  have hH2 := hH.put (o := .tup [.int 0]) free (show 1 ≤ sizeLine by decide)
  refine lam_last (dT := some t.heap.objs.size) L J2 hH2 (fun z e => ?_) (fun c' => nf c' _) fun f H1 W' l R e => o _ H1 W' (le.trans l) R ⟨f, rfl, e⟩
  cases e
  exact upd_same
end

/-! ### a frame's own table of lambdas -/
def noClo (st : Sto) : Bool := st.all fun c => match c with
  | .clo _ => false
  | _ => true
theorem RelH.sw {K : PySem.W.Frag} {T T' : Tb} {W : Wd} {st : Sto} {H : Hp} (h : RelH K T W st H) (n : noClo st = true) (e1 : T'.tab = T.tab) (e2 : T'.lam = T.lam) (e3 : T'.cap = T.cap) : RelH K T' W st H where
  frz := h.frz
  tab := fun P t => by
    rw [e2]
    exact h.tab P (e1 ▸ t)
  len := h.len
  nd := h.nd
  sto := fun k a c ea ec => by
    obtain ⟨q1, q2⟩ := h.sto k a c ea ec
    refine ⟨q1, ?_⟩
    cases c with
    | lst ds => exact q2
    | dk ks => exact q2
    | clo j => exact absurd (List.all_eq_true.mp n _ (List.mem_of_getElem? ec)) Bool.false_ne_true
  cap := by
    rw [e3]
    exact h.cap
/-- the body of a frame with lambdas of its own: its places are forgotten at its end -/
def sSw (b : SF) : SF := fun r st => match b r st with
  | some (.fl (.rt (.d p)) _, st') => if noClo st && noClo (st'.take st.length) then some (.fl (.rt (.d p)) r, st'.take st.length) else none
  | _ => none
theorem dss_sw {X : Cx} {T T' : Tb} {Wx : WX} {body : List Stmt} {b : SF} (e1 : T'.tab = T.tab) (e2 : T'.lam = T.lam) (e3 : T'.cap = T.cap) (h : DSs X T' Wx body b) : DSs X T Wx body (sSw b) :=
  PSs.imp h fun D σ H ⟨r, st, W, hH, hS, o⟩ => by
    unfold sSw at o
    split at o
    · rename_i p r' st' eb
      split at o
      · rename_i ok
        simp only [Bool.and_eq_true] at ok
        refine ⟨r, st, W, hH.sw ok.1 e1 e2 e3, hS, ?_⟩
        rw [eb]
        intro v H' W' l R rv
        have caps : ∀ q ∈ T.cap, RepV X.K ⟨W'.Hs, W'.L.take st.length⟩ q.1 q.2 := hH.capOf (take_le l hH)
        have R2 := R.take st.length (by rw [e3]; exact caps)
        exact o v H' _ (take_le l hH) (R2.sw ok.2 e1.symm e2.symm e3.symm) rv
      · exact o.elim
    · exact o.elim
end DL
end
section
/-! D24: what the printed texts ask of lambdas. -/
namespace DL
open PySem PySem.Spec PyProof.Rows L2 LamX NdefX
theorem lbind0 {F : LF} {ps : List Str} {n : Nat} (e : F.dT = none) (h : ∀ (us : List Value) (pm ctv : Value), us.length = n → bindArgs (F.fd pm ctv) ⟨us, []⟩ = pure (ps.zip us)) : LBinds F ps n := by
  intro P w A E s Q us ds pm ctv hl hd q
  unfold DefAt at hd
  rw [e] at hd
  subst hd
  rw [h us pm ctv hl]
  rw [List.append_nil] at q
  exact wpAny_pure q
theorem lbind1 {F : LF} {t : Addr} {a : Arg} {d : Expr} {x : Str} (e : F.dT = some t) (hp : F.params = ⟨[], [a], none, [], [], none, [d]⟩) (hx : a.arg = x) : LBinds F [x] 0 := by
  subst hx
  intro P w A E s Q us ds pm ctv hl hd q
  unfold DefAt at hd
  rw [e] at hd
  obtain ⟨k, rfl, tup⟩ := hd
  cases us with
  | cons u us => cases hl
  | nil =>
    have hv : F.dv = .ref t := by
      unfold LF.dv
      rw [e]
    unfold bindArgs
    obtain ⟨o, at0, _, n, da⟩ := tup
    simp only [hp, hv, List.forIn_nil, pure_bind]
    apply wpAny_bind
    apply wpAny_seqItems at0 da
    simp
    exact wpAny_pure q

/-- the places of a text's lambdas, each with its full name -/
abbrev LamT := List (Nat × Nat × Str)
def LamT.tab (l : LamT) : Addr → Nat → Nat → Str → Prop := fun _ a b q => (a, b, q) ∈ l
theorem lamOk_mk {X : Cx} {T : Tb} {l : LamT} {c P : Addr} {q : Str} {pos : Pos} {scope : Scope} (tb : TabB X.base X.mg c P) (code : X.env.code = .ref c) (tab : T.tab P) (hL : T.lam = l.tab) (one : (l.all fun t => !(t.1 == pos.line && t.2.1 == pos.col) || t.2.2 == q) = true)
    (here : (l.any fun t => t.1 == pos.line && t.2.1 == pos.col && t.2.2 == q) = true) (qual : X.env.qual ++ "<lambda>" = q) (free : ndefB X.env.scope scope [] = true) : LamOk X T c P q pos scope where
  tb := tb
  code := code
  tab := tab
  one := fun q' h => by
    rw [hL] at h
    have k := List.all_eq_true.mp one _ h
    simpa using k
  lam := by
    rw [hL]
    obtain ⟨t, ht, k⟩ := List.any_eq_true.mp here
    simp only [Bool.and_eq_true, beq_iff_eq] at k
    have e : t = (pos.line, pos.col, q) := Prod.ext k.1.1 (Prod.ext k.1.2 k.2)
    rw [e] at ht
    exact ht
  qual := qual
  free := ndef_free free

theorem noLam {T : Tb} {l : LamT} {P : Addr} {pos : Pos} (hL : T.lam = l.tab) (h : (l.all fun t => !(t.1 == pos.line && t.2.1 == pos.col)) = true) : ∀ q, ¬ T.lam P pos.line pos.col q := fun q k => by
  rw [hL] at k
  have := List.all_eq_true.mp h _ k
  simp at this
/-! ### a chained comparison as a test -/
theorem dt_chain2 {X : Cx} {T : Tb} {Wx : WX} {a b c : Expr} {pos : Pos} {op op' : CmpOp} {r r' : R2} {o o' : DV → DV → Sto → Option DV} {fa fb fc : EF} (ho : OpR X (compareOp op) r) (ho' : OpR X (compareOp op') r') (hd : OpD X.K T r o) (hd' : OpD X.K T r' o')
    (ha : DE X T Wx a fa) (hb : DE X T Wx b fb) (hc : DE X T Wx c fc) (p : PT X (.Compare a [op, op'] [b, c] pos) (tTest (tChain r r' (tD X.K X.mg T Wx fa) (tD X.K X.mg T Wx fb) (tD X.K X.mg T Wx fc)))) : DT X T Wx (.Compare a [op, op'] [b, c] pos) (tVal (eChain o o' fa fb fc)) :=
  PT.imp p fun σ H Q ⟨r, st, W, hH, hS, h⟩ => by
    have h := h.bnd
    refine td_bnd hH hS h fun x st1 v H1 W1 l1 h1 rv s1 h => ?_
    refine td_bnd h1 s1 (h.mono (fun _ _ q => q) fun _ _ q => q.mono l1) fun y st2 u H2 W2 l2 h2 ru s2 h => ?_
    obtain ⟨z, e, k⟩ := h.bnd.lft
    refine hd W2 st2 H2 v u x y z _ h2 (rv.mono l2) ru e fun zv H3 W3 l3 h3 rz => ?_
    obtain ⟨kb, ek, k⟩ := k.bnd.lft
    refine ⟨kb, bool_rep rz ek, ?_⟩
    cases kb with
    | true =>
      show tD X.K X.mg T Wx fc σ H3 _
      refine td_bnd h3 (s2.mono l3) (k.mono (fun _ _ q => q) fun _ _ q => q.mono (l2.trans l3)) fun w st4 t H4 W4 l4 h4 rt s4 h => ?_
      obtain ⟨z2, e2, k2⟩ := h.lft
      refine hd' W4 st4 H4 u t y w z2 _ h4 (ru.mono (l3.trans l4)) rt e2 fun zz H5 W5 l5 h5 r5 => ?_
      obtain ⟨b2, eb, k3⟩ := k2.lft
      exact ⟨b2, bool_rep r5 eb, k3 H5 W5 (l1.trans (l2.trans (l3.trans (l4.trans l5)))) h5⟩
    | false =>
      have k : OutG (lft (fun _ => bool? (.d (.bool false))) st2) (okB X.K T W Q) (erX X.K X.mg T W Wx σ) := k
      obtain ⟨b2, eb, k3⟩ := k.lft
      cases eb
      exact ⟨false, rfl, k3 H3 W3 (l1.trans (l2.trans l3)) h3⟩
/-! ### where a text's lambdas stand -/
def kidE : Expr → Nat → Expr
  | .BinOp a _ _ _, 0 => a
  | .BinOp _ _ b _, _ => b
  | .List es _, i => es.getD i default
  | .Tuple es _ _, i => es.getD i default
  | .Call _ es _ _, i => es.getD i default
  | .Compare a _ _ _, 0 => a
  | .Compare _ _ es _, i => es.getD (i - 1) default
  | e, _ => e
def mainE : Stmt → Expr
  | .Return (some e) _ => e
  | .Assign _ e _ => e
  | .For _ e _ _ _ => e
  | .Expr e _ => e
  | .If e _ _ _ => e
  | _ => default
def lamAt (st : Stmt) (i : Nat) (p : List Nat) : Expr := p.foldl kidE (mainE ((defBody st).getD i default))
def ldAr : Expr → Arguments
  | .Lambda a _ _ _ => a
  | _ => default
def ldBd : Expr → Expr
  | .Lambda _ b _ _ => b
  | _ => default
def ldSc : Expr → Scope
  | .Lambda _ _ c _ => c
  | _ => default
abbrev ldF (X : Cx) (q : Str) (e : Expr) (c : Addr) (dT : Option Addr) : LF := ⟨q, ldAr e, ldBd e, ldSc e, cloFrom X.env.cells (ldSc e).names [], c, dT⟩
/-- the lambdas of a frame, in the order of the text; each with whether it has a default -/
def nfX (q : Str) (l : List (Expr × Bool)) (X : Cx) : Nat → LF → Prop := fun j F => ∃ z c dT, l[j]? = some z ∧ dT.isSome = z.2 ∧ F = ldF X q z.1 c dT
abbrev Tb.lams (T : Tb) (nf : Nat → LF → Prop) : Tb := ⟨T.tab, T.lam, nf, T.cap⟩
theorem nf_no {q : Str} {l : List (Expr × Bool)} {X : Cx} {j : Nat} {e : Expr} (h : l[j]? = some (e, false)) : ∀ c, nfX q l X j (ldF X q e c none) := fun c => ⟨_, c, none, h, rfl, rfl⟩
theorem nf_yes {q : Str} {l : List (Expr × Bool)} {X : Cx} {j : Nat} {e : Expr} (h : l[j]? = some (e, true)) : ∀ c t, nfX q l X j (ldF X q e c (some t)) := fun c t => ⟨_, c, some t, h, rfl, rfl⟩
/-- each lambda of the frame has its mirror -/
def LAll (X : Cx) (T : Tb) (k : Nat) (q : Str) : List (Expr × Bool) → List LM → Prop
  | [], [] => True
  | z :: l, L :: tb => (∀ c dT, dT.isSome = z.2 → ∃ N ps fr, LOk X T k 0 L (ldF X q z.1 c dT) N ps fr) ∧ LAll X T k q l tb
  | _, _ => False
theorem lall_at {X : Cx} {T : Tb} {k : Nat} {q : Str} : ∀ {l : List (Expr × Bool)} {tb : List LM} {j : Nat} {F : LF}, LAll X T k q l tb → nfX q l X j F → ∃ L N ps fr, tb[j]? = some L ∧ LOk X T k 0 L F N ps fr
  | [], _, _, _, _, ⟨_, _, _, e, _⟩ => nomatch e
  | _ :: _, [], _, _, h, _ => h.elim
  | z :: l, L :: tb, 0, F, h, ⟨z', c, dT, e1, e2, e3⟩ => by
    cases e1
    subst e3
    obtain ⟨N, ps, fr, ok⟩ := h.1 c dT e2
    exact ⟨L, N, ps, fr, rfl, ok⟩
  | z :: l, L :: tb, j + 1, F, h, ⟨z', c, dT, e1, e2, e3⟩ => lall_at (l := l) (tb := tb) (j := j) h.2 ⟨z', c, dT, e1, e2, e3⟩
theorem lall_no {X : Cx} {T : Tb} {k : Nat} {q : Str} {e : Expr} {l : List (Expr × Bool)} {L : LM} {tb : List LM} (N ps fr : List Str) (h : ∀ c, LOk X T k 0 L (ldF X q e c none) N ps fr) (t : LAll X T k q l tb) : LAll X T k q ((e, false) :: l) (L :: tb) :=
  ⟨fun c dT z => match dT, z with | none, _ => ⟨N, ps, fr, h c⟩, t⟩
theorem lall_yes {X : Cx} {T : Tb} {k : Nat} {q : Str} {e : Expr} {l : List (Expr × Bool)} {L : LM} {tb : List LM} (N ps fr : List Str) (h : ∀ c t, LOk X T k 0 L (ldF X q e c (some t)) N ps fr) (t : LAll X T k q l tb) : LAll X T k q ((e, true) :: l) (L :: tb) :=
  ⟨fun c dT z => match dT, z with | some u, _ => ⟨N, ps, fr, h c u⟩, t⟩
/-- a def that the harness calls and that has code of its own within -/
def GenFactsL (K : PySem.W.Frag) (mg : Str → Option Value) (h : Heap) (x : Str) (st : Stmt) (ps : List Str) (a : Str) : Prop :=
  ∃ f fd, Dn K mg x st ps f fd ∧ (∀ (s : Shared) (u : Value), BindsTo s fd ⟨[u], []⟩ [(a, u)]) ∧ ∃ c P, fd.code = .ref c ∧ PySem.W.codeHdIn K c P = true ∧ K.lookup P = none ∧ h.get? P = some { cls := .none, data := .fields #[] }
theorem gen_mkL {q : Program} {K : PySem.W.Frag} {h : Heap} {mg : Str → Option Value} {x a' : Str} {st : Stmt} {ps : List Str} {f c P : Addr} {oc kV doc pm ct e : Value} {od an dd : Option Addr} {osl sl : Array (Option Value)} {vs : Array Value} (X : K.In h) (G : h.Ns mainGlobals mg)
    (tabs : ∀ e ∈ recsOf q, ∀ g, mg e.name = some (.ref g) → LamX.OwnTab K g h) (hm : ((recsOf q).any fun e => e.name == x) = true) (a : PySem.W.nsIn K mainGlobals x = some (some (.ref f)))
    (l : K.lookup f = some ⟨oc, od, .func (PySem.W.fnOf x x (defArgs st) (defBody st) (defScope st) .none kV doc pm an (.ref c) ct), osl⟩) (cc : PySem.W.codeIn K (.ref c) x = true) (k : PySem.W.keepIn K (.ref f) = true)
    (lc : K.lookup c = some ⟨e, dd, .fields vs, sl⟩) (p : vs[11]? = some (.ref P)) (hh : PySem.W.codeHdIn K c P = true) (nP : K.lookup P = none)
    (z : ∀ (s : Shared) (u : Value), BindsTo s (PySem.W.fnOf x x (defArgs st) (defBody st) (defScope st) .none kV doc pm an (.ref c) ct) ⟨[u], []⟩ [(a', u)])
    (b : Fun K x x st f (PySem.W.fnOf x x (defArgs st) (defBody st) (defScope st) .none kV doc pm an (.ref c) ct) → Binds K (PySem.W.fnOf x x (defArgs st) (defBody st) (defScope st) .none kV doc pm an (.ref c) ct) ps []) :
    GenFactsL K mg h x st ps a' := by
  obtain ⟨r, hr, er⟩ := List.any_eq_true.mp hm
  have own := tabs r hr f (by rw [beq_iff_eq.mp er]; exact PySem.W.mg_of X G a)
  exact ⟨f, _, dn_mk X G a l cc k b, z, c, P, rfl, hh, nP, own c P _ _ _ _ _ _ l rfl rfl lc p⟩
end DL
end
section
/-! printed by gen.py: mirrors that several laws share -/
namespace ML
open PySem PySem.Spec PyProof.Rows L2 DL
def b__law_alike (Frec : List DV → MM DV) : SF := sSeq (sIf (tTru (eIsi2 .tuple .list (eVar 1))) (sSeq (sIf (DL.tOr (DL.tNot (tTru (eIsi2 .tuple .list (eVar 0)))) (tVal (eOp oNe (eIsi .list (eVar 0)) (eIsi .list (eVar 1))))) (sSeq (sRet (eC (.bool false))) (sNx)) (sNx)) (sSeq (sIf (tVal (eOp oNe (eCall (fB fLen) (aCons (eVar 0) aNil)) (eCall (fB fLen) (aCons (eVar 1) aNil)))) (sSeq (sRet (eC (.bool false))) (sNx)) (sNx)) (sSeq (sRet (eOp oEq (eLc (iRg1 (eCall (fB fLen) (aCons (eVar 1) aNil))) (gV 2) (DL.tNot (tTru (eCall Frec (aCons (eOp oIx (eVar 0) (eVar 2)) (aCons (eOp oIx (eVar 1) (eVar 2)) (aNil)))))) (eVar 2) [2]) (eLst (aNil)))) (sNx)))) (sNx)) (sSeq (sIf (DL.tOr (tVal (eOp oIsN (eVar 1) (eC .none))) (tTru (eIsi .str (eVar 1)))) (sSeq (sRet (eAnd (eOp oEq (eVar 0) (eVar 1)) (eOp oEq (eIsi .str (eVar 0)) (eIsi .str (eVar 1))))) (sNx)) (sNx)) (sSeq (sRet (eAnd (eIsi .int (eVar 0)) (eAnd (eOp oEq (eIsi .bool (eVar 0)) (eIsi .bool (eVar 1))) (eOp oEq (eVar 0) (eVar 1))))) (sNx)))
def F__law_alike_n : Nat → List DV → MM DV
  | 0 => runB 3 sNone
  | n + 1 => runB 3 (b__law_alike (F__law_alike_n n))
def F__law_alike : List DV → MM DV := F__law_alike_n 8
def b__law_pairs : SF := sSeq (sSet 1 (eLst (aNil))) (sSeq (sFor (iRg1 (eVar 0)) (gV 2) (sSeq (sSet 1 (eOp oAdd (eVar 1) (eLc (iRg2 (eOp oAdd (eVar 2) (eC (.int 1))) (eVar 0)) (gV 3) (tYesF) (eTup (aCons (eVar 2) (aCons (eVar 3) (aNil)))) [3]))) (sNx))) (sSeq (sRet (eVar 1)) (sNx)))
def F__law_pairs : List DV → MM DV := runB 4 b__law_pairs
def b__law_board : SF := sSeq (sSet 1 (eLstM (aNil))) (sSeq (sFor (iSeq (eCall F__law_pairs (aCons (eOp oMul (eVar 0) (eVar 0)) (aNil)))) (gT (gConsF 2 (gConsF 3 (gNilF)))) (sSeq (sIf (DL.tOr (tVal (eOp oEq (eOp oFdiv (eVar 2) (eVar 0)) (eOp oFdiv (eVar 3) (eVar 0)))) (tVal (eOp oEq (eOp oMod (eVar 2) (eVar 0)) (eOp oMod (eVar 3) (eVar 0))))) (sSeq (sExpr (eApp (eVar 1) (eTup (aCons (eVar 2) (aCons (eVar 3) (aNil)))))) (sNx)) (sNx)) (sNx))) (sSeq (sRet (eCall (fB fTup) (aCons (eVar 1) aNil))) (sNx)))
def F__law_board : List DV → MM DV := runB 4 b__law_board
def b__law_led : SF := sSeq (sRet (eCall (fB fTup) (aCons (eCall (fB fSortA) (aCons (eLc (iSeq (eVar 1)) (gT (gConsF 2 (gConsF 3 (gNilF)))) (tYesF) (eCall (fB fTup) (aCons (eCall (fB fSortA) (aCons (eLst (aCons (eOp oIx (eVar 0) (eVar 2)) (aCons (eOp oIx (eVar 0) (eVar 3)) (aNil)))) aNil)) aNil)) [2, 3]) aNil)) aNil))) (sNx)
def F__law_led : List DV → MM DV := runB 4 b__law_led
def b__law_taken : SF := sSeq (sIf (tVal (eOp oGt (eOp oIx (eVar 0) (eC (.int 3))) (eC (.int 0)))) (sSeq (sSet 2 (eOp oMod (eCall (fB fInt) (aCons (eOp oIx (eVar 0) (eC (.int 3))) aNil)) (eVar 1))) (sSeq (sPut (eOp oFdiv (eOp oIx (eVar 0) (eC (.int 3))) (eVar 1)) (eVar 0) (eC (.int 3))) (sSeq (sRet (eVar 2)) (sNx)))) (sNx)) (sSeq (sPut (eOp oAdd (eOp oIx (eVar 0) (eC (.int 1))) (eC (.int 1))) (eVar 0) (eC (.int 1))) (sSeq (sIf (tVal (eOp oGt (eOp oIx (eVar 0) (eC (.int 1))) (eCall (fB fLen) (aCons (eOp oIx (eVar 0) (eC (.int 0))) aNil)))) (sSeq (sPut (eOp oMod (eCall (fB fInt) (aCons (eOp oAdd (eOp oMul (eOp oIx (eVar 0) (eC (.int 2))) (eC (.int 48271))) (eC (.int 11))) aNil)) (eC (.int 2147483647))) (eVar 0) (eC (.int 2))) (sSeq (sRet (eOp oMod (eCall (fB fInt) (aCons (eOp oFdiv (eOp oIx (eVar 0) (eC (.int 2))) (eC (.int 7))) aNil)) (eVar 1))) (sNx))) (sNx)) (sSeq (sSet 3 (eOp oIx (eOp oIx (eVar 0) (eC (.int 0))) (eOp oSub (eOp oIx (eVar 0) (eC (.int 1))) (eC (.int 1))))) (sSeq (sPut (eOp oMod (eCall (fB fInt) (aCons (eOp oAdd (eOp oAdd (eOp oMul (eOp oIx (eVar 0) (eC (.int 2))) (eC (.int 48271))) (eVar 3)) (eC (.int 11))) aNil)) (eC (.int 2147483647))) (eVar 0) (eC (.int 2))) (sSeq (sIf (tVal (eOp oGe (eVar 3) (eOp oPow (eC (.int 10)) (eC (.int 18))))) (sSeq (sPut (eOp oFdiv (eVar 3) (eVar 1)) (eVar 0) (eC (.int 3))) (sNx)) (sNx)) (sSeq (sRet (eOp oMod (eCall (fB fInt) (aCons (eVar 3) aNil)) (eVar 1))) (sNx)))))))
def F__law_taken : List DV → MM DV := runB 4 b__law_taken
def b__law_turn : SF := sSeq (sPar 2 3 (aCons (eTup (aNil)) (aCons (eLrg (eVar 1)) (aNil)))) (sSeq (whileL (tVal (eOp oNe (eVar 3) (eLst (aNil)))) (sSeq (sSet 2 (eOp oAdd (eVar 2) (eTup (aCons (ePop (eVar 3) (eCall F__law_taken (aCons (eVar 0) (aCons (eCall (fB fLen) (aCons (eVar 3) aNil)) (aNil))))) (aNil))))) (sNx)) fuel) (sSeq (sRet (eVar 2)) (sNx)))
def F__law_turn : List DV → MM DV := runB 4 b__law_turn
def b__law_called : SF := sSeq (sRet (eTup (aCons (eOp oIx (eVar 1) (eC (.int 0))) (aCons (eCall F__law_led (aCons (eCall F__law_turn (aCons (eVar 0) (aCons (eOp oIx (eVar 1) (eC (.int 0))) (aNil)))) (aCons (eOp oIx (eVar 1) (eC (.int 1))) (aNil)))) (aNil))))) (sNx)
def F__law_called : List DV → MM DV := runB 2 b__law_called
def b__law_friends : SF := sSeq (sRet (eLc (iRg1 (eOp oIx (eVar 0) (eC (.int 0)))) (gV 2) (tVal (eOp oIn (eTup (aCons (eCall (fB fMin) (aCons (eVar 1) (aCons (eVar 2) aNil))) (aCons (eCall (fB fMax) (aCons (eVar 1) (aCons (eVar 2) aNil))) (aNil)))) (eOp oIx (eVar 0) (eC (.int 1))))) (eVar 2) [2])) (sNx)
def F__law_friends : List DV → MM DV := runB 3 b__law_friends
def b__law_counts : SF := sSeq (sSet 1 (eLc (iRg1 (eOp oIx (eVar 0) (eC (.int 0)))) (gV 2) (tYesF) (eCall F__law_friends (aCons (eVar 0) (aCons (eVar 2) (aNil)))) [2])) (sSeq (sPar 3 4 (aCons (eLstM (aNil)) (aCons (eLstM (aNil)) (aNil)))) (sSeq (sFor (iSeq (eCall F__law_pairs (aCons (eOp oIx (eVar 0) (eC (.int 0))) (aNil)))) (gT (gConsF 5 (gConsF 6 (gNilF)))) (sSeq (sSet 7 (eCall (fB fLen) (aCons (eLc (iSeq (eOp oIx (eVar 1) (eVar 5))) (gV 2) (tVal (eOp oIn (eVar 2) (eOp oIx (eVar 1) (eVar 6)))) (eVar 2) [2]) aNil))) (sSeq (sIf (tVal (eOp oIn (eVar 6) (eOp oIx (eVar 1) (eVar 5)))) (sSeq (sExpr (eApp (eVar 3) (eVar 7))) (sNx)) (sSeq (sExpr (eApp (eVar 4) (eVar 7))) (sNx))) (sNx)))) (sSeq (sRet (eTup (aCons (eCall (fB fTup) (aCons (eSortSet (eVar 3)) aNil)) (aCons (eCall (fB fTup) (aCons (eSortSet (eVar 4)) aNil)) (aNil))))) (sNx))))
def F__law_counts : List DV → MM DV := runB 8 b__law_counts
def b__law_left : SF := sSeq (sRet (eCall (fB fTup) (aCons (eLc (iSeq (eVar 0)) (gV 2) (tVal (eOp oNotIn (eVar 2) (eVar 1))) (eVar 2) [2]) aNil))) (sNx)
def F__law_left : List DV → MM DV := runB 3 b__law_left
def b__law_net : SF := sSeq (sSet 2 (eOp oAdd (eC (.int 1)) (eCall F__law_taken (aCons (eVar 0) (aCons (eVar 1) (aNil)))))) (sSeq (sRet (eTup (aCons (eVar 2) (aCons (eCall (fB fTup) (aCons (eLc (iSeq (eCall F__law_pairs (aCons (eVar 2) (aNil)))) (gV 3) (tVal (eOp oEq (eCall F__law_taken (aCons (eVar 0) (aCons (eC (.int 2)) (aNil)))) (eC (.int 0)))) (eVar 3) [3]) aNil)) (aNil))))) (sNx))
def F__law_net : List DV → MM DV := runB 4 b__law_net
def b__law_petersen : SF := sSeq (sSet 0 (eCall F__law_pairs (aCons (eC (.int 5)) (aNil)))) (sSeq (sRet (eCall (fB fTup) (aCons (eLc (iSeq (eCall F__law_pairs (aCons (eC (.int 10)) (aNil)))) (gV 1) (tVal (eOp oEq (eLc (iSeq (eOp oIx (eVar 0) (eOp oIx (eVar 1) (eC (.int 0))))) (gV 2) (tVal (eOp oIn (eVar 2) (eOp oIx (eVar 0) (eOp oIx (eVar 1) (eC (.int 1)))))) (eVar 2) [2]) (eLst (aNil)))) (eVar 1) [1]) aNil))) (sNx))
def F__law_petersen : List DV → MM DV := runB 3 b__law_petersen
def b__law_pick : SF := sSeq (sRet (eOp oIx (eVar 1) (eCall F__law_taken (aCons (eVar 0) (aCons (eCall (fB fLen) (aCons (eVar 1) aNil)) (aNil)))))) (sNx)
def F__law_pick : List DV → MM DV := runB 2 b__law_pick
def b__law_windmill : SF := sSeq (sSet 2 (eCall F__law_turn (aCons (eVar 0) (aCons (eVar 1) (aNil))))) (sSeq (sSet 3 (eLc (iRg2 (eC (.int 1)) (eVar 1)) (gV 4) (tYesF) (eTup (aCons (eOp oIx (eVar 2) (eC (.int 0))) (aCons (eOp oIx (eVar 2) (eVar 4)) (aNil)))) [4])) (sSeq (sSet 3 (eOp oAdd (eVar 3) (eLc (iRg3 (eC (.int 1)) (eOp oSub (eVar 1) (eC (.int 1))) (eC (.int 2))) (gV 4) (tYesF) (eTup (aCons (eOp oIx (eVar 2) (eVar 4)) (aCons (eOp oIx (eVar 2) (eOp oAdd (eVar 4) (eC (.int 1)))) (aNil)))) [4]))) (sSeq (sRet (eTup (aCons (eVar 1) (aCons (eCall (fB fTup) (aCons (eCall (fB fSortA) (aCons (eLc (iSeq (eVar 3)) (gV 5) (tYesF) (eCall (fB fTup) (aCons (eCall (fB fSortA) (aCons (eVar 5) aNil)) aNil)) [5]) aNil)) aNil)) (aNil))))) (sNx))))
def F__law_windmill : List DV → MM DV := runB 6 b__law_windmill
def b_friend_lists : SF := sFL
def F_friend_lists : List DV → MM DV := runB 5 b_friend_lists
def b_is_number : SF := sSeq (sRet (eAnd (eIsi .int (eVar 0)) (eAnd (eNot (eIsi .bool (eVar 0))) (eChain oLe oLe (eVar 1) (eVar 0) (eVar 2))))) (sNx)
def F_is_number : List DV → MM DV := runB 3 b_is_number
def b_need_hall : SF := sSeq (sIf (DL.tNot (tTru (eCall F_is_number (aCons (eVar 1) (aCons (eC (.int 0)) (aCons (eOp oSub (eOp oIx (eVar 0) (eC (.int 0))) (eC (.int 1))) (aNil))))))) (sSeq (sNone) (sNx)) (sNx)) (sNx)
def F_need_hall : List DV → MM DV := runB 2 b_need_hall
def b_is_pair : SF := sSeq (sIf (DL.tOr (DL.tNot (tTru (eIsi .tuple (eVar 1)))) (DL.tOr (tVal (eOp oNe (eCall (fB fLen) (aCons (eVar 1) aNil)) (eC (.int 2)))) (DL.tNot (tTru (eAll (iSeq (eVar 1)) (gV 2) (eCall F_is_number (aCons (eVar 2) (aCons (eC (.int 0)) (aCons (eOp oSub (eVar 0) (eC (.int 1))) (aNil))))) [2]))))) (sSeq (sRet (eC (.bool false))) (sNx)) (sNx)) (sSeq (sRet (eOp oNe (eOp oIx (eVar 1) (eC (.int 0))) (eOp oIx (eVar 1) (eC (.int 1))))) (sNx))
def F_is_pair : List DV → MM DV := runB 3 b_is_pair
def b_wrong_net : SF := sSeq (sIf (DL.tOr (DL.tNot (tTru (eIsi .tuple (eVar 0)))) (tVal (eOp oNe (eCall (fB fLen) (aCons (eVar 0) aNil)) (eC (.int 2))))) (sSeq (sRet (eC (.str "whole"))) (sNx)) (sNx)) (sSeq (sAsg (eVar 0) (gT (gConsF 1 (gConsF 2 (gNilF))))) (sSeq (sIf (DL.tNot (tTru (eCall F_is_number (aCons (eVar 1) (aCons (eC (.int 1)) (aCons (eC (.int 60)) (aNil))))))) (sSeq (sRet (eC (.str "halls"))) (sNx)) (sNx)) (sSeq (sIf (DL.tOr (DL.tNot (tTru (eIsi .tuple (eVar 2)))) (DL.tNot (tTru (eAll (iSeq (eVar 2)) (gV 3) (eAnd (eCall F_is_pair (aCons (eVar 1) (aCons (eVar 3) (aNil)))) (eOp oLt (eOp oIx (eVar 3) (eC (.int 0))) (eOp oIx (eVar 3) (eC (.int 1))))) [3])))) (sSeq (sRet (eC (.str "pairs"))) (sNx)) (sNx)) (sSeq (sRet (eIf (tTru (eAll (iZipD (eVar 2) (eOp oFrom (eVar 2) (eC (.int 1)))) (gT (gConsF 4 (gConsF 5 (gNilF)))) (eOp oLt (eVar 4) (eVar 5)) [4, 5])) (eC .none) (eC (.str "pairs")))) (sNx)))))
def F_wrong_net : List DV → MM DV := runB 6 b_wrong_net
def b_need_net : SF := sSeq (sSet 1 (eCall F_wrong_net (aCons (eVar 0) (aNil)))) (sSeq (sIf (tVal (eOp oNotN (eVar 1) (eC .none))) (sSeq (sNone) (sNx)) (sNx)) (sNx))
def F_need_net : List DV → MM DV := runB 2 b_need_net
def b_common : SF := sSeq (sExpr (eCall F_need_net (aCons (eVar 0) (aNil)))) (sSeq (sExpr (eCall F_need_hall (aCons (eVar 0) (aCons (eVar 1) (aNil))))) (sSeq (sExpr (eCall F_need_hall (aCons (eVar 0) (aCons (eVar 2) (aNil))))) (sSeq (sSet 3 (eCall F_friend_lists (aCons (eVar 0) (aNil)))) (sSeq (sRet (eCall (fB fTup) (aCons (eCall (fB fSortA) (aCons (eLcK 3 1 (gV 4) (tVal (eOp oIn (eVar 4) (eOp oIx (eVar 3) (eVar 2)))) (eVar 4) [4]) aNil)) aNil))) (sNx)))))
def F_common : List DV → MM DV := runB 5 b_common
def b_counts_of : SF := sSeq (sPar3 1 2 3 (aCons (eCall F_friend_lists (aCons (eVar 0) (aNil))) (aCons (eDctM) (aCons (eDctM) (aNil))))) (sSeq (sFor (iRg1 (eOp oIx (eVar 0) (eC (.int 0)))) (gV 4) (sSeq (sFor (iRg1 (eVar 4)) (gV 5) (sSeq (sSet 6 (eCall (fB fLen) (aCons (eLcK 1 4 (gV 7) (tVal (eOp oIn (eVar 7) (eOp oIx (eVar 1) (eVar 5)))) (eVar 7) [7]) aNil))) (sSeq (sIf (tVal (eOp oIn (eVar 5) (eOp oIx (eVar 1) (eVar 4)))) (sSeq (sPut (eC (.bool true)) (eVar 2) (eVar 6)) (sNx)) (sSeq (sPut (eC (.bool true)) (eVar 3) (eVar 6)) (sNx))) (sNx)))) (sNx))) (sSeq (sRet (eTup (aCons (eCall (fB fSortA) (aCons (eVar 2) aNil)) (aCons (eCall (fB fSortA) (aCons (eVar 3) aNil)) (aNil))))) (sNx)))
def F_counts_of : List DV → MM DV := runB 8 b_counts_of
def b_counts : SF := sSeq (sExpr (eCall F_need_net (aCons (eVar 0) (aNil)))) (sSeq (sAsg (eCall F_counts_of (aCons (eVar 0) (aNil))) (gT (gConsF 1 (gConsF 2 (gNilF))))) (sSeq (sRet (eTup (aCons (eCall (fB fTup) (aCons (eVar 1) aNil)) (aCons (eCall (fB fTup) (aCons (eVar 2) aNil)) (aNil))))) (sNx)))
def F_counts : List DV → MM DV := runB 3 b_counts
def b_friends : SF := sSeq (sExpr (eCall F_need_net (aCons (eVar 0) (aNil)))) (sSeq (sExpr (eCall F_need_hall (aCons (eVar 0) (aCons (eVar 1) (aNil))))) (sSeq (sRet (eCall (fB fTup) (aCons (eCall (fB fSortA) (aCons (eOp oIx (eCall F_friend_lists (aCons (eVar 0) (aNil))) (eVar 1)) aNil)) aNil))) (sNx)))
def F_friends : List DV → MM DV := runB 2 b_friends
def b_is_net : SF := sSeq (sRet (eOp oIsN (eCall F_wrong_net (aCons (eVar 0) (aNil))) (eC .none))) (sNx)
def F_is_net : List DV → MM DV := runB 1 b_is_net
def b_all_pairs : SF := sSeq (sRet (eLc2 (iRg1 (eVar 0)) (gV 1) (tYesF) (iRg2 (eOp oAdd (eVar 1) (eC (.int 1))) (eVar 0)) (gV 2) (tYesF) (eTup (aCons (eVar 1) (aCons (eVar 2) (aNil)))) [1, 2] [2])) (sNx)
def F_all_pairs : List DV → MM DV := runB 3 b_all_pairs
def b_rest : SF := sSeq (sExpr (eCall F_need_net (aCons (eVar 0) (aNil)))) (sSeq (sSet 1 (eCall F_friend_lists (aCons (eVar 0) (aNil)))) (sSeq (sRet (eTup (aCons (eOp oIx (eVar 0) (eC (.int 0))) (aCons (eCall (fB fTup) (aCons (eLc (iSeq (eCall F_all_pairs (aCons (eOp oIx (eVar 0) (eC (.int 0))) (aNil)))) (gV 2) (tVal (eOp oNotIn (eOp oIx (eVar 2) (eC (.int 1))) (eOp oIx (eVar 1) (eOp oIx (eVar 2) (eC (.int 0)))))) (eVar 2) [2]) aNil)) (aNil))))) (sNx)))
def F_rest : List DV → MM DV := runB 3 b_rest
end ML
end
section
/-! printed by gen.py: mirrors that several laws share -/
namespace ML
open PySem PySem.Spec PyProof.Rows L2 DL
def b_common_number_of : SF := sSeq (sAsg (eCall F_counts_of (aCons (eVar 0) (aNil))) (gT (gConsF 1 (gConsF 2 (gNilF))))) (sSeq (sSet 3 (eSortSetA (eOp oAdd (eVar 1) (eVar 2)))) (sSeq (sRet (eIf (tVal (eOp oEq (eCall (fB fLen) (aCons (eVar 3) aNil)) (eC (.int 1)))) (eOp oIx (eVar 3) (eC (.int 0))) (eC .none))) (sNx)))
def F_common_number_of : List DV → MM DV := runB 4 b_common_number_of
def b_common_number : SF := sSeq (sExpr (eCall F_need_net (aCons (eVar 0) (aNil)))) (sSeq (sRet (eCall F_common_number_of (aCons (eVar 0) (aNil)))) (sNx))
def F_common_number : List DV → MM DV := runB 1 b_common_number
def b_degrees_of : SF := sSeq (sRet (eLc (iSeq (eCall F_friend_lists (aCons (eVar 0) (aNil)))) (gV 1) (tYesF) (eCall (fB fLen) (aCons (eVar 1) aNil)) [1])) (sNx)
def F_degrees_of : List DV → MM DV := runB 2 b_degrees_of
def b_same_degree : SF := sSeq (sExpr (eCall F_need_net (aCons (eVar 0) (aNil)))) (sSeq (sSet 1 (eSortSet (eCall F_degrees_of (aCons (eVar 0) (aNil))))) (sSeq (sRet (eIf (tVal (eOp oEq (eCall (fB fLen) (aCons (eVar 1) aNil)) (eC (.int 1)))) (eOp oIx (eVar 1) (eC (.int 0))) (eC .none))) (sNx)))
def F_same_degree : List DV → MM DV := runB 2 b_same_degree
def b_need_common : SF := sSeq (sIf (DL.tNot (tTru (eCall F_is_number (aCons (eVar 0) (aCons (eC (.int 2)) (aCons (eC (.int 1000)) (aNil))))))) (sSeq (sRaise "BadNumber") (sNx)) (sNx)) (sNx)
def F_need_common : List DV → MM DV := runB 1 b_need_common
def b_sizes : SF := sSeq (sExpr (eCall F_need_common (aCons (eVar 0) (aNil)))) (sSeq (sSet 1 (eLstM (aNil))) (sSeq (sFor (iRg2 (eC (.int 1)) (eOp oAdd (eVar 0) (eC (.int 1)))) (gV 2) (sSeq (sSet 3 (eOp oAdd (eVar 0) (eOp oMul (eVar 2) (eVar 2)))) (sSeq (sIf (DL.tAnd (tVal (eOp oEq (eOp oMod (eVar 3) (eVar 2)) (eC (.int 0)))) (tVal (eOp oEq (eOp oMod (eOp oMul (eVar 3) (eOp oSub (eVar 3) (eC (.int 1)))) (eVar 0)) (eC (.int 0))))) (sSeq (sSet 4 (eOp oFdiv (eOp oMul (eVar 3) (eOp oSub (eVar 3) (eC (.int 1)))) (eVar 0))) (sSeq (sIf (DL.tAnd (tVal (eOp oGe (eVar 4) (eOp oFdiv (eVar 3) (eVar 2)))) (tVal (eOp oEq (eOp oMod (eOp oSub (eVar 4) (eOp oFdiv (eVar 3) (eVar 2))) (eC (.int 2))) (eC (.int 0))))) (sSeq (sExpr (eApp (eVar 1) (eTup (aCons (eOp oAdd (eVar 4) (eC (.int 1))) (aCons (eVar 3) (aNil)))))) (sNx)) (sNx)) (sNx))) (sNx)) (sNx)))) (sSeq (sRet (eCall (fB fTup) (aCons (eCall (fB fSortA) (aCons (eVar 1) aNil)) aNil))) (sNx))))
def F_sizes : List DV → MM DV := runB 5 b_sizes
end ML
end
section
/-! printed by gen.py: mirrors that several laws share -/
namespace ML
open PySem PySem.Spec PyProof.Rows L2 DL
def b__law_is_windmill : SF := sSeq (sPar 1 2 (aCons (eOp oIx (eVar 0) (eC (.int 0))) (aCons (eLc (iRg1 (eOp oIx (eVar 0) (eC (.int 0)))) (gV 3) (tYesF) (eCall F__law_friends (aCons (eVar 0) (aCons (eVar 3) (aNil)))) [3]) (aNil)))) (sSeq (sIf (tVal (eOp oEq (eVar 1) (eC (.int 1)))) (sSeq (sRet (eC (.bool true))) (sNx)) (sNx)) (sSeq (sSet 4 (eLc (iRg1 (eVar 1)) (gV 3) (tVal (eOp oEq (eCall (fB fLen) (aCons (eOp oIx (eVar 2) (eVar 3)) aNil)) (eOp oSub (eVar 1) (eC (.int 1))))) (eVar 3) [3])) (sSeq (sRet (eAnd (eOp oNe (eVar 4) (eLst (aNil))) (eOp oEq (eLc (iRg1 (eVar 1)) (gV 3) (DL.tAnd (tVal (eOp oNe (eVar 3) (eOp oIx (eVar 4) (eC (.int 0))))) (tVal (eOp oNe (eCall (fB fLen) (aCons (eOp oIx (eVar 2) (eVar 3)) aNil)) (eC (.int 2))))) (eVar 3) [3]) (eLst (aNil))))) (sNx))))
def F__law_is_windmill : List DV → MM DV := runB 5 b__law_is_windmill
def b__law_lots : SF := sSeq (sSet 1 (eLst (aCons (eTup (aNil)) (aNil)))) (sSeq (sFor (iSeq (eVar 0)) (gV 2) (sSeq (sSet 1 (eOp oAdd (eVar 1) (eLc (iSeq (eVar 1)) (gV 3) (tYesF) (eOp oAdd (eVar 3) (eTup (aCons (eVar 2) (aNil)))) [3]))) (sNx))) (sSeq (sRet (eVar 1)) (sNx)))
def F__law_lots : List DV → MM DV := runB 4 b__law_lots
def b_is_one_friend_of : SF := sSeq (sAsg (eCall F_counts_of (aCons (eVar 0) (aNil))) (gT (gConsF 1 (gConsF 2 (gNilF))))) (sSeq (sRet (eAll (iSeq (eOp oAdd (eVar 1) (eVar 2))) (gV 3) (eOp oEq (eVar 3) (eC (.int 1))) [3])) (sNx))
def F_is_one_friend_of : List DV → MM DV := runB 4 b_is_one_friend_of
def b_blades : SF := sSeq (sExpr (eCall F_need_net (aCons (eVar 0) (aNil)))) (sSeq (sIf (DL.tNot (tTru (eCall F_is_one_friend_of (aCons (eVar 0) (aNil))))) (sSeq (sRaise "NotOne") (sNx)) (sNx)) (sSeq (sSet 1 (eCall F_friend_lists (aCons (eVar 0) (aNil)))) (sSeq (sSet 2 (eOp oIx (eLc (iRg1 (eOp oIx (eVar 0) (eC (.int 0)))) (gV 3) (tVal (eOp oEq (eCall (fB fLen) (aCons (eOp oIx (eVar 1) (eVar 3)) aNil)) (eOp oSub (eOp oIx (eVar 0) (eC (.int 0))) (eC (.int 1))))) (eVar 3) [3]) (eC (.int 0)))) (sSeq (sRet (eCall (fB fTup) (aCons (eLc (iSeq (eOp oIx (eVar 0) (eC (.int 1)))) (gV 4) (tVal (eOp oNotIn (eVar 2) (eVar 4))) (eVar 4) [4]) aNil))) (sNx)))))
def F_blades : List DV → MM DV := runB 5 b_blades
def b_need_halls : SF := sSeq (sIf (DL.tNot (tTru (eCall F_is_number (aCons (eVar 0) (aCons (eC (.int 1)) (aCons (eC (.int 60)) (aNil))))))) (sSeq (sRaise "BadNumber") (sNx)) (sNx)) (sNx)
def F_need_halls : List DV → MM DV := runB 1 b_need_halls
def b_count_windmills : SF := sSeq (sExpr (eCall F_need_halls (aCons (eVar 0) (aNil)))) (sSeq (sIf (tVal (eOp oEq (eOp oMod (eVar 0) (eC (.int 2))) (eC (.int 0)))) (sSeq (sRet (eC (.int 0))) (sNx)) (sNx)) (sSeq (sSet 1 (eIf (tVal (eOp oGt (eVar 0) (eC (.int 3)))) (eVar 0) (eC (.int 1)))) (sSeq (sFor (iRg3 (eC (.int 1)) (eOp oSub (eVar 0) (eC (.int 1))) (eC (.int 2))) (gV 2) (sSeq (sAug 1 (fun a b => a * b) cMul (eVar 2)) (sNx))) (sSeq (sRet (eVar 1)) (sNx)))))
def F_count_windmills : List DV → MM DV := runB 3 b_count_windmills
def b_hubs : SF := sSeq (sExpr (eCall F_need_net (aCons (eVar 0) (aNil)))) (sSeq (sRet (eCall (fB fTup) (aCons (eLc (iEnumD (eCall F_degrees_of (aCons (eVar 0) (aNil)))) (gT (gConsF 1 (gConsF 2 (gNilF)))) (tVal (eOp oEq (eVar 2) (eOp oSub (eOp oIx (eVar 0) (eC (.int 0))) (eC (.int 1))))) (eVar 1) [1, 2]) aNil))) (sNx))
def F_hubs : List DV → MM DV := runB 3 b_hubs
def b_is_one_friend : SF := sSeq (sExpr (eCall F_need_net (aCons (eVar 0) (aNil)))) (sSeq (sRet (eCall F_is_one_friend_of (aCons (eVar 0) (aNil)))) (sNx))
def F_is_one_friend : List DV → MM DV := runB 1 b_is_one_friend
def b_shows_windmill : SF := sSeq (sExpr (eCall F_need_halls (aCons (eVar 0) (aNil)))) (sSeq (sIf (tVal (eOp oIsN (eVar 1) (eC .none))) (sSeq (sRet (eOp oEq (eOp oMod (eVar 0) (eC (.int 2))) (eC (.int 0)))) (sNx)) (sNx)) (sSeq (sRet (eAnd (eCall F_is_net (aCons (eVar 1) (aNil))) (eAnd (eOp oEq (eOp oIx (eVar 1) (eC (.int 0))) (eVar 0)) (eCall F_is_one_friend_of (aCons (eVar 1) (aNil)))))) (sNx)))
def F_shows_windmill : List DV → MM DV := runB 2 b_shows_windmill
def b_windmill : SF := sSeq (sExpr (eCall F_need_halls (aCons (eVar 0) (aNil)))) (sSeq (sIf (tVal (eOp oEq (eOp oMod (eVar 0) (eC (.int 2))) (eC (.int 0)))) (sSeq (sRet (eC .none)) (sNx)) (sNx)) (sSeq (sSet 1 (eOp oAdd (eLc (iRg2 (eC (.int 1)) (eVar 0)) (gV 2) (tYesF) (eTup (aCons (eC (.int 0)) (aCons (eVar 2) (aNil)))) [2]) (eLc (iRg3 (eC (.int 1)) (eVar 0) (eC (.int 2))) (gV 2) (tYesF) (eTup (aCons (eVar 2) (aCons (eOp oAdd (eVar 2) (eC (.int 1))) (aNil)))) [2]))) (sSeq (sRet (eTup (aCons (eVar 0) (aCons (eCall (fB fTup) (aCons (eCall (fB fSortA) (aCons (eVar 1) aNil)) aNil)) (aNil))))) (sNx))))
def F_windmill : List DV → MM DV := runB 3 b_windmill
end ML
end
section
/-! printed by gen.py: mirrors that several laws share -/
namespace ML
open PySem PySem.Spec PyProof.Rows L2 DL
def b__law_told : SF := sSeq (sAsg (eCall F__law_counts (aCons (eVar 0) (aNil))) (gT (gConsF 1 (gConsF 2 (gNilF))))) (sSeq (sSet 3 (eSortSet (eLc (iRg1 (eOp oIx (eVar 0) (eC (.int 0)))) (gV 4) (tYesF) (eCall (fB fLen) (aCons (eCall F__law_friends (aCons (eVar 0) (aCons (eVar 4) (aNil)))) aNil)) [4]))) (sSeq (sIf (DL.tOr (tVal (eOp oNe (eCall (fB fLen) (aCons (eVar 1) aNil)) (eC (.int 1)))) (DL.tOr (tVal (eOp oNe (eCall (fB fLen) (aCons (eVar 2) aNil)) (eC (.int 1)))) (tVal (eOp oNe (eCall (fB fLen) (aCons (eVar 3) aNil)) (eC (.int 1)))))) (sSeq (sRet (eC .none)) (sNx)) (sNx)) (sSeq (sRet (eTup (aCons (eOp oIx (eVar 0) (eC (.int 0))) (aCons (eOp oIx (eVar 3) (eC (.int 0))) (aCons (eOp oIx (eVar 1) (eC (.int 0))) (aCons (eOp oIx (eVar 2) (eC (.int 0))) (aNil))))))) (sNx))))
def F__law_told : List DV → MM DV := runB 5 b__law_told
def b_allowed_friends : SF := sSeq (sRet (eC (.tuple [.int 2, .int 3, .int 7, .int 57]))) (sNx)
def F_allowed_friends : List DV → MM DV := runB 0 b_allowed_friends
def b_is_sparse_of : SF := sSeq (sAsg (eCall F_counts_of (aCons (eVar 0) (aNil))) (gT (gConsF 1 (gConsF 2 (gNilF))))) (sSeq (sRet (eAnd (eAll (iSeq (eVar 1)) (gV 3) (eOp oEq (eVar 3) (eC (.int 0))) [3]) (eAll (iSeq (eVar 2)) (gV 3) (eOp oEq (eVar 3) (eC (.int 1))) [3]))) (sNx))
def F_is_sparse_of : List DV → MM DV := runB 4 b_is_sparse_of
def b_is_sparse : SF := sSeq (sExpr (eCall F_need_net (aCons (eVar 0) (aNil)))) (sSeq (sRet (eCall F_is_sparse_of (aCons (eVar 0) (aNil)))) (sNx))
def F_is_sparse : List DV → MM DV := runB 1 b_is_sparse
def b_is_star : SF := sSeq (sExpr (eCall F_need_net (aCons (eVar 0) (aNil)))) (sSeq (sRet (eChain oEq oEq (eCall (fB fMaxA) (aCons (eCall F_degrees_of (aCons (eVar 0) (aNil))) aNil)) (eCall (fB fLen) (aCons (eOp oIx (eVar 0) (eC (.int 1))) aNil)) (eOp oSub (eOp oIx (eVar 0) (eC (.int 0))) (eC (.int 1))))) (sNx))
def F_is_star : List DV → MM DV := runB 1 b_is_star
def b_shows_sparse : SF := sSeq (sIf (DL.tNot (tTru (eCall F_is_number (aCons (eVar 0) (aCons (eC (.int 0)) (aCons (eC (.int 100)) (aNil))))))) (sSeq (sRaise "BadNumber") (sNx)) (sNx)) (sSeq (sIf (tVal (eOp oIsN (eVar 1) (eC .none))) (sSeq (sRet (eOp oNotIn (eVar 0) (eC (.tuple [.int 2, .int 3, .int 7])))) (sNx)) (sNx)) (sSeq (sIf (DL.tOr (DL.tNot (tTru (eCall F_is_net (aCons (eVar 1) (aNil))))) (DL.tOr (tVal (eOp oNotIn (eVar 0) (eC (.tuple [.int 2, .int 3, .int 7])))) (DL.tNot (tTru (eCall F_is_sparse_of (aCons (eVar 1) (aNil))))))) (sSeq (sRet (eC (.bool false))) (sNx)) (sNx)) (sSeq (sRet (eAll (iSeq (eCall F_degrees_of (aCons (eVar 1) (aNil)))) (gV 2) (eOp oEq (eVar 2) (eVar 0)) [2])) (sNx))))
def F_shows_sparse : List DV → MM DV := runB 3 b_shows_sparse
def b_made_pairs (Frec : List DV → MM DV) : SF := sSeq (sIf (tVal (eOp oEq (eVar 0) (eC (.int 2)))) (sSeq (sRet (eLc (iRg1 (eC (.int 5))) (gV 1) (tYesF) (eTup (aCons (eVar 1) (aCons (eOp oMod (eOp oAdd (eVar 1) (eC (.int 1))) (eC (.int 5))) (aNil)))) [1])) (sNx)) (sNx)) (sSeq (sIf (tVal (eOp oEq (eVar 0) (eC (.int 3)))) (sSeq (sSet 2 (eLc (iRg1 (eC (.int 5))) (gV 1) (tYesF) (eTup (aCons (eOp oAdd (eC (.int 5)) (eVar 1)) (aCons (eOp oAdd (eC (.int 5)) (eOp oMod (eOp oAdd (eVar 1) (eC (.int 2))) (eC (.int 5)))) (aNil)))) [1])) (sSeq (sRet (eOp oAdd (eOp oAdd (eCall Frec (aCons (eC (.int 2)) (aNil))) (eVar 2)) (eLc (iRg1 (eC (.int 5))) (gV 1) (tYesF) (eTup (aCons (eVar 1) (aCons (eOp oAdd (eVar 1) (eC (.int 5))) (aNil)))) [1]))) (sNx))) (sNx)) (sSeq (sSet 3 (eLstM (aNil))) (sSeq (sFor (iRg1 (eC (.int 5))) (gV 4) (sSeq (sFor (iRg1 (eC (.int 5))) (gV 5) (sSeq (sExpr (eApp (eVar 3) (eTup (aCons (eOp oAdd (eOp oMul (eC (.int 5)) (eVar 4)) (eVar 5)) (aCons (eOp oAdd (eOp oMul (eC (.int 5)) (eVar 4)) (eOp oMod (eOp oAdd (eVar 5) (eC (.int 1))) (eC (.int 5)))) (aNil)))))) (sSeq (sExpr (eApp (eVar 3) (eTup (aCons (eOp oAdd (eOp oAdd (eC (.int 25)) (eOp oMul (eC (.int 5)) (eVar 4))) (eVar 5)) (aCons (eOp oAdd (eOp oAdd (eC (.int 25)) (eOp oMul (eC (.int 5)) (eVar 4))) (eOp oMod (eOp oAdd (eVar 5) (eC (.int 2))) (eC (.int 5)))) (aNil)))))) (sSeq (sExpr (eExt (eVar 3) (eLc (iRg1 (eC (.int 5))) (gV 6) (tYesF) (eTup (aCons (eOp oAdd (eOp oMul (eC (.int 5)) (eVar 4)) (eVar 5)) (aCons (eOp oAdd (eOp oAdd (eC (.int 25)) (eOp oMul (eC (.int 5)) (eVar 6))) (eOp oMod (eOp oAdd (eOp oMul (eVar 4) (eVar 6)) (eVar 5)) (eC (.int 5)))) (aNil)))) [6]))) (sNx))))) (sNx))) (sSeq (sRet (eVar 3)) (sNx)))))
def F_made_pairs_n : Nat → List DV → MM DV
  | 0 => runB 7 sNone
  | n + 1 => runB 7 (b_made_pairs (F_made_pairs_n n))
def F_made_pairs : List DV → MM DV := F_made_pairs_n 8
def b_sparse_net : SF := sSeq (sIf (DL.tNot (tTru (eCall F_is_number (aCons (eVar 0) (aCons (eC (.int 0)) (aCons (eC (.int 100)) (aNil))))))) (sSeq (sRaise "BadNumber") (sNx)) (sNx)) (sSeq (sIf (tVal (eOp oNotIn (eVar 0) (eC (.tuple [.int 2, .int 3, .int 7])))) (sSeq (sRet (eC .none)) (sNx)) (sNx)) (sSeq (sSet 1 (eCall (fB fSortA) (aCons (eLc (iSeq (eCall F_made_pairs (aCons (eVar 0) (aNil)))) (gV 2) (tYesF) (eTup (aCons (eCall (fB fMinA) (aCons (eVar 2) aNil)) (aCons (eCall (fB fMaxA) (aCons (eVar 2) aNil)) (aNil)))) [2]) aNil))) (sSeq (sRet (eTup (aCons (eOp oAdd (eOp oMul (eVar 0) (eVar 0)) (eC (.int 1))) (aCons (eCall (fB fTup) (aCons (eVar 1) aNil)) (aNil))))) (sNx))))
def F_sparse_net : List DV → MM DV := runB 3 b_sparse_net
end ML
end
section
/-! printed by gen.py: mirrors that several laws share -/
namespace ML
open PySem PySem.Spec PyProof.Rows L2 DL
def b_need_four : SF := sSeq (sIf (DL.tNot (tTru (eCall F_is_number (aCons (eVar 0) (aCons (eC (.int 3)) (aCons (eC (.int 1000)) (aNil))))))) (sSeq (sRaise "BadNumber") (sNx)) (sNx)) (sSeq (sIf (DL.tNot (tTru (eCall F_is_number (aCons (eVar 1) (aCons (eC (.int 1)) (aCons (eOp oSub (eVar 0) (eC (.int 2))) (aNil))))))) (sSeq (sRaise "BadNumber") (sNx)) (sNx)) (sSeq (sIf (DL.tOr (DL.tNot (tTru (eCall F_is_number (aCons (eVar 2) (aCons (eC (.int 0)) (aCons (eOp oSub (eVar 1) (eC (.int 1))) (aNil))))))) (DL.tNot (tTru (eCall F_is_number (aCons (eVar 3) (aCons (eC (.int 0)) (aCons (eVar 1) (aNil)))))))) (sSeq (sRaise "BadNumber") (sNx)) (sNx)) (sNx)))
def F_need_four : List DV → MM DV := runB 4 b_need_four
def b_root_of : SF := sSeq (sSet 1 (eC (.int 0))) (sSeq (whileL (tVal (eOp oLt (eOp oMul (eVar 1) (eVar 1)) (eVar 0))) (sSeq (sAug 1 (fun a b => a + b) cAll (eC (.int 1))) (sNx)) fuel) (sSeq (sRet (eIf (tVal (eOp oEq (eOp oMul (eVar 1) (eVar 1)) (eVar 0))) (eVar 1) (eC .none))) (sNx)))
def F_root_of : List DV → MM DV := runB 2 b_root_of
def b_shares_of : SF := sSeq (sIf (tVal (eOp oNe (eOp oMul (eVar 1) (eOp oSub (eOp oSub (eVar 1) (eVar 2)) (eC (.int 1)))) (eOp oMul (eOp oSub (eOp oSub (eVar 0) (eVar 1)) (eC (.int 1))) (eVar 3)))) (sSeq (sRet (eC .none)) (sNx)) (sNx)) (sSeq (sSet 4 (eOp oAdd (eOp oMul (eC (.int 2)) (eVar 1)) (eOp oMul (eOp oSub (eVar 0) (eC (.int 1))) (eOp oSub (eVar 2) (eVar 3))))) (sSeq (sIf (tVal (eOp oEq (eVar 4) (eC (.int 0)))) (sSeq (sRet (eIf (tVal (eOp oEq (eOp oMod (eVar 0) (eC (.int 2))) (eC (.int 1)))) (eTup (aCons (eOp oFdiv (eOp oSub (eVar 0) (eC (.int 1))) (eC (.int 2))) (aCons (eOp oFdiv (eOp oSub (eVar 0) (eC (.int 1))) (eC (.int 2))) (aNil)))) (eC .none))) (sNx)) (sNx)) (sSeq (sSet 5 (eCall F_root_of (aCons (eOp oAdd (eOp oMul (eOp oSub (eVar 2) (eVar 3)) (eOp oSub (eVar 2) (eVar 3))) (eOp oMul (eC (.int 4)) (eOp oSub (eVar 1) (eVar 3)))) (aNil)))) (sSeq (sIf (DL.tOr (tVal (eOp oIsN (eVar 5) (eC .none))) (DL.tOr (tVal (eOp oEq (eVar 5) (eC (.int 0)))) (DL.tOr (tTru (eOp oMod (eVar 4) (eVar 5))) (tTru (eOp oMod (eOp oSub (eOp oSub (eVar 0) (eC (.int 1))) (eOp oFdiv (eVar 4) (eVar 5))) (eC (.int 2))))))) (sSeq (sRet (eC .none)) (sNx)) (sNx)) (sSeq (sSet 6 (eOp oFdiv (eOp oSub (eOp oSub (eVar 0) (eC (.int 1))) (eOp oFdiv (eVar 4) (eVar 5))) (eC (.int 2)))) (sSeq (sRet (eIf (tVal (eChain oLe oLe (eC (.int 0)) (eVar 6) (eOp oSub (eVar 0) (eC (.int 1))))) (eTup (aCons (eVar 6) (aCons (eOp oSub (eOp oSub (eVar 0) (eC (.int 1))) (eVar 6)) (aNil)))) (eC .none))) (sNx)))))))
def F_shares_of : List DV → MM DV := runB 7 b_shares_of
def b_may_be_told : SF := sSeq (sExpr (eCall F_need_four (aCons (eVar 0) (aCons (eVar 1) (aCons (eVar 2) (aCons (eVar 3) (aNil))))))) (sSeq (sRet (eOp oNotN (eCall F_shares_of (aCons (eVar 0) (aCons (eVar 1) (aCons (eVar 2) (aCons (eVar 3) (aNil)))))) (eC .none))) (sNx))
def F_may_be_told : List DV → MM DV := runB 4 b_may_be_told
def b_rest_told : SF := sSeq (sExpr (eCall F_need_four (aCons (eVar 0) (aCons (eVar 1) (aCons (eVar 2) (aCons (eVar 3) (aNil))))))) (sSeq (sRet (eTup (aCons (eVar 0) (aCons (eOp oSub (eOp oSub (eVar 0) (eC (.int 1))) (eVar 1)) (aCons (eOp oAdd (eOp oSub (eOp oSub (eVar 0) (eC (.int 2))) (eOp oMul (eC (.int 2)) (eVar 1))) (eVar 3)) (aCons (eOp oAdd (eOp oSub (eVar 0) (eOp oMul (eC (.int 2)) (eVar 1))) (eVar 2)) (aNil))))))) (sNx))
def F_rest_told : List DV → MM DV := runB 4 b_rest_told
def b_shares : SF := sSeq (sExpr (eCall F_need_four (aCons (eVar 0) (aCons (eVar 1) (aCons (eVar 2) (aCons (eVar 3) (aNil))))))) (sSeq (sRet (eCall F_shares_of (aCons (eVar 0) (aCons (eVar 1) (aCons (eVar 2) (aCons (eVar 3) (aNil))))))) (sNx))
def F_shares : List DV → MM DV := runB 4 b_shares
end ML
end
section
/-! E1: the mirrors by equations that simp may use. -/
namespace DL
open PySem PySem.Spec PyProof.Rows L2
section
variable {α β : Type} (st : Sto) (r : Rho)
@[simp] theorem ret_at (a : α) : DL.ret a st = some (.ok a, st) := Eq.trans rfl rfl
@[simp] theorem bnd_at (m : MM α) (f : α → MM β) : DL.bnd m f st = match m st with
  | none => none
  | some (.ok a, st') => f a st'
  | some (.er x, st') => some (.er x, st') := Eq.trans rfl rfl
@[simp] theorem lft_at (g : Sto → Option α) : lft g st = match g st with
  | none => none
  | some a => some (.ok a, st) := Eq.trans rfl rfl
@[simp] theorem sBind_at (m : MM α) (k : α → Sto → Option (SR × Sto)) : sBind m r k st = match m st with
  | none => none
  | some (.ok a, st') => k a st'
  | some (.er x, st') => some (.er x r, st') := Eq.trans rfl rfl
@[simp] theorem eVar_at (i : Nat) : eVar i r st = match r[i]? with
  | some (some v) => some (.ok v, st)
  | _ => none := Eq.trans rfl rfl
@[simp] theorem eC_at (p : PyData) : eC p r st = some (.ok (.d p), st) := Eq.trans rfl rfl
@[simp] theorem eOp_at (o : DV → DV → Sto → Option DV) (a b : EF) : eOp o a b r st = DL.bnd (a r) (fun x => DL.bnd (b r) fun y => lft (o x y)) st := Eq.trans rfl rfl
@[simp] theorem eUn_at (o : DV → Sto → Option DV) (a : EF) : eUn o a r st = DL.bnd (a r) (fun x => lft (o x)) st := Eq.trans rfl rfl
@[simp] theorem tVal_at (a : EF) : tVal a r st = DL.bnd (a r) (fun x => lft fun _ => bool? x) st := Eq.trans rfl rfl
@[simp] theorem tTru_at (a : EF) : tTru a r st = DL.bnd (a r) (fun x => lft fun st => truth? st x) st := Eq.trans rfl rfl
@[simp] theorem tAnd_at (a b : TF) : DL.tAnd a b r st = DL.bnd (a r) (fun c => match c with
  | true => b r
  | false => DL.ret false) st := Eq.trans rfl rfl
@[simp] theorem tOr_at (a b : TF) : DL.tOr a b r st = DL.bnd (a r) (fun c => match c with
  | true => DL.ret true
  | false => b r) st := Eq.trans rfl rfl
@[simp] theorem tNot_at (a : TF) : DL.tNot a r st = DL.bnd (a r) (fun c => DL.ret (!c)) st := Eq.trans rfl rfl
@[simp] theorem eAnd_at (a b : EF) : eAnd a b r st = DL.bnd (a r) (fun x => DL.bnd (lft fun _ => bool? x) fun c => match c with
  | true => b r
  | false => DL.ret (.d (.bool false))) st := Eq.trans rfl rfl
@[simp] theorem eOr_at (a b : EF) : eOr a b r st = DL.bnd (a r) (fun x => DL.bnd (lft fun _ => bool? x) fun c => match c with
  | true => DL.ret (.d (.bool true))
  | false => b r) st := Eq.trans rfl rfl
@[simp] theorem eNot_at (a : EF) : eNot a r st = DL.bnd (a r) (fun x => DL.bnd (lft fun _ => bool? x) fun c => DL.ret (.d (.bool !c))) st := Eq.trans rfl rfl
@[simp] theorem eIf_at (t : TF) (a b : EF) : eIf t a b r st = DL.bnd (t r) (fun c => match c with
  | true => a r
  | false => b r) st := Eq.trans rfl rfl
@[simp] theorem eChain_at (o o' : DV → DV → Sto → Option DV) (a b c : EF) : eChain o o' a b c r st = DL.bnd (a r) (fun x => DL.bnd (b r) fun y => DL.bnd (lft (o x y)) fun z => DL.bnd (lft fun _ => bool? z) fun k => match k with
  | true => DL.bnd (c r) fun w => lft (o' y w)
  | false => DL.ret (.d (.bool false))) st := Eq.trans rfl rfl
@[simp] theorem aNil_at : aNil r st = some (.ok [], st) := Eq.trans rfl rfl
@[simp] theorem aCons_at (a : EF) (b : AF) : aCons a b r st = DL.bnd (a r) (fun x => DL.bnd (b r) fun xs => DL.ret (x :: xs)) st := Eq.trans rfl rfl
@[simp] theorem pds_nil : pds [] = some [] := Eq.trans rfl rfl
@[simp] theorem pds_cons (p : PyData) (l : List DV) : pds (.d p :: l) = (pds l).map (p :: ·) := Eq.trans rfl rfl
@[simp] theorem eTup_at (a : AF) : eTup a r st = DL.bnd (a r) (fun xs => lft fun _ => if xs.length ≤ sizeLine then (pds xs).map fun ds => .d (.tuple ds) else none) st := Eq.trans rfl rfl
@[simp] theorem eLst_at (a : AF) : eLst a r st = DL.bnd (a r) (fun xs => lft fun _ => if xs.length ≤ sizeLine then (pds xs).map fun ds => .d (.list ds) else none) st := Eq.trans rfl rfl
@[simp] theorem eLstM_at (a : AF) : eLstM a r st = DL.bnd (a r) (fun xs st => match (if xs.length ≤ sizeLine then pds xs else none) with
  | some ds => some (.ok (.mu st.length), st ++ [.lst ds])
  | none => none) st := Eq.trans rfl rfl
@[simp] theorem eDctM_at : eDctM r st = some (.ok (.mu st.length), st ++ [.dk []]) := Eq.trans rfl rfl
@[simp] theorem eCall_at (F : List DV → MM DV) (a : AF) : eCall F a r st = DL.bnd (a r) F st := Eq.trans rfl rfl
@[simp] theorem fB_at (g : List DV → Sto → Option DV) (xs : List DV) : fB g xs st = lft (g xs) st := Eq.trans rfl rfl
@[simp] theorem eIsi_at (t : Ty) (a : EF) : eIsi t a r st = DL.bnd (a r) (fun x => lft fun st => (tyN st x).map fun u => .d (.bool (u.sub t))) st := Eq.trans rfl rfl
@[simp] theorem eIsi2_at (t1 t2 : Ty) (a : EF) : eIsi2 t1 t2 a r st = DL.bnd (a r) (fun x => lft fun st => (tyN st x).map fun u => .d (.bool (u.sub t1 || u.sub t2))) st := Eq.trans rfl rfl
@[simp] theorem sNx_at : sNx r st = some (.fl .nx r, st) := Eq.trans rfl rfl
@[simp] theorem sSeq_at (a b : SF) : sSeq a b r st = match a r st with
  | some (.fl .nx r', st') => b r' st'
  | x => x := Eq.trans rfl rfl
@[simp] theorem sExpr_at (a : EF) : sExpr a r st = sBind (a r) r (fun _ st => some (.fl .nx r, st)) st := Eq.trans rfl rfl
@[simp] theorem sRet_at (a : EF) : sRet a r st = sBind (a r) r (fun x st => some (.fl (.rt x) r, st)) st := Eq.trans rfl rfl
@[simp] theorem sIf_at (t : TF) (a b : SF) : sIf t a b r st = sBind (t r) r (fun c st => match c with
  | true => a r st
  | false => b r st) st := Eq.trans rfl rfl
@[simp] theorem sSet_at (i : Nat) (a : EF) : sSet i a r st = sBind (a r) r (fun x st => some (.fl .nx (r.set i (some x)), st)) st := Eq.trans rfl rfl
@[simp] theorem sBrk_at : sBrk r st = some (.fl .bk r, st) := Eq.trans rfl rfl
@[simp] theorem sCont_at : sCont r st = some (.fl .ct r, st) := Eq.trans rfl rfl
@[simp] theorem gV_at (i : Nat) (x : DV) : gV i x r st = some (r.set i (some x)) := Eq.trans rfl rfl
@[simp] theorem gNilF_at : gNilF [] r = some r := Eq.trans rfl rfl
@[simp] theorem gConsF_at (i : Nat) (k : List PyData → Rho → Option Rho) (p : PyData) (ps : List PyData) : gConsF i k (p :: ps) r = k ps (r.set i (some (.d p))) := Eq.trans rfl rfl
@[simp] theorem gT_at (k : List PyData → Rho → Option Rho) (x : DV) : gT k x r st = match res st x with
  | some (.tuple ds) => k ds r
  | _ => none := Eq.trans rfl rfl
@[simp] theorem sAsg_at (a : EF) (g : GF) : sAsg a g r st = sBind (a r) r (fun x st => match g x r st with
  | some r' => some (.fl .nx r', st)
  | none => none) st := Eq.trans rfl rfl
@[simp] theorem sPar_at (i j : Nat) (a : AF) : sPar i j a r st = sBind (a r) r (fun xs st => match xs with
  | [x, y] => some (.fl .nx ((r.set i (some x)).set j (some y)), st)
  | _ => none) st := Eq.trans rfl rfl
@[simp] theorem sPar3_at (i j l : Nat) (a : AF) : sPar3 i j l a r st = sBind (a r) r (fun xs st => match xs with
  | [x, y, z] => some (.fl .nx (((r.set i (some x)).set j (some y)).set l (some z)), st)
  | _ => none) st := Eq.trans rfl rfl
@[simp] theorem sPut_at (v o i : EF) : sPut v o i r st = sBind (v r) r (fun x => sBind (o r) r fun y => sBind (i r) r fun z st => match y, z, x with
  | .mu k, .d q, .d p => match putS st k q p with
    | some st' => some (.fl .nx r, st')
    | none => none
  | _, _, _ => none) st := Eq.trans rfl rfl
@[simp] theorem iSeq_at (a : EF) : iSeq a r st = DL.bnd (a r) (fun x => lft fun st => itms st x) st := Eq.trans rfl rfl
@[simp] theorem iRg1_at (a : EF) : iRg1 a r st = DL.bnd (a r) (fun x => lft fun st => match res st x with
  | some (.int j) => if -(2 ^ 62) ≤ j ∧ j < 2 ^ 62 then some (rng 0 j.toNat) else none
  | _ => none) st := Eq.trans rfl rfl
@[simp] theorem iRg2_at (a b : EF) : iRg2 a b r st = DL.bnd (a r) (fun x => DL.bnd (b r) fun y => lft fun st => match res st x, res st y with
  | some (.int i), some (.int j) => if -(2 ^ 62) ≤ i ∧ i < 2 ^ 62 ∧ -(2 ^ 62) ≤ j ∧ j < 2 ^ 62 then some (rng i (j - i).toNat) else none
  | _, _ => none) st := Eq.trans rfl rfl
@[simp] theorem res_d (p : PyData) : res st (.d p) = some p := Eq.trans rfl rfl
@[simp] theorem itms_l (ds : List PyData) : itms st (.d (.list ds)) = some (ds.map .d) := Eq.trans rfl rfl
@[simp] theorem itms_t (ds : List PyData) : itms st (.d (.tuple ds)) = some (ds.map .d) := Eq.trans rfl rfl
@[simp] theorem itms_dl (kss : List (List Int)) : itms st (.dl kss) = some (kss.map .dk) := Eq.trans rfl rfl
@[simp] theorem bool_b (b : Bool) : bool? (.d (.bool b)) = some b := Eq.trans rfl rfl
@[simp] theorem tyN_d (p : PyData) : tyN st (.d p) = some (tyP p) := Eq.trans rfl rfl
@[simp] theorem fz_d (n : Nat) (p : PyData) : fz st n (.d p) = some (.d p) := Eq.trans rfl rfl
@[simp] theorem fz_dk (n : Nat) (p : List Int) : fz st n (.dk p) = some (.dk p) := Eq.trans rfl rfl
@[simp] theorem fz_dl (n : Nat) (p : List (List Int)) : fz st n (.dl p) = some (.dl p) := Eq.trans rfl rfl
@[simp] theorem sFor_at (it : IF) (g : GF) (b : SF) : sFor it g b r st = sBind (it r) r (fun xs st => forL g b xs r st) st := Eq.trans rfl rfl
/-- arithmetic on ints -/
@[simp] theorem oAdd_ii (i j : Int) : oAdd (.d (.int i)) (.d (.int j)) st = some (.d (.int (i + j))) := Eq.trans rfl rfl
@[simp] theorem oSub_ii (i j : Int) : oSub (.d (.int i)) (.d (.int j)) st = some (.d (.int (i - j))) := Eq.trans rfl rfl
@[simp] theorem oLe_ii (i j : Int) : oLe (.d (.int i)) (.d (.int j)) st = some (.d (.bool (decide (i ≤ j)))) := Eq.trans rfl rfl
@[simp] theorem oGt_ii (i j : Int) : oGt (.d (.int i)) (.d (.int j)) st = some (.d (.bool (decide (j < i)))) := Eq.trans rfl rfl
@[simp] theorem oGe_ii (i j : Int) : oGe (.d (.int i)) (.d (.int j)) st = some (.d (.bool (decide (j ≤ i)))) := Eq.trans rfl rfl
@[simp] theorem oLt_ii (i j : Int) : oLt (.d (.int i)) (.d (.int j)) st = some (.d (.bool (decide (i < j)))) := Eq.trans rfl rfl
theorem oMul_ii {i j : Int} (h : (-(2 ^ 64) < i ∧ i < 2 ^ 64) ∨ (-(2 ^ 64) < j ∧ j < 2 ^ 64)) : oMul (.d (.int i)) (.d (.int j)) st = some (.d (.int (i * j))) := by simp only [oMul, oInt, res_d, if_pos h, Option.map]
theorem oFdiv_ii {i j : Int} (h : j ≠ 0 ∧ j.natAbs < 1073741824) : oFdiv (.d (.int i)) (.d (.int j)) st = some (.d (.int (i.fdiv j))) := by simp only [oFdiv, oInt, res_d, if_pos h, Option.map]
theorem oMod_ii {i j : Int} (h : j ≠ 0) : oMod (.d (.int i)) (.d (.int j)) st = some (.d (.int (i.fmod j))) := by simp only [oMod, oInt, res_d, if_pos h, Option.map]
theorem ixN_nat {n i : Nat} (h : i < n) : ixN n (i : Int) = some i := by
  unfold ixN
  rw [if_pos (by omega), if_pos (by omega)]
  simp
theorem atI_nat' {α : Type} {xs : List α} {i : Nat} {x : α} (h : xs[i]? = some x) : atI xs (i : Int) = some x := by
  unfold atI
  rw [ixN_nat (List.getElem?_eq_some_iff.mp h).1]
  exact h
theorem oIx_l {ds : List PyData} {i : Int} {p : PyData} (h : atI ds i = some p) : oIx (.d (.list ds)) (.d (.int i)) st = some (.d p) := by simp only [oIx, res_d, h, Option.map]
theorem oIx_t {ds : List PyData} {i : Int} {p : PyData} (h : atI ds i = some p) : oIx (.d (.tuple ds)) (.d (.int i)) st = some (.d p) := by simp only [oIx, res_d, h, Option.map]
theorem truth_b (b : Bool) : truth? st (.d (.bool b)) = some b := rfl
@[simp] theorem truth_b' (b : Bool) : truth? st (.d (.bool b)) = some b := Eq.trans rfl rfl
end
/-! ### a def that leaves the store as it is -/
theorem runB_rt {N : Nat} {b : SF} {xs : List DV} {st : Sto} {v : DV} {r' : Rho} (h : b (startR N xs) st = some (.fl (.rt v) r', st)) (hv : fz st st.length v = some v) : runB N b xs st = some (.ok v, st) := by
  unfold runB
  rw [h]
  simp [hv]
theorem runB_nx {N : Nat} {b : SF} {xs : List DV} {st : Sto} {r' : Rho} (h : b (startR N xs) st = some (.fl .nx r', st)) : runB N b xs st = some (.ok (.d .none), st) := by
  unfold runB
  rw [h]
  simp
/-! ### comprehensions whose parts leave the store -/
theorem lcL_pure {k : Nat} {g : GF} {t : TF} {e : EF} {r : Rho} (f : DV → Option PyData) : ∀ (xs : List DV) (st : Sto) (acc : List PyData), st[k]? = some (.lst acc) → acc.length + xs.length ≤ sizeLine →
    (∀ x ∈ xs, ∀ st : Sto, ∃ r1, g x r st = some r1 ∧ ((f x = none ∧ t r1 st = some (.ok false, st)) ∨ ∃ p, f x = some p ∧ t r1 st = some (.ok true, st) ∧ e r1 st = some (.ok (.d p), st))) →
    lcL k g t e r xs st = some (st.set k (.lst (acc ++ xs.filterMap f)))
  | [], st, acc, h, _, _ => by
    unfold lcL
    have hk := (List.getElem?_eq_some_iff.mp h)
    simp only [List.filterMap_nil, List.append_nil]
    rw [← hk.2, List.set_getElem_self]
  | x :: xs, st, acc, h, hl, hs => by
    unfold lcL
    obtain ⟨r1, e1, q⟩ := hs x List.mem_cons_self st
    have hk := (List.getElem?_eq_some_iff.mp h).1
    simp only [List.length_cons] at hl
    rcases q with ⟨fx, et⟩ | ⟨p, fx, et, ee⟩
    · simp only [e1, et]
      rw [lcL_pure f xs st acc h (by omega) fun y hy => hs y (List.mem_cons_of_mem _ hy), List.filterMap_cons_none fx]
    · simp only [e1, et, ee, h]
      rw [if_pos (by omega), lcL_pure f xs (st.set k (.lst (acc ++ [p]))) (acc ++ [p]) (by rw [List.getElem?_set_self hk]) (by simp; omega) fun y hy => hs y (List.mem_cons_of_mem _ hy), List.filterMap_cons_some fx]
      simp
theorem eLc_pure {it : IF} {g : GF} {t : TF} {e : EF} {vs : List Nat} {r : Rho} {xs : List DV} {st : Sto} (f : DV → Option PyData) (hi : it r st = some (.ok xs, st)) (hl : xs.length ≤ sizeLine)
    (hs : ∀ x ∈ xs, ∀ st : Sto, ∃ r1, g x (wipeR r vs) st = some r1 ∧ ((f x = none ∧ t r1 st = some (.ok false, st)) ∨ ∃ p, f x = some p ∧ t r1 st = some (.ok true, st) ∧ e r1 st = some (.ok (.d p), st))) :
    eLc it g t e vs r st = some (.ok (.d (.list (xs.filterMap f))), st) := by
  show DL.bnd (it r) _ st = _
  simp only [bnd_at, hi]
  have q := lcL_pure (k := st.length) f xs (st ++ [Ct.lst []]) [] (by simp) (by simpa using hl) hs
  simp only [q]
  simp
/-! ### all -/
theorem allL_pure {g : GF} {e : EF} {r : Rho} (f : DV → Bool) : ∀ (xs : List DV) (st : Sto), (∀ x ∈ xs, ∃ r1, g x r st = some r1 ∧ e r1 st = some (.ok (.d (.bool (f x))), st)) → allL g e r xs st = some (.ok (.d (.bool (xs.all f))), st)
  | [], st, _ => rfl
  | x :: xs, st, hs => by
    unfold allL
    obtain ⟨r1, e1, e2⟩ := hs x List.mem_cons_self
    simp only [e1, e2, List.all_cons]
    cases f x with
    | true => simpa using allL_pure f xs st fun y hy => hs y (List.mem_cons_of_mem _ hy)
    | false => rfl
theorem eAll_pure {it : IF} {g : GF} {e : EF} {vs : List Nat} {r : Rho} {xs : List DV} {st : Sto} (f : DV → Bool) (hi : it r st = some (.ok xs, st)) (hs : ∀ x ∈ xs, ∃ r1, g x (wipeR r vs) st = some r1 ∧ e r1 st = some (.ok (.d (.bool (f x))), st)) :
    eAll it g e vs r st = some (.ok (.d (.bool (xs.all f))), st) := by
  show DL.bnd (it r) _ st = _
  simp only [bnd_at, hi]
  exact allL_pure f xs st hs
theorem eAll_true {it : IF} {g : GF} {e : EF} {vs : List Nat} {r : Rho} {xs : List DV} {st : Sto} (hi : it r st = some (.ok xs, st)) (hs : ∀ x ∈ xs, ∃ r1, g x (wipeR r vs) st = some r1 ∧ e r1 st = some (.ok (.d (.bool true)), st)) :
    eAll it g e vs r st = some (.ok (.d (.bool true)), st) := by
  have q := eAll_pure (fun _ => true) hi hs
  have : (xs.all fun _ => true) = true := by induction xs <;> simp_all
  rw [this] at q
  exact q
theorem cutD_one (ds : List PyData) : cutD ds 1 = ds.drop 1 := by
  unfold cutD
  rw [show HT.sIx ds.length 0 (some 1) = min 1 ds.length from HT.sIx_nat ds.length 0 1]
  cases ds with
  | nil => rfl
  | cons x r =>
    rw [show min 1 (x :: r).length = 1 by rw [List.length_cons]; omega]
    show List.take (r.length + 1 - 1) r = r
    rw [Nat.add_sub_cancel]
    exact List.take_length
/-! ### for -/
theorem forL_inv {g : GF} {b : SF} (I : List DV → Rho → Sto → Prop) (step : ∀ x xs r st, I (x :: xs) r st → ∃ r1 r2 st2, g x r st = some r1 ∧ b r1 st = some (.fl .nx r2, st2) ∧ I xs r2 st2) :
    ∀ (xs : List DV) (r : Rho) (st : Sto), I xs r st → ∃ r' st', forL g b xs r st = some (.fl .nx r', st') ∧ I [] r' st'
  | [], r, st, h => ⟨r, st, rfl, h⟩
  | x :: xs, r, st, h => by
    obtain ⟨r1, r2, st2, e1, e2, h2⟩ := step x xs r st h
    obtain ⟨r', st', e3, h3⟩ := forL_inv I step xs r2 st2 h2
    exact ⟨r', st', by unfold forL; simp only [e1, e2]; exact e3, h3⟩
theorem rng_mem {n : Nat} {x : DV} (h : x ∈ rng 0 n) : ∃ i : Nat, i < n ∧ x = .d (.int i) := by
  obtain ⟨i, hi, rfl⟩ := List.mem_map.mp h
  exact ⟨i, List.mem_range.mp hi, by simp⟩
end DL
end
section
/-! E2: the mirrors by rules, one a construct (the kernel is spared the unfolding). -/
namespace DL
open PySem PySem.Spec PyProof.Rows L2
section
variable {a b c : EF} {t u : TF} {as : AF} {r r1 : Rho} {st st1 st2 st3 : Sto} {x y z : DV} {xs : List DV} {o : Option (Rs DV × Sto)} {ot : Option (Rs Bool × Sto)} {os : Option (SR × Sto)} {s s' : SF}
theorem xVar {i : Nat} (h : r[i]? = some (some x)) : eVar i r st = some (.ok x, st) := by simp [h]
theorem xC {p : PyData} : eC p r st = some (.ok (.d p), st) := rfl
theorem xOp {f : DV → DV → Sto → Option DV} (ha : a r st = some (.ok x, st1)) (hb : b r st1 = some (.ok y, st2)) (h : f x y st2 = some z) : eOp f a b r st = some (.ok z, st2) := by simp [ha, hb, h]
theorem xCall {F : List DV → MM DV} (ha : as r st = some (.ok xs, st1)) (h : F xs st1 = o) : eCall F as r st = o := by simp [ha, h]
theorem xB {g : List DV → Sto → Option DV} (h : g xs st = some z) : fB g xs st = some (.ok z, st) := by simp [h]
theorem xNil : aNil r st = some (.ok [], st) := rfl
theorem xCons (ha : a r st = some (.ok x, st1)) (hb : as r st1 = some (.ok xs, st2)) : aCons a as r st = some (.ok (x :: xs), st2) := by simp [ha, hb]
theorem xTup {ds : List PyData} (ha : as r st = some (.ok xs, st1)) (hp : pds xs = some ds) (hl : xs.length ≤ sizeLine) : eTup as r st = some (.ok (.d (.tuple ds)), st1) := by simp [ha, hp, hl]
theorem xLst {ds : List PyData} (ha : as r st = some (.ok xs, st1)) (hp : pds xs = some ds) (hl : xs.length ≤ sizeLine) : eLst as r st = some (.ok (.d (.list ds)), st1) := by simp [ha, hp, hl]
theorem xLstM {ds : List PyData} (ha : as r st = some (.ok xs, st1)) (hp : pds xs = some ds) (hl : xs.length ≤ sizeLine) : eLstM as r st = some (.ok (.mu st1.length), st1 ++ [.lst ds]) := by simp [ha, hp, hl]
theorem xDctM : eDctM r st = some (.ok (.mu st.length), st ++ [.dk []]) := rfl
theorem xIsi {v : Ty} {w : Ty} (ha : a r st = some (.ok x, st1)) (h : tyN st1 x = some w) : eIsi v a r st = some (.ok (.d (.bool (w.sub v))), st1) := by simp [ha, h]
theorem xIsi2 {v v2 : Ty} {w : Ty} (ha : a r st = some (.ok x, st1)) (h : tyN st1 x = some w) : eIsi2 v v2 a r st = some (.ok (.d (.bool (w.sub v || w.sub v2))), st1) := by simp [ha, h]
theorem xAndT (ha : a r st = some (.ok (.d (.bool true)), st1)) (hb : b r st1 = o) : eAnd a b r st = o := by simp [ha, hb]
theorem xAndF (ha : a r st = some (.ok (.d (.bool false)), st1)) : eAnd a b r st = some (.ok (.d (.bool false)), st1) := by simp [ha]
theorem xAnd {i j : Bool} (ha : a r st = some (.ok (.d (.bool i)), st1)) (hb : b r st1 = some (.ok (.d (.bool j)), st1)) : eAnd a b r st = some (.ok (.d (.bool (i && j))), st1) := by cases i <;> simp [ha, hb]
theorem xOrT (ha : a r st = some (.ok (.d (.bool true)), st1)) : eOr a b r st = some (.ok (.d (.bool true)), st1) := by simp [ha]
theorem xOrF (ha : a r st = some (.ok (.d (.bool false)), st1)) (hb : b r st1 = o) : eOr a b r st = o := by simp [ha, hb]
theorem xNot {i : Bool} (ha : a r st = some (.ok (.d (.bool i)), st1)) : eNot a r st = some (.ok (.d (.bool !i)), st1) := by simp [ha]
theorem xIfT (ht : t r st = some (.ok true, st1)) (ha : a r st1 = o) : eIf t a b r st = o := by simp [ht, ha]
theorem xIfF (ht : t r st = some (.ok false, st1)) (hb : b r st1 = o) : eIf t a b r st = o := by simp [ht, hb]
theorem xTVal {i : Bool} (ha : a r st = some (.ok (.d (.bool i)), st1)) : tVal a r st = some (.ok i, st1) := by simp [ha]
theorem xTTru {i : Bool} (ha : a r st = some (.ok x, st1)) (h : truth? st1 x = some i) : tTru a r st = some (.ok i, st1) := by simp [ha, h]
theorem xTNot {i : Bool} (ht : t r st = some (.ok i, st1)) : DL.tNot t r st = some (.ok (!i), st1) := by simp [ht]
theorem xTAndT (ht : t r st = some (.ok true, st1)) (hu : u r st1 = ot) : DL.tAnd t u r st = ot := by simp [ht, hu]
theorem xTAndF (ht : t r st = some (.ok false, st1)) : DL.tAnd t u r st = some (.ok false, st1) := by simp [ht]
theorem xTOrT (ht : t r st = some (.ok true, st1)) : DL.tOr t u r st = some (.ok true, st1) := by simp [ht]
theorem xTOrF (ht : t r st = some (.ok false, st1)) (hu : u r st1 = ot) : DL.tOr t u r st = ot := by simp [ht, hu]
theorem xApp {k : Nat} {p : PyData} {ds1 ds : List PyData} (ha : a r st = some (.ok (.mu k), st1)) (h1 : st1[k]? = some (.lst ds1)) (hb : b r st1 = some (.ok (.d p), st2)) (h2 : st2[k]? = some (.lst ds)) (hl : ds.length < sizeLine) : eApp a b r st = some (.ok (.d .none), st2.set k (.lst (ds ++ [p]))) := by
  have e : isLM st1 (.mu k) = some k := by unfold isLM; simp [h1]
  unfold eApp
  simp [ha, e, hb, h2, pd?, if_pos hl]
theorem xPop {k i : Nat} {q : PyData} {ds1 ds : List PyData} (ha : a r st = some (.ok (.mu k), st1)) (h1 : st1[k]? = some (.lst ds1)) (hb : b r st1 = some (.ok (.d (.int i)), st2)) (h2 : st2[k]? = some (.lst ds)) (hi : i < ds.length) (hq : ds[i]? = some q) (hb2 : i < 1000000) : ePop a b r st = some (.ok (.d q), st2.set k (.lst (ds.eraseIdx i))) := by
  have e : isLM st1 (.mu k) = some k := by unfold isLM; simp [h1]
  have e2 : -(2 ^ 63) ≤ (i : Int) ∧ (i : Int) < 2 ^ 63 := by omega
  have e3 : seqIndex? (i : Int) ds.length = some i := (L2.ixN_seq (ixN_nat hi)).1
  unfold ePop
  simp only [bnd_at, ha, lft_at, e, hb, h2, pd?, if_pos e2, e3, hq]
theorem xSortSet {x : DV} {ds : List PyData} {ns : List Int} (ha : a r st = some (.ok x, st1)) (h : res st1 x = some (.list ds)) (hn : ints? ds = some ns) (hl : ns.length < 4000) (hu : (usort ns).length < 64) : eSortSet a r st = some (.ok (.d (.list ((usort ns).map .int))), st1) := by
  unfold eSortSet
  have hb := And.intro hl hu
  simp only [bnd_at, ha, lft_at, h, hn, if_pos hb]
theorem yNx (ha : s r st = some (.fl .nx r1, st1)) (hb : s' r1 st1 = os) : sSeq s s' r st = os := by simp [ha, hb]
theorem yRt (ha : s r st = some (.fl (.rt x) r1, st1)) : sSeq s s' r st = some (.fl (.rt x) r1, st1) := by simp [ha]
theorem yBk (ha : s r st = some (.fl .bk r1, st1)) : sSeq s s' r st = some (.fl .bk r1, st1) := by simp [ha]
theorem yCt (ha : s r st = some (.fl .ct r1, st1)) : sSeq s s' r st = some (.fl .ct r1, st1) := by simp [ha]
theorem yEr {e : Xn} (ha : s r st = some (.er e r1, st1)) : sSeq s s' r st = some (.er e r1, st1) := by simp [ha]
theorem yEnd : sNx r st = some (.fl .nx r, st) := rfl
theorem yExpr (ha : a r st = some (.ok x, st1)) : sExpr a r st = some (.fl .nx r, st1) := by simp [ha]
theorem yRet (ha : a r st = some (.ok x, st1)) : sRet a r st = some (.fl (.rt x) r, st1) := by simp [ha]
theorem yIfT (ht : t r st = some (.ok true, st1)) (ha : s r st1 = os) : sIf t s s' r st = os := by simp [ht, ha]
theorem yIfF (ht : t r st = some (.ok false, st1)) (ha : s' r st1 = os) : sIf t s s' r st = os := by simp [ht, ha]
theorem ySet {i : Nat} (ha : a r st = some (.ok x, st1)) : sSet i a r st = some (.fl .nx (r.set i (some x)), st1) := by simp [ha]
theorem yAsg {g : GF} (ha : a r st = some (.ok x, st1)) (hg : g x r st1 = some r1) : sAsg a g r st = some (.fl .nx r1, st1) := by simp [ha, hg]
theorem yPar {i j : Nat} (ha : as r st = some (.ok [x, y], st1)) : sPar i j as r st = some (.fl .nx ((r.set i (some x)).set j (some y)), st1) := by simp [ha]
theorem yPar3 {i j l : Nat} (ha : as r st = some (.ok [x, y, z], st1)) : sPar3 i j l as r st = some (.fl .nx (((r.set i (some x)).set j (some y)).set l (some z)), st1) := by simp [ha]
theorem yPut {k : Nat} {p q : PyData} {st4 : Sto} (ha : a r st = some (.ok (.d p), st1)) (hb : b r st1 = some (.ok (.mu k), st2)) (hc : c r st2 = some (.ok (.d q), st3)) (h : putS st3 k q p = some st4) : sPut a b c r st = some (.fl .nx r, st4) := by simp [ha, hb, hc, h]
theorem yFor {it : IF} {g : GF} (hi : it r st = some (.ok xs, st1)) (h : forL g s xs r st1 = os) : sFor it g s r st = os := by simp [hi, h]
theorem zSeq (ha : a r st = some (.ok x, st1)) (h : itms st1 x = some xs) : iSeq a r st = some (.ok xs, st1) := by simp [ha, h]
theorem zRg1 {n : Nat} (ha : a r st = some (.ok (.d (.int n)), st1)) (hn : n ≤ 1000000) : iRg1 a r st = some (.ok (rng 0 n), st1) := by
  have h : -(2 ^ 62) ≤ (n : Int) ∧ (n : Int) < 2 ^ 62 := by omega
  simp only [iRg1_at, bnd_at, ha, lft_at, res_d, if_pos h, Int.toNat_natCast]
theorem zRg2 {m n : Nat} (ha : a r st = some (.ok (.d (.int m)), st1)) (hb : b r st1 = some (.ok (.d (.int n)), st2)) (hm : m ≤ 1000000) (hn : n ≤ 1000000) : iRg2 a b r st = some (.ok (rng m (n - m)), st2) := by
  have h : -(2 ^ 62) ≤ (m : Int) ∧ (m : Int) < 2 ^ 62 ∧ -(2 ^ 62) ≤ (n : Int) ∧ (n : Int) < 2 ^ 62 := by omega
  have e : ((n : Int) - (m : Int)).toNat = n - m := by omega
  simp only [iRg2_at, bnd_at, ha, hb, lft_at, res_d, if_pos h, e]
end
theorem forL_nx {g : GF} {b : SF} {x : DV} {xs : List DV} {r r1 r2 : Rho} {st st2 : Sto} (hg : g x r st = some r1) (hb : b r1 st = some (.fl .nx r2, st2)) : forL g b (x :: xs) r st = forL g b xs r2 st2 := by
  show (match g x r st with | none => none | some r1 => _) = _
  rw [hg]
  show (match b r1 st with | some (.fl .nx r2, st2) => _ | some (.fl .ct r2, st2) => _ | some (.fl .bk r2, st2) => _ | some (.fl (.rt v) r2, st2) => _ | some (.er x r2, st2) => _ | none => _) = _
  rw [hb]
/-- a def's body -/
theorem fRt {N : Nat} {b : SF} {xs : List DV} {st : Sto} {v : DV} {r' : Rho} {r : Rho} (hr : startR N xs = r) (h : b r st = some (.fl (.rt v) r', st)) (hv : fz st st.length v = some v) : runB N b xs st = some (.ok v, st) := runB_rt (by rw [hr]; exact h) hv
theorem fRtS {N : Nat} {b : SF} {xs : List DV} {st st' : Sto} {v v' : DV} {r' : Rho} {r : Rho} (hr : startR N xs = r) (h : b r st = some (.fl (.rt v) r', st')) (hv : fz st' st.length v = some v') : runB N b xs st = some (.ok v', st'.take st.length) := by
  unfold runB
  rw [hr, h]
  simp [hv]
theorem fNx {N : Nat} {b : SF} {xs : List DV} {st : Sto} {r' : Rho} {r : Rho} (hr : startR N xs = r) (h : b r st = some (.fl .nx r', st)) : runB N b xs st = some (.ok (.d .none), st) := runB_nx (by rw [hr]; exact h)
end DL
end
section
/-! PL1: what the mirrors of the net module compute, in plain Lean. -/
namespace ML
open PySem DL
abbrev Pr := Nat × Nat
def prD (p : Pr) : PyData := .tuple [.int p.1, .int p.2]
def netD (n : Nat) (ps : List Pr) : PyData := .tuple [.int n, .tuple (ps.map prD)]
def ltPr (p q : Pr) : Prop := p.1 < q.1 ∨ (p.1 = q.1 ∧ p.2 < q.2)
structure Net (n : Nat) (ps : List Pr) : Prop where
  pos : 1 ≤ n
  le : n ≤ 60
  ok : ∀ p ∈ ps, p.1 < p.2 ∧ p.2 < n
  srt : ps.Pairwise ltPr
  few : ps.length ≤ 4000
def adj (ps : List Pr) (a b : Nat) : Bool := decide ((a, b) ∈ ps) || decide ((b, a) ∈ ps)
def nbr (n : Nat) (ps : List Pr) (a : Nat) : List Nat := (List.range n).filter (adj ps a)
def intsD (l : List Nat) : List PyData := l.map fun (i : Nat) => .int (i : Int)
theorem big {n : Nat} (h : n ≤ 4000) : n ≤ sizeLine := Nat.le_trans h (by decide)
section
variable {n : Nat} {ps : List Pr} {st : Sto}
theorem is_number_int (v lo hi : Int) (st : Sto) : F_is_number [.d (.int v), .d (.int lo), .d (.int hi)] st = some (.ok (.d (.bool (decide (lo ≤ v) && decide (v ≤ hi)))), st) := by
  by_cases h : lo ≤ v <;> simp [F_is_number, runB, startR, b_is_number, tyP, Ty.sub, h]
theorem len2 (a b : PyData) (st : Sto) : fLen [.d (.tuple [a, b])] st = some (.d (.int 2)) := rfl
theorem ne_ints (i j : Int) (st : Sto) : oNe (.d (.int i)) (.d (.int j)) st = some (.d (.bool (!(i == j)))) := by
  simp only [oNe, res_d]
  rfl
theorem eq_ints (i j : Int) (st : Sto) : oEq (.d (.int i)) (.d (.int j)) st = some (.d (.bool (i == j))) := by
  simp only [oEq, res_d]
  rfl
theorem ix0 (a b : PyData) (st : Sto) : oIx (.d (.tuple [a, b])) (.d (.int 0)) st = some (.d a) := rfl
theorem ix1 (a b : PyData) (st : Sto) : oIx (.d (.tuple [a, b])) (.d (.int 1)) st = some (.d b) := rfl
theorem is_pair_ok {p : Pr} (h : p.1 < p.2 ∧ p.2 < n) (st : Sto) : F_is_pair [.d (.int n), .d (prD p)] st = some (.ok (.d (.bool true)), st) := by
  have ha : ∀ st : Sto, eAll (iSeq (eVar 1)) (gV 2) (eCall F_is_number (aCons (eVar 2) (aCons (eC (.int 0)) (aCons (eOp oSub (eVar 0) (eC (.int 1))) (aNil))))) [2] [some (.d (.int n)), some (.d (prD p)), none] st = some (.ok (.d (.bool true)), st) := fun st => by
    have := eAll_pure (it := iSeq (eVar 1)) (g := gV 2) (e := eCall F_is_number (aCons (eVar 2) (aCons (eC (.int 0)) (aCons (eOp oSub (eVar 0) (eC (.int 1))) (aNil))))) (vs := [2]) (r := [some (.d (.int n)), some (.d (prD p)), none]) (st := st) (xs := [.d (.int p.1), .d (.int p.2)]) (fun _ => true) (by simp [prD]) (fun x hx => ?_)
    · simpa using this
    · have : ∃ i : Nat, i < n ∧ x = .d (.int i) := by
        rcases List.mem_cons.mp hx with e | e
        · exact ⟨p.1, by omega, e⟩
        · have e : x = .d (.int p.2) := by simpa using e
          exact ⟨p.2, by omega, e⟩
      obtain ⟨i, hi, rfl⟩ := this
      refine ⟨_, rfl, ?_⟩
      simp [wipeR, is_number_int]
      omega
  have hne : ((p.1 : Int) == (p.2 : Int)) = false := by simp; omega
  simp only [F_is_pair, runB, startR, b_is_pair, sSeq_at, sIf_at, sBind_at, tOr_at, tNot_at, tTru_at, tVal_at, bnd_at, lft_at, eIsi_at, eVar_at, eOp_at, eCall_at, aCons_at, aNil_at, fB_at, ret_at, List.map, List.length, List.cons_append, List.nil_append, List.replicate]
  unfold prD at ha ⊢
  simp [ha, tyP, Ty.sub, len2, ne_ints, ix0, ix1]
  omega
/-- what is walked for all(.. < ..) -/
theorem zip_next : ∀ {ps : List Pr}, ps.Pairwise ltPr → ∀ x ∈ (ps.map prD).zip ((ps.map prD).drop 1), ∃ p q : Pr, x = (prD p, prD q) ∧ ltPr p q
  | [], _, x, hx => by simp at hx
  | [_], _, x, hx => by simp at hx
  | p :: q :: r, h, x, hx => by
    have hx : x ∈ (prD p, prD q) :: ((q :: r).map prD).zip (((q :: r).map prD).drop 1) := by simpa using hx
    rcases List.mem_cons.mp hx with e | e
    · exact ⟨p, q, e, (List.pairwise_cons.mp h).1 q List.mem_cons_self⟩
    · exact zip_next (List.pairwise_cons.mp h).2 x e
theorem lt_prs {p q : Pr} (h : ltPr p q) (st : Sto) : oLt (.d (prD p)) (.d (prD q)) st = some (.d (.bool true)) := by
  unfold prD
  simp only [oLt, res_d, ints?, Option.map]
  have : HT.lexLt [(p.1 : Int), (p.2 : Int)] [(q.1 : Int), (q.2 : Int)] = true := by
    unfold ltPr at h
    simp only [HT.lexLt]
    rcases h with h | ⟨h1, h2⟩
    · rw [if_neg (by omega), decide_eq_true_eq]
      omega
    · rw [if_pos (by omega), if_neg (by omega), decide_eq_true_eq]
      omega
  rw [this]
theorem wrong_net_ok (N : Net n ps) (st : Sto) : F_wrong_net [.d (netD n ps)] st = some (.ok (.d .none), st) := by
  have h1 : ∀ (r : Rho) (st : Sto), r = [some (.d (netD n ps)), some (.d (.int n)), some (.d (.tuple (ps.map prD))), none, none, none] → eAll (iSeq (eVar 2)) (gV 3) (eAnd (eCall F_is_pair (aCons (eVar 1) (aCons (eVar 3) (aNil)))) (eOp oLt (eOp oIx (eVar 3) (eC (.int 0))) (eOp oIx (eVar 3) (eC (.int 1))))) [3] r st = some (.ok (.d (.bool true)), st) := fun r st hr => by
    subst hr
    have := eAll_true (it := iSeq (eVar 2)) (g := gV 3) (e := eAnd (eCall F_is_pair (aCons (eVar 1) (aCons (eVar 3) (aNil)))) (eOp oLt (eOp oIx (eVar 3) (eC (.int 0))) (eOp oIx (eVar 3) (eC (.int 1))))) (vs := [3]) (r := [some (.d (netD n ps)), some (.d (.int n)), some (.d (.tuple (ps.map prD))), none, none, none]) (st := st) (xs := (ps.map prD).map .d) (by simp) (fun x hx => ?_)
    · exact this
    · obtain ⟨y, hy, rfl⟩ := List.mem_map.mp hx
      obtain ⟨p, hp, rfl⟩ := List.mem_map.mp hy
      refine ⟨_, rfl, ?_⟩
      have := is_pair_ok (N.ok p hp) st
      simp [wipeR, this]
      unfold prD
      simp [ix0, ix1]
      exact (N.ok p hp).1
  have h2 : ∀ (r : Rho) (st : Sto), r = [some (.d (netD n ps)), some (.d (.int n)), some (.d (.tuple (ps.map prD))), none, none, none] → eAll (iZipD (eVar 2) (eOp oFrom (eVar 2) (eC (.int 1)))) (gT (gConsF 4 (gConsF 5 (gNilF)))) (eOp oLt (eVar 4) (eVar 5)) [4, 5] r st = some (.ok (.d (.bool true)), st) := fun r st hr => by
    subst hr
    have := eAll_true (it := iZipD (eVar 2) (eOp oFrom (eVar 2) (eC (.int 1)))) (g := gT (gConsF 4 (gConsF 5 (gNilF)))) (e := eOp oLt (eVar 4) (eVar 5)) (vs := [4, 5]) (r := [some (.d (netD n ps)), some (.d (.int n)), some (.d (.tuple (ps.map prD))), none, none, none]) (st := st) (xs := ((ps.map prD).zip ((ps.map prD).drop 1)).map pairD) ?_ (fun x hx => ?_)
    · exact this
    · show DL.bnd _ _ st = _
      simp [oFrom, cutD_one]
    · obtain ⟨y, hy, rfl⟩ := List.mem_map.mp hx
      obtain ⟨p, q, rfl, hl⟩ := zip_next N.srt y hy
      refine ⟨_, rfl, ?_⟩
      simp [wipeR, lt_prs hl]
  have h3 : oIsN (.d (netD n ps)) (.d (netD n ps)) st = none := rfl
  unfold netD at *
  simp only [F_wrong_net, runB, startR, b_wrong_net, List.map, List.length, List.cons_append, List.nil_append, List.replicate]
  have hn : (1 : Int) ≤ n ∧ (n : Int) ≤ 60 := by
    have := N.pos
    have := N.le
    omega
  simp [h1, h2, tyP, Ty.sub, len2, ne_ints, is_number_int, hn]
end
end ML
end
section
/-! PL2: the lists of friends. -/
namespace ML
open PySem DL
theorem need_net_ok {n : Nat} {ps : List Pr} (N : Net n ps) (st : Sto) : F_need_net [.d (netD n ps)] st = some (.ok (.d .none), st) := by
  simp [F_need_net, runB, startR, b_need_net, wrong_net_ok N, oNotN, isNon]
theorem is_net_ok {n : Nat} {ps : List Pr} (N : Net n ps) (st : Sto) : F_is_net [.d (netD n ps)] st = some (.ok (.d (.bool true)), st) := by
  simp [F_is_net, runB, startR, b_is_net, wrong_net_ok N, oIsN, isNon]
theorem need_hall_ok {n h : Nat} {ps : List Pr} (hh : h < n) (st : Sto) : F_need_hall [.d (netD n ps), .d (.int h)] st = some (.ok (.d .none), st) := by
  have e : decide ((h : Int) ≤ (n : Int) - 1) = true := by simp; omega
  simp [F_need_hall, runB, startR, b_need_hall, netD, ix0, is_number_int, e]
/-! ### lists of ints by membership -/
theorem isort_lt {ks : List Int} (nd : ks.Nodup) : (isort ltI ks).Pairwise (· < ·) :=
  L2.lt_of_le_nodup _ (isort_pw (lt := ltI) (le := fun x y => x ≤ y) (fun x y h => by have h' : y < x := of_decide_eq_true h; omega) (fun x y h => by have h' : ¬ y < x := of_decide_eq_false h; omega) (fun x y z => Int.le_trans) ks) ((isort_perm ltI ks).nodup_iff.mpr nd)
theorem range_lt (n : Nat) : (List.range n).Pairwise (· < ·) := by
  rw [List.range_eq_range']
  exact List.pairwise_lt_range'
theorem cast_lt {l : List Nat} (h : l.Pairwise (· < ·)) : (l.map fun (i : Nat) => (i : Int)).Pairwise (· < ·) := List.pairwise_map.mpr (h.imp fun {a b} h => by omega)
theorem sorted_eq {ks : List Int} {l : List Nat} (nd : ks.Nodup) (sl : l.Pairwise (· < ·)) (h : ∀ z, z ∈ ks ↔ ∃ b ∈ l, z = (b : Int)) : isort ltI ks = l.map fun (i : Nat) => (i : Int) := by
  refine ssorted_ext _ _ (isort_lt nd) (cast_lt sl) fun k => ?_
  rw [(isort_perm ltI ks).mem_iff, h k, List.mem_map]
  constructor
  · rintro ⟨b, hb, e⟩
    exact ⟨b, hb, e.symm⟩
  · rintro ⟨b, hb, e⟩
    exact ⟨b, hb, e.symm⟩
theorem usort_eq {ks : List Int} {l : List Nat} (sl : l.Pairwise (· < ·)) (h : ∀ z, z ∈ ks ↔ ∃ b ∈ l, z = (b : Int)) : usort ks = l.map fun (i : Nat) => (i : Int) := by
  refine ssorted_ext _ _ (usort_pw ks) (cast_lt sl) fun k => ?_
  rw [usort_mem, h k, List.mem_map]
  constructor
  · rintro ⟨b, hb, e⟩
    exact ⟨b, hb, e.symm⟩
  · rintro ⟨b, hb, e⟩
    exact ⟨b, hb, e.symm⟩
/-- those of the numbers below m that are in it -/
def below (m : Nat) (ks : List Int) : List Nat := (List.range m).filter fun b => decide ((b : Int) ∈ ks)
theorem below_lt (m : Nat) (ks : List Int) : (below m ks).Pairwise (· < ·) := (range_lt m).filter _
theorem below_mem {m : Nat} {ks : List Int} (hb : ∀ z ∈ ks, ∃ b : Nat, b < m ∧ z = (b : Int)) : ∀ z, z ∈ ks ↔ ∃ b ∈ below m ks, z = (b : Int) := fun z => by
  constructor
  · intro hz
    obtain ⟨b, h1, rfl⟩ := hb z hz
    exact ⟨b, List.mem_filter.mpr ⟨List.mem_range.mpr h1, by simpa using hz⟩, rfl⟩
  · rintro ⟨b, hb, rfl⟩
    simpa using (List.mem_filter.mp hb).2
theorem below_len (m : Nat) (ks : List Int) : (below m ks).length ≤ m := by
  refine Nat.le_trans (List.length_filter_le _ _) ?_
  simp
theorem nodup_len {m : Nat} {ks : List Int} (nd : ks.Nodup) (hb : ∀ z ∈ ks, ∃ b : Nat, b < m ∧ z = (b : Int)) : ks.length ≤ m := by
  have e := sorted_eq nd (below_lt m ks) (below_mem hb)
  have := (isort_perm ltI ks).length_eq
  rw [e, List.length_map] at this
  rw [← this]
  exact below_len m ks
theorem ints_cast (l : List Int) : ints? (l.map PyData.int) = some l := by
  induction l with
  | nil => rfl
  | cons x r ih => simp [ints?, ih]
theorem intsD_map (l : List Nat) : (l.map fun (i : Nat) => (i : Int)).map PyData.int = intsD l := by
  unfold intsD
  rw [List.map_map]
  rfl
theorem ints_intsD (l : List Nat) : ints? (intsD l) = some (l.map fun (i : Nat) => (i : Int)) := by
  rw [← intsD_map, ints_cast]
/-! ### keys -/
theorem putKs_mem (ks : List Int) (i z : Int) : z ∈ putKs ks i ↔ z ∈ ks ∨ z = i := by
  unfold putKs
  split
  · rename_i h
    obtain ⟨k, hk, e⟩ := List.any_eq_true.mp h
    have e : k = i := by simpa using e
    constructor
    · exact .inl
    · rintro (h | h)
      · exact h
      · rw [h, ← e]
        exact hk
  · simp
theorem putKs_nd {ks : List Int} (i : Int) (nd : ks.Nodup) : (putKs ks i).Nodup := by
  unfold putKs
  split
  · exact nd
  · rename_i h
    refine List.nodup_append.mpr ⟨nd, by simp, fun x hx y hy => ?_⟩
    have : y = i := by simpa using hy
    subst this
    intro e
    subst e
    exact h (List.any_eq_true.mpr ⟨x, hx, by simp⟩)
theorem addF_ok {kss : List (List Int)} {i : Nat} {k : Int} {ks : List Int} (e : kss[i]? = some ks) (hl : ks.length < sizeLine) : addF kss i k = some (kss.set i (putKs ks k)) := by
  unfold addF
  rw [ixN_nat (List.getElem?_eq_some_iff.mp e).1]
  simp only [e]
  rw [if_pos hl]
theorem adj_cons (p : Pr) (ps : List Pr) (a b : Nat) : adj (p :: ps) a b = true ↔ (a, b) = p ∨ (b, a) = p ∨ adj ps a b = true := by
  unfold adj
  simp only [Bool.or_eq_true, decide_eq_true_eq, List.mem_cons]
  constructor
  · rintro ((h | h) | (h | h))
    · exact .inl h
    · exact .inr (.inr (.inl h))
    · exact .inr (.inl h)
    · exact .inr (.inr (.inr h))
  · rintro (h | h | h | h)
    · exact .inl (.inl h)
    · exact .inr (.inl h)
    · exact .inl (.inr h)
    · exact .inr (.inr h)
/-- one step of the walk -/
theorem flG_ok : ∀ (ps : List Pr) (kss : List (List Int)), (∀ p ∈ ps, p.1 < kss.length ∧ p.2 < kss.length ∧ p.1 ≠ p.2) → (∀ ks ∈ kss, ks.length + 2 * ps.length < sizeLine) →
    ∃ kss', flG (ps.map prD) kss = some kss' ∧ kss'.length = kss.length ∧ ∀ (a : Nat) (ks : List Int), kss[a]? = some ks → ∃ ks', kss'[a]? = some ks' ∧ (ks.Nodup → ks'.Nodup) ∧ ∀ z, z ∈ ks' ↔ z ∈ ks ∨ ∃ b : Nat, z = (b : Int) ∧ adj ps a b = true
  | [], kss, _, _ => ⟨kss, rfl, rfl, fun a ks e => ⟨ks, e, id, fun z => by simp [adj]⟩⟩
  | p :: ps, kss, hb, hl => by
    obtain ⟨b1, b2, b3⟩ := hb p List.mem_cons_self
    have g1 : kss[p.1]? = some kss[p.1] := List.getElem?_eq_getElem b1
    have g2 : kss[p.2]? = some kss[p.2] := List.getElem?_eq_getElem b2
    have l1 := hl _ (List.getElem_mem b1)
    have l2 := hl _ (List.getElem_mem b2)
    simp only [List.length_cons] at l1 l2
    have e1 := addF_ok (k := (p.2 : Int)) g1 (by omega)
    have g2' : (kss.set p.1 (putKs kss[p.1] (p.2 : Int)))[p.2]? = some kss[p.2] := by rw [List.getElem?_set_ne b3]; exact g2
    have e2 := addF_ok (k := (p.1 : Int)) g2' (by omega)
    generalize hk2 : (kss.set p.1 (putKs kss[p.1] (p.2 : Int))).set p.2 (putKs kss[p.2] (p.1 : Int)) = k2 at e2
    have len2 : k2.length = kss.length := by rw [← hk2]; simp
    obtain ⟨kss', f1, f2, f3⟩ := flG_ok ps k2 (fun q hq => by rw [len2]; exact hb q (List.mem_cons_of_mem _ hq)) (fun ks hks => by
      obtain ⟨j, hj⟩ := List.mem_iff_getElem?.mp hks
      have hj' : j < kss.length := by rw [← len2]; exact (List.getElem?_eq_some_iff.mp hj).1
      have hlj := hl _ (List.getElem_mem hj')
      simp only [List.length_cons] at hlj
      have p1 := putKs_len kss[p.1] (p.2 : Int)
      have p2 := putKs_len kss[p.2] (p.1 : Int)
      rw [← hk2] at hj
      by_cases c2 : p.2 = j
      · subst c2
        rw [List.getElem?_set_self (by rw [List.length_set]; exact b2)] at hj
        cases hj
        omega
      · rw [List.getElem?_set_ne c2] at hj
        by_cases c1 : p.1 = j
        · subst c1
          rw [List.getElem?_set_self b1] at hj
          cases hj
          omega
        · rw [List.getElem?_set_ne c1, List.getElem?_eq_getElem hj'] at hj
          cases hj
          omega)
    refine ⟨kss', ?_, by rw [f2, len2], fun a ks ea => ?_⟩
    · show flG (prD p :: ps.map prD) kss = _
      have pp : pair? (prD p) = some ((p.1 : Int), (p.2 : Int)) := rfl
      unfold flG
      simp only [pp, e1, e2]
      exact f1
    · have : ∃ ks2, k2[a]? = some ks2 ∧ (ks.Nodup → ks2.Nodup) ∧ ∀ z, z ∈ ks2 ↔ z ∈ ks ∨ ∃ b : Nat, z = (b : Int) ∧ ((a, b) = p ∨ (b, a) = p) := by
        by_cases c2 : p.2 = a
        · subst c2
          rw [g2] at ea
          cases ea
          refine ⟨putKs kss[p.2] (p.1 : Int), by rw [← hk2, List.getElem?_set_self (by rw [List.length_set]; exact b2)], fun nd => putKs_nd _ nd, fun z => ?_⟩
          rw [putKs_mem]
          constructor
          · rintro (h | h)
            · exact .inl h
            · exact .inr ⟨p.1, h, .inr rfl⟩
          · rintro (h | ⟨b, h, h2 | h2⟩)
            · exact .inl h
            · exact absurd (congrArg Prod.fst h2).symm b3
            · right
              rw [h, ← h2]
        · by_cases c1 : p.1 = a
          · subst c1
            rw [g1] at ea
            cases ea
            refine ⟨putKs kss[p.1] (p.2 : Int), by rw [← hk2, List.getElem?_set_ne c2, List.getElem?_set_self b1], fun nd => putKs_nd _ nd, fun z => ?_⟩
            rw [putKs_mem]
            constructor
            · rintro (h | h)
              · exact .inl h
              · exact .inr ⟨p.2, h, .inl rfl⟩
            · rintro (h | ⟨b, h, h2 | h2⟩)
              · exact .inl h
              · right
                rw [h, ← h2]
              · exact absurd (congrArg Prod.snd h2).symm c2
          · refine ⟨ks, by rw [← hk2, List.getElem?_set_ne c2, List.getElem?_set_ne c1]; exact ea, id, fun z => ?_⟩
            constructor
            · exact .inl
            · rintro (h | ⟨b, h, h2 | h2⟩)
              · exact h
              · exact absurd (congrArg Prod.fst h2).symm c1
              · exact absurd (congrArg Prod.snd h2).symm c2
      obtain ⟨ks2, h1, h2, h3⟩ := this
      obtain ⟨ks', h4, h5, h6⟩ := f3 a ks2 h1
      refine ⟨ks', h4, fun nd => h5 (h2 nd), fun z => ?_⟩
      rw [h6, h3]
      constructor
      · rintro ((h | ⟨b, h, q⟩) | ⟨b, h, q⟩)
        · exact .inl h
        · exact .inr ⟨b, h, (adj_cons p ps a b).mpr (q.elim .inl fun q => .inr (.inl q))⟩
        · exact .inr ⟨b, h, (adj_cons p ps a b).mpr (.inr (.inr q))⟩
      · rintro (h | ⟨b, h, q⟩)
        · exact .inl (.inl h)
        · rcases (adj_cons p ps a b).mp q with q | q | q
          · exact .inl (.inr ⟨b, h, .inl q⟩)
          · exact .inl (.inr ⟨b, h, .inr q⟩)
          · exact .inr ⟨b, h, q⟩
/-- kss tells the friends of each hall -/
structure Tells (n : Nat) (ps : List Pr) (kss : List (List Int)) : Prop where
  len : kss.length = n
  at_ : ∀ a : Nat, a < n → ∃ ks, kss[a]? = some ks ∧ ks.Nodup ∧ (∀ z, z ∈ ks ↔ ∃ b : Nat, z = (b : Int) ∧ adj ps a b = true) ∧ isort ltI ks = (nbr n ps a).map (fun (i : Nat) => (i : Int)) ∧ ks.length ≤ n
theorem adj_lt {n : Nat} {ps : List Pr} (N : Net n ps) {a b : Nat} (h : adj ps a b = true) : a < n ∧ b < n := by
  unfold adj at h
  simp only [Bool.or_eq_true, decide_eq_true_eq] at h
  rcases h with h | h
  · have := N.ok _ h
    simp only at this
    omega
  · have := N.ok _ h
    simp only at this
    omega
theorem adj_comm (ps : List Pr) (a b : Nat) : adj ps a b = adj ps b a := by
  unfold adj
  rw [Bool.or_comm]
theorem adj_irr {n : Nat} {ps : List Pr} (N : Net n ps) (a : Nat) : adj ps a a = false := by
  unfold adj
  have : (a, a) ∉ ps := fun h => by
    have := (N.ok _ h).1
    simp at this
  simp [this]
theorem nbr_lt (n : Nat) (ps : List Pr) (a : Nat) : (nbr n ps a).Pairwise (· < ·) := (range_lt n).filter _
theorem mem_nbr {n : Nat} {ps : List Pr} (N : Net n ps) {a b : Nat} : b ∈ nbr n ps a ↔ adj ps a b = true := by
  unfold nbr
  rw [List.mem_filter, List.mem_range]
  exact ⟨fun h => h.2, fun h => ⟨(adj_lt N h).2, h⟩⟩
theorem friend_lists_ok {n : Nat} {ps : List Pr} (N : Net n ps) : ∃ kss, Tells n ps kss ∧ ∀ st, F_friend_lists [.d (netD n ps)] st = some (.ok (.dl kss), st) := by
  have sl : (9000 : Nat) < sizeLine := by decide
  obtain ⟨kss, f1, f2, f3⟩ := flG_ok ps (List.replicate n []) (fun p hp => by
    have := N.ok p hp
    rw [List.length_replicate]
    omega) (fun ks hks => by
    have : ks = [] := List.eq_of_mem_replicate hks
    have := N.few
    subst ks
    simp
    omega)
  rw [List.length_replicate] at f2
  refine ⟨kss, ⟨f2, fun a ha => ?_⟩, fun st => ?_⟩
  · obtain ⟨ks, e1, e2, e3⟩ := f3 a [] (by rw [List.getElem?_replicate, if_pos ha])
    have e3 : ∀ z, z ∈ ks ↔ ∃ b : Nat, z = (b : Int) ∧ adj ps a b = true := fun z => by rw [e3 z]; simp
    have nd := e2 .nil
    refine ⟨ks, e1, nd, e3, sorted_eq nd (nbr_lt n ps a) fun z => ?_, nodup_len nd fun z hz => ?_⟩
    · rw [e3 z]
      constructor
      · rintro ⟨b, h, q⟩
        exact ⟨b, (mem_nbr N).mpr q, h⟩
      · rintro ⟨b, q, h⟩
        exact ⟨b, h, (mem_nbr N).mp q⟩
    · obtain ⟨b, h, q⟩ := (e3 z).mp hz
      exact ⟨b, (adj_lt N q).2, h⟩
  · have hn : -(2 ^ 62) ≤ (n : Int) ∧ (n : Int) < 2 ^ 62 ∧ (n : Int).toNat ≤ sizeLine ∧ (startR 5 [DV.d (netD n ps)]).length = 5 := by
      have := N.le
      refine ⟨by omega, by omega, ?_, rfl⟩
      rw [Int.toNat_natCast]
      omega
    have : b_friend_lists (startR 5 [DV.d (netD n ps)]) st = some (.fl (.rt (.dl kss)) (startR 5 [DV.d (netD n ps)]), st) := by
      show sFL (startR 5 [DV.d (netD n ps)]) st = _
      have g0 : (startR 5 [DV.d (netD n ps)])[(0 : Nat)]? = some (some (.d (.tuple [.int n, .tuple (ps.map prD)]))) := rfl
      unfold sFL
      simp only [g0]
      rw [if_pos hn, Int.toNat_natCast, f1]
    exact runB_rt this rfl
end ML
end
section
/-! PL3: friends, common, all_pairs, rest. -/
namespace ML
open PySem DL
theorem oIx_dl {kss : List (List Int)} {i : Nat} {ks : List Int} (h : kss[i]? = some ks) (st : Sto) : oIx (.dl kss) (.d (.int i)) st = some (.dk ks) := by
  simp only [oIx, res_d, atI_nat' h, Option.map]
theorem fSortA_dk {ks : List Int} (h : ks.length < 64) (st : Sto) : fSortA [.dk ks] st = some (.d (.list ((isort ltI ks).map .int))) := by
  simp only [fSortA, fSorted, if_pos h]
theorem fSortA_l {ds : List PyData} {ns : List Int} (h : ints? ds = some ns) (st : Sto) : fSortA [.d (.list ds)] st = some (.d (.list ((isort ltI ns).map .int))) := by
  simp only [fSortA, fSorted, sortedP, h, Option.map]
theorem fTup_l (ds : List PyData) (st : Sto) : fTup [.d (.list ds)] st = some (.d (.tuple ds)) := rfl
theorem fLen_l (ds : List PyData) (st : Sto) : fLen [.d (.list ds)] st = some (.d (.int ds.length)) := rfl
theorem fLen_t (ds : List PyData) (st : Sto) : fLen [.d (.tuple ds)] st = some (.d (.int ds.length)) := rfl
theorem friends_ok {n h : Nat} {ps : List Pr} (N : Net n ps) (hh : h < n) (st : Sto) : F_friends [.d (netD n ps), .d (.int h)] st = some (.ok (.d (.tuple (intsD (nbr n ps h)))), st) := by
  obtain ⟨kss, T, fe⟩ := friend_lists_ok N
  obtain ⟨ks, e1, nd, hm, es, hl⟩ := T.at_ h hh
  have h64 : ks.length < 64 := by have := N.le; omega
  have q := fSortA_dk h64 st
  rw [es, intsD_map] at q
  exact fRt rfl (yNx (yExpr (xCall (xCons (xVar rfl) xNil) (need_net_ok N _))) (yNx (yExpr (xCall (xCons (xVar rfl) (xCons (xVar rfl) xNil)) (need_hall_ok hh _)))
    (yRt (yRet (xCall (xCons (xCall (xCons (xOp (xCall (xCons (xVar rfl) xNil) (fe _)) (xVar rfl) (oIx_dl e1 _)) xNil) (xB q)) xNil) (xB (fTup_l _ _))))))) rfl
/-- the friends that two have in common -/
def com (n : Nat) (ps : List Pr) (a b : Nat) : List Nat := (List.range n).filter fun c => adj ps a c && adj ps b c
theorem com_lt (n : Nat) (ps : List Pr) (a b : Nat) : (com n ps a b).Pairwise (· < ·) := (range_lt n).filter _
theorem mem_com {n : Nat} {ps : List Pr} (N : Net n ps) {a b c : Nat} : c ∈ com n ps a b ↔ adj ps a c = true ∧ adj ps b c = true := by
  unfold com
  rw [List.mem_filter, List.mem_range, Bool.and_eq_true]
  exact ⟨fun h => h.2, fun h => ⟨(adj_lt N h.1).2, h⟩⟩
theorem com_comm (n : Nat) (ps : List Pr) (a b : Nat) : com n ps a b = com n ps b a := by
  unfold com
  congr 1
  funext c
  rw [Bool.and_comm]
theorem com_len (n : Nat) (ps : List Pr) (a b : Nat) : (com n ps a b).length ≤ n := by
  refine Nat.le_trans (List.length_filter_le _ _) ?_
  simp
/-- [hall for hall in lists[one] if hall in lists[other]] -/
theorem lcK_ok {kss : List (List Int)} {a b ix iy iz iv : Nat} {ka kb : List Int} {r : Rho} (e1 : kss[a]? = some ka) (e2 : kss[b]? = some kb) (r1 : r[ix]? = some (some (.dl kss))) (r2 : r[iy]? = some (some (.d (.int a)))) (r3 : r[iz]? = some (some (.d (.int b)))) (hv : iv < r.length)
    (n1 : iv ≠ ix) (n3 : iv ≠ iz) (hl : ka.length ≤ sizeLine) (st : Sto) :
    eLcK ix iy (gV iv) (tVal (eOp oIn (eVar iv) (eOp oIx (eVar ix) (eVar iz)))) (eVar iv) [iv] r st = some (.ok (.d (.list ((ka.filter fun z => decide (z ∈ kb)).map .int))), st) := by
  unfold eLcK
  simp only [r1, r2, atI_nat' e1]
  have q := eLc_pure (it := fun _ => DL.ret (ka.map fun k => .d (.int k))) (g := gV iv) (t := tVal (eOp oIn (eVar iv) (eOp oIx (eVar ix) (eVar iz)))) (e := eVar iv) (vs := [iv]) (r := r) (st := st) (xs := ka.map fun k => .d (.int k))
    (fun x => match x with | .d (.int k) => if k ∈ kb then some (.int k) else none | _ => none) rfl (by simpa using hl) (fun x hx st => ?_)
  · rw [q]
    have e : (ka.map fun k => DV.d (.int k)).filterMap (fun x => match x with | .d (.int k) => if k ∈ kb then some (.int k) else none | _ => none) = (ka.filter fun z => decide (z ∈ kb)).map PyData.int := by
      clear q hl e1
      induction ka with
      | nil => rfl
      | cons k ka ih =>
        rw [List.map_cons, List.filterMap_cons, List.filter_cons]
        by_cases hk : k ∈ kb
        · simp only [hk, if_true, decide_true, List.map_cons]
          rw [ih]
        · simp only [hk, if_false, decide_false, Bool.false_eq_true]
          exact ih
    rw [e]
  · obtain ⟨k, hk, rfl⟩ := List.mem_map.mp hx
    refine ⟨_, rfl, ?_⟩
    have w1 : ((wipeR r [iv]).set iv (some (DV.d (.int k))))[ix]? = some (some (.dl kss)) := by
      show ((r.set iv none).set iv _)[ix]? = _
      rw [List.getElem?_set_ne n1, List.getElem?_set_ne n1]
      exact r1
    have w3 : ((wipeR r [iv]).set iv (some (DV.d (.int k))))[iz]? = some (some (.d (.int b))) := by
      show ((r.set iv none).set iv _)[iz]? = _
      rw [List.getElem?_set_ne n3, List.getElem?_set_ne n3]
      exact r3
    have wv : ((wipeR r [iv]).set iv (some (DV.d (.int k))))[iv]? = some (some (.d (.int k))) := by
      show ((r.set iv none).set iv _)[iv]? = _
      rw [List.getElem?_set_self (by simpa using hv)]
    have ein : oIn (.d (.int k)) (.dk kb) st = some (.d (.bool (decide (k ∈ kb)))) := by
      simp only [oIn, inOf, Option.map]
      congr 3
      rw [Bool.eq_iff_iff, List.any_eq_true, decide_eq_true_eq]
      constructor
      · rintro ⟨y, hy, e⟩
        have : y = k := by simpa using e
        rw [← this]
        exact hy
      · intro h
        exact ⟨k, h, by simp⟩
    by_cases hk : k ∈ kb
    · rw [decide_eq_true hk] at ein
      exact .inr ⟨.int k, by simp [hk], xTVal (xOp (xVar wv) (xOp (xVar w1) (xVar w3) (oIx_dl e2 _)) ein), xVar wv⟩
    · rw [decide_eq_false hk] at ein
      exact .inl ⟨by simp [hk], xTVal (xOp (xVar wv) (xOp (xVar w1) (xVar w3) (oIx_dl e2 _)) ein)⟩
/-- as a set -/
theorem filt_mem {n a b : Nat} {ps : List Pr} (N : Net n ps) {ka kb : List Int} (ha : ∀ z, z ∈ ka ↔ ∃ b : Nat, z = (b : Int) ∧ adj ps a b = true) (hb : ∀ z, z ∈ kb ↔ ∃ c : Nat, z = (c : Int) ∧ adj ps b c = true) :
    ∀ z, z ∈ (ka.filter fun z => decide (z ∈ kb)) ↔ ∃ c ∈ com n ps a b, z = (c : Int) := fun z => by
  rw [List.mem_filter, decide_eq_true_eq, ha z, hb z]
  constructor
  · rintro ⟨⟨c, e, h1⟩, ⟨d, e2, h2⟩⟩
    have : c = d := by omega
    subst this
    exact ⟨c, (mem_com N).mpr ⟨h1, h2⟩, e⟩
  · rintro ⟨c, hc, e⟩
    obtain ⟨h1, h2⟩ := (mem_com N).mp hc
    exact ⟨⟨c, e, h1⟩, ⟨c, e, h2⟩⟩
theorem common_ok {n a b : Nat} {ps : List Pr} (N : Net n ps) (ha : a < n) (hb : b < n) (st : Sto) : F_common [.d (netD n ps), .d (.int a), .d (.int b)] st = some (.ok (.d (.tuple (intsD (com n ps a b)))), st) := by
  obtain ⟨kss, T, fe⟩ := friend_lists_ok N
  obtain ⟨ka, e1, nd1, hm1, es1, hl1⟩ := T.at_ a ha
  obtain ⟨kb, e2, nd2, hm2, es2, hl2⟩ := T.at_ b hb
  have sl : ka.length ≤ sizeLine := big (by have := N.le; omega)
  have q := fun st => lcK_ok (r := [some (.d (netD n ps)), some (.d (.int a)), some (.d (.int b)), some (.dl kss), none]) (ix := 3) (iy := 1) (iz := 2) (iv := 4) e1 e2 rfl rfl rfl (by show 4 < 5; decide) (by decide) (by decide) sl st
  have so := sorted_eq (nd1.filter _) (com_lt n ps a b) (filt_mem N hm1 hm2)
  have q2 := fSortA_l (ints_cast (ka.filter fun z => decide (z ∈ kb))) st
  rw [so, intsD_map] at q2
  exact fRt rfl (yNx (yExpr (xCall (xCons (xVar rfl) xNil) (need_net_ok N _))) (yNx (yExpr (xCall (xCons (xVar rfl) (xCons (xVar rfl) xNil)) (need_hall_ok ha _))) (yNx (yExpr (xCall (xCons (xVar rfl) (xCons (xVar rfl) xNil)) (need_hall_ok hb _)))
    (yNx (ySet (xCall (xCons (xVar rfl) xNil) (fe _))) (yRt (yRet (xCall (xCons (xCall (xCons (q _) xNil) (xB q2)) xNil) (xB (fTup_l _ _)))))))) ) rfl
end ML
end
section
/-! PL4: all pairs, the rest. -/
namespace DL
open PySem
theorem lcL2_pure {k : Nat} {g : GF} {t : TF} {it1 : IF} {g1 : GF} {t1 : TF} {e : EF} {vs1 : List Nat} {r : Rho} (f : DV → List PyData) : ∀ (xs : List DV) (st : Sto) (acc : List PyData), st[k]? = some (.lst acc) → acc.length + (xs.flatMap f).length ≤ sizeLine →
    (∀ x ∈ xs, ∀ (st : Sto) (acc : List PyData), st[k]? = some (.lst acc) → acc.length + (f x).length ≤ sizeLine → ∃ r1 ys, g x r st = some r1 ∧ t r1 st = some (.ok true, st) ∧ it1 r1 st = some (.ok ys, st) ∧ lcL k g1 t1 e (wipeR r1 vs1) ys st = some (st.set k (.lst (acc ++ f x)))) →
    lcL2 k g t it1 g1 t1 e vs1 r xs st = some (st.set k (.lst (acc ++ xs.flatMap f)))
  | [], st, acc, h, _, _ => by
    unfold lcL2
    have hk := (List.getElem?_eq_some_iff.mp h)
    simp only [List.flatMap_nil, List.append_nil]
    rw [← hk.2, List.set_getElem_self]
  | x :: xs, st, acc, h, hl, hs => by
    have hk := (List.getElem?_eq_some_iff.mp h).1
    simp only [List.flatMap_cons, List.length_append] at hl
    obtain ⟨r1, ys, e1, e2, e3, e4⟩ := hs x List.mem_cons_self st acc h (by omega)
    unfold lcL2
    simp only [e1, e2, e3, e4]
    rw [lcL2_pure f xs (st.set k (.lst (acc ++ f x))) (acc ++ f x) (by rw [List.getElem?_set_self hk]) (by rw [List.length_append]; omega) fun y hy => hs y (List.mem_cons_of_mem _ hy)]
    simp
theorem eLc2_pure {it : IF} {g : GF} {t : TF} {it1 : IF} {g1 : GF} {t1 : TF} {e : EF} {vs vs1 : List Nat} {r : Rho} {xs : List DV} {st : Sto} (f : DV → List PyData) (hi : it r st = some (.ok xs, st)) (hl : (xs.flatMap f).length ≤ sizeLine)
    (hs : ∀ x ∈ xs, ∀ (k : Nat) (st : Sto) (acc : List PyData), st[k]? = some (.lst acc) → acc.length + (f x).length ≤ sizeLine → ∃ r1 ys, g x (wipeR r vs) st = some r1 ∧ t r1 st = some (.ok true, st) ∧ it1 r1 st = some (.ok ys, st) ∧ lcL k g1 t1 e (wipeR r1 vs1) ys st = some (st.set k (.lst (acc ++ f x)))) :
    eLc2 it g t it1 g1 t1 e vs vs1 r st = some (.ok (.d (.list (xs.flatMap f))), st) := by
  show DL.bnd (it r) _ st = _
  simp only [bnd_at, hi]
  have q := lcL2_pure (k := st.length) f xs (st ++ [Ct.lst []]) [] (by simp) (by simpa using hl) fun x hx => hs x hx st.length
  simp only [q]
  simp
end DL
namespace ML
open PySem DL
/-- all pairs of n halls, ascending -/
def allP (n : Nat) : List Pr := (List.range n).flatMap fun a => (List.range (n - (a + 1))).map fun i => (a, a + 1 + i)
theorem mem_allP {n : Nat} {p : Pr} : p ∈ allP n ↔ p.1 < p.2 ∧ p.2 < n := by
  unfold allP
  rw [List.mem_flatMap]
  constructor
  · rintro ⟨a, ha, h⟩
    obtain ⟨i, hi, rfl⟩ := List.mem_map.mp h
    rw [List.mem_range] at ha hi
    simp only
    omega
  · intro ⟨h1, h2⟩
    refine ⟨p.1, List.mem_range.mpr (by omega), List.mem_map.mpr ⟨p.2 - (p.1 + 1), List.mem_range.mpr (by omega), ?_⟩⟩
    ext
    · rfl
    · simp only
      omega
theorem flat_le {α β : Type} (f : α → List β) (m : Nat) : ∀ l : List α, (∀ x ∈ l, (f x).length ≤ m) → (l.flatMap f).length ≤ l.length * m
  | [], _ => by simp
  | x :: l, h => by
    rw [List.flatMap_cons, List.length_append, List.length_cons, Nat.succ_mul]
    have h1 := flat_le f m l fun y hy => h y (List.mem_cons_of_mem _ hy)
    have h2 := h x List.mem_cons_self
    omega
theorem allP_len (n : Nat) : (allP n).length ≤ n * n := by
  have := flat_le (fun a => (List.range (n - (a + 1))).map fun i => ((a, a + 1 + i) : Pr)) n (List.range n) fun a _ => by
    rw [List.length_map, List.length_range]
    omega
  rwa [List.length_range] at this
theorem allP_big {n : Nat} (h : n ≤ 60) : (allP n).length ≤ 3600 := Nat.le_trans (allP_len n) (Nat.mul_le_mul h h)
theorem ltPr_trans {p q s : Pr} (h : ltPr p q) (k : ltPr q s) : ltPr p s := by
  unfold ltPr at *
  omega
theorem allP_srt (n : Nat) : (allP n).Pairwise ltPr := by
  unfold allP
  rw [List.pairwise_flatMap]
  refine ⟨fun a _ => List.pairwise_map.mpr ((range_lt _).imp fun {i j} h => .inr ⟨rfl, by simp only; omega⟩), (range_lt n).imp fun {a b} h x hx y hy => ?_⟩
  obtain ⟨i, _, rfl⟩ := List.mem_map.mp hx
  obtain ⟨j, _, rfl⟩ := List.mem_map.mp hy
  exact .inl h
/-- the pairs of a, by the mirror's walk -/
theorem rng_flat (n : Nat) : (rng 0 n).flatMap (fun x => match x with | .d (.int a) => ((List.range (n - (a.toNat + 1))).map fun i => prD (a.toNat, a.toNat + 1 + i)) | _ => []) = (allP n).map prD := by
  unfold rng allP
  rw [List.flatMap_map, List.map_flatMap]
  congr 1
  funext a
  rw [List.map_map]
  simp only [Int.zero_add, Int.toNat_natCast]
  rfl
/-- [(one, other) for other in range(one + 1, n)] -/
theorem inner_ok {k : Nat} {g1 : GF} {t1 : TF} {e : EF} {r : Rho} {ys : List DV} {ds : List PyData} {st : Sto} {acc : List PyData} (h : st[k]? = some (.lst acc)) (hl : acc.length + ys.length ≤ sizeLine) (f : DV → PyData) (hd : ds = ys.map f)
    (hs : ∀ x ∈ ys, ∀ st : Sto, ∃ r1, g1 x r st = some r1 ∧ t1 r1 st = some (.ok true, st) ∧ e r1 st = some (.ok (.d (f x)), st)) : lcL k g1 t1 e r ys st = some (st.set k (.lst (acc ++ ds))) := by
  have q := lcL_pure (k := k) (g := g1) (t := t1) (e := e) (r := r) (fun x => some (f x)) ys st acc h hl fun x hx st => by
    obtain ⟨r1, e1, e2, e3⟩ := hs x hx st
    exact ⟨r1, e1, .inr ⟨f x, rfl, e2, e3⟩⟩
  rw [q, hd]
  congr 4
  clear q hs hl h hd
  induction ys with
  | nil => rfl
  | cons y ys ih => simp [ih]
theorem all_pairs_ok {n : Nat} (hn : n ≤ 60) (st : Sto) : F_all_pairs [.d (.int n)] st = some (.ok (.d (.list ((allP n).map prD))), st) := by
  have q : ∀ st, eLc2 (iRg1 (eVar 0)) (gV 1) (tYesF) (iRg2 (eOp oAdd (eVar 1) (eC (.int 1))) (eVar 0)) (gV 2) (tYesF) (eTup (aCons (eVar 1) (aCons (eVar 2) (aNil)))) [1, 2] [2] [some (.d (.int n)), none, none] st = some (.ok (.d (.list ((allP n).map prD))), st) := fun st => by
    rw [← rng_flat n]
    refine eLc2_pure _ (zRg1 (xVar rfl) (by omega)) ?_ fun x hx k st acc hk hl => ?_
    · rw [rng_flat, List.length_map]
      exact Nat.le_trans (allP_big hn) (big (by omega))
    · obtain ⟨a, ha, rfl⟩ := rng_mem hx
      have e2 : iRg2 (eOp oAdd (eVar 1) (eC (.int 1))) (eVar 0) [some (.d (.int n)), some (.d (.int a)), none] st = some (.ok (rng ((a + 1 : Nat) : Int) (n - (a + 1))), st) := zRg2 (xOp (xVar rfl) xC (oAdd_ii _ _ _)) (xVar rfl) (by omega) (by omega)
      refine ⟨[some (.d (.int n)), some (.d (.int a)), none], _, rfl, rfl, e2, ?_⟩
      refine inner_ok hk ?_ (fun y => match y with | .d (.int z) => prD (a, z.toNat) | _ => .none) ?_ fun y hy st => ?_
      · simpa [rng] using hl
      · simp only [rng, List.map_map, Int.toNat_natCast]
        refine List.map_congr_left fun i _ => ?_
        simp only [Function.comp]
        congr 2
      · obtain ⟨i, hi, rfl⟩ := List.mem_map.mp hy
        refine ⟨_, rfl, rfl, ?_⟩
        have e3 : ((((a + 1 : Nat) : Int) + (i : Int)).toNat : Int) = ((a + 1 : Nat) : Int) + (i : Int) := by omega
        have : prD (a, (((a + 1 : Nat) : Int) + (i : Int)).toNat) = .tuple [.int a, .int (((a + 1 : Nat) : Int) + (i : Int))] := by
          unfold prD
          simp only [e3]
        show eTup _ _ st = some (.ok (.d (prD (a, (((a + 1 : Nat) : Int) + (i : Int)).toNat))), st)
        rw [this]
        exact xTup (xCons (xVar rfl) (xCons (xVar rfl) xNil)) rfl (by show 2 ≤ sizeLine; decide)
  exact fRt rfl (yRt (yRet (q st))) rfl
/-- the pairs that a net leaves out -/
def restP (n : Nat) (ps : List Pr) : List Pr := (allP n).filter fun p => !adj ps p.1 p.2
theorem rest_net {n : Nat} {ps : List Pr} (N : Net n ps) : Net n (restP n ps) :=
  ⟨N.pos, N.le, fun p hp => mem_allP.mp (List.mem_filter.mp hp).1, (allP_srt n).filter _, by
    refine Nat.le_trans (List.length_filter_le _ _) (Nat.le_trans (allP_big N.le) (by omega))⟩
theorem filt_map {α : Type} (l : List α) (f : α → PyData) (c : α → Bool) (g : DV → Option PyData) (hg : ∀ x ∈ l, g (.d (f x)) = if c x = true then some (f x) else none) : ((l.map f).map DV.d).filterMap g = (l.filter c).map f := by
  induction l with
  | nil => rfl
  | cons x l ih =>
    have h := hg x List.mem_cons_self
    rw [List.map_cons, List.map_cons, List.filter_cons]
    by_cases hc : c x = true
    · rw [if_pos hc] at h ⊢
      rw [List.filterMap_cons_some h, List.map_cons, ih fun y hy => hg y (List.mem_cons_of_mem _ hy)]
    · rw [if_neg hc] at h ⊢
      rw [List.filterMap_cons_none h, ih fun y hy => hg y (List.mem_cons_of_mem _ hy)]
theorem rest_ok {n : Nat} {ps : List Pr} (N : Net n ps) (st : Sto) : F_rest [.d (netD n ps)] st = some (.ok (.d (netD n (restP n ps))), st) := by
  obtain ⟨kss, T, fe⟩ := friend_lists_ok N
  have q : ∀ st, eLc (iSeq (eCall F_all_pairs (aCons (eOp oIx (eVar 0) (eC (.int 0))) (aNil)))) (gV 2) (tVal (eOp oNotIn (eOp oIx (eVar 2) (eC (.int 1))) (eOp oIx (eVar 1) (eOp oIx (eVar 2) (eC (.int 0)))))) (eVar 2) [2] [some (.d (netD n ps)), some (.dl kss), none] st = some (.ok (.d (.list ((restP n ps).map prD))), st) := fun st => by
    have e := filt_map (allP n) prD (fun p => !adj ps p.1 p.2) (fun (x : DV) => match x with | .d (.tuple [.int a, .int b]) => if (!adj ps a.toNat b.toNat) = true then some (.tuple [.int a, .int b]) else none | _ => none) fun p _ => rfl
    show _ = some (Rs.ok (DV.d (.list (((allP n).filter fun p => !adj ps p.1 p.2).map prD))), st)
    rw [← e]
    refine eLc_pure _ (zSeq (xCall (xCons (xOp (xVar rfl) xC (ix0 _ _ _)) xNil) (all_pairs_ok N.le _)) rfl) ?_ fun x hx st => ?_
    · rw [List.length_map, List.length_map]
      exact Nat.le_trans (allP_big N.le) (big (by omega))
    · obtain ⟨y, hy, rfl⟩ := List.mem_map.mp hx
      obtain ⟨p, hp, rfl⟩ := List.mem_map.mp hy
      obtain ⟨h1, h2⟩ := mem_allP.mp hp
      obtain ⟨ks, k1, _, k3, _, _⟩ := T.at_ p.1 (by omega)
      have ein : oNotIn (.d (.int p.2)) (.dk ks) st = some (.d (.bool (!adj ps p.1 p.2))) := by
        simp only [oNotIn, inOf, Option.map]
        congr 4
        rw [Bool.eq_iff_iff, List.any_eq_true]
        constructor
        · rintro ⟨z, hz, e⟩
          have e : z = (p.2 : Int) := by simpa using e
          obtain ⟨b, e2, h⟩ := (k3 z).mp hz
          have : b = p.2 := by omega
          rw [← this]
          exact h
        · intro h
          exact ⟨(p.2 : Int), (k3 _).mpr ⟨p.2, rfl, h⟩, by simp⟩
      refine ⟨[some (.d (netD n ps)), some (.dl kss), some (.d (prD p))], rfl, ?_⟩
      have ht : tVal (eOp oNotIn (eOp oIx (eVar 2) (eC (.int 1))) (eOp oIx (eVar 1) (eOp oIx (eVar 2) (eC (.int 0))))) [some (.d (netD n ps)), some (.dl kss), some (.d (prD p))] st = some (.ok (!adj ps p.1 p.2), st) :=
        xTVal (xOp (xOp (xVar rfl) xC (ix1 _ _ _)) (xOp (xVar rfl) (xOp (xVar rfl) xC (ix0 _ _ _)) (oIx_dl k1 _)) ein)
      cases ha : adj ps p.1 p.2 with
      | true =>
        rw [ha] at ht
        refine .inl ⟨?_, ht⟩
        show (if (!adj ps (p.1 : Int).toNat (p.2 : Int).toNat) = true then _ else none) = none
        rw [Int.toNat_natCast, Int.toNat_natCast, ha]
        rfl
      | false =>
        rw [ha] at ht
        refine .inr ⟨prD p, ?_, ht, xVar rfl⟩
        show (if (!adj ps (p.1 : Int).toNat (p.2 : Int).toNat) = true then _ else none) = _
        rw [Int.toNat_natCast, Int.toNat_natCast, ha]
        rfl
  exact fRt rfl (yNx (yExpr (xCall (xCons (xVar rfl) xNil) (need_net_ok N _))) (yNx (ySet (xCall (xCons (xVar rfl) xNil) (fe _))) (yRt (yRet (xTup (xCons (xOp (xVar rfl) xC (ix0 _ _ _)) (xCons (xCall (xCons (q _) xNil) (xB (fTup_l _ _))) xNil)) rfl (by show 2 ≤ sizeLine; decide)))))) rfl
end ML
end
section
/-! PL5: counts. -/
namespace ML
open PySem DL
def cnt (n : Nat) (ps : List Pr) (a b : Nat) : Nat := (com n ps a b).length
theorem cnt_comm (n : Nat) (ps : List Pr) (a b : Nat) : cnt n ps a b = cnt n ps b a := by unfold cnt; rw [com_comm]
theorem cnt_le (n : Nat) (ps : List Pr) (a b : Nat) : cnt n ps a b < n + 1 := Nat.lt_succ_of_le (com_len n ps a b)
/-- distinct numbers up to n -/
structure Sm (n : Nat) (js : List Int) : Prop where
  nd : js.Nodup
  bd : ∀ z ∈ js, ∃ b : Nat, b < n + 1 ∧ z = (b : Int)
theorem Sm.len {n : Nat} {js : List Int} (s : Sm n js) : js.length ≤ n + 1 := nodup_len s.nd s.bd
theorem Sm.put {n b : Nat} {js : List Int} (s : Sm n js) (h : b < n + 1) : Sm n (putKs js (b : Int)) := ⟨putKs_nd _ s.nd, fun z hz => by
  rcases (putKs_mem js _ z).mp hz with h2 | h2
  · exact s.bd z h2
  · exact ⟨b, h, h2⟩⟩
theorem Sm.nil {n : Nat} : Sm n [] := ⟨.nil, fun z h => by simp at h⟩
theorem in_dk {ka : List Int} {n a o : Nat} {ps : List Pr} (k3 : ∀ z, z ∈ ka ↔ ∃ b : Nat, z = (b : Int) ∧ adj ps a b = true) (st : Sto) : oIn (.d (.int o)) (.dk ka) st = some (.d (.bool (adj ps a o))) := by
  simp only [oIn, inOf, Option.map]
  congr 3
  rw [Bool.eq_iff_iff, List.any_eq_true]
  constructor
  · rintro ⟨z, hz, e⟩
    have e : z = (o : Int) := by simpa using e
    obtain ⟨b, e2, h⟩ := (k3 z).mp hz
    have : b = o := by omega
    rw [← this]
    exact h
  · intro h
    exact ⟨(o : Int), (k3 _).mpr ⟨o, rfl, h⟩, by simp⟩
theorem put_j {st : Sto} {js as : List Int} {m : Int} (h : js.length < sizeLine) : putS (st ++ [.dk js, .dk as]) st.length (.int m) (.bool true) = some (st ++ [.dk (putKs js m), .dk as]) := by
  have e : (st ++ [Ct.dk js, .dk as])[st.length]? = some (.dk js) := by simp
  unfold putS
  simp only [e, if_pos h]
  simp
theorem put_a {st : Sto} {js as : List Int} {m : Int} (h : as.length < sizeLine) : putS (st ++ [.dk js, .dk as]) (st.length + 1) (.int m) (.bool true) = some (st ++ [.dk js, .dk (putKs as m)]) := by
  have e : (st ++ [Ct.dk js, .dk as])[st.length + 1]? = some (.dk as) := by simp
  unfold putS
  simp only [e, if_pos h]
  simp
abbrev ctB : SF := sSeq (sSet 6 (eCall (fB fLen) (aCons (eLcK 1 4 (gV 7) (tVal (eOp oIn (eVar 7) (eOp oIx (eVar 1) (eVar 5)))) (eVar 7) [7]) aNil))) (sSeq (sIf (tVal (eOp oIn (eVar 5) (eOp oIx (eVar 1) (eVar 4)))) (sSeq (sPut (eC (.bool true)) (eVar 2) (eVar 6)) (sNx)) (sSeq (sPut (eC (.bool true)) (eVar 3) (eVar 6)) (sNx))) (sNx))
theorem filt_len {n a b : Nat} {ps : List Pr} (N : Net n ps) {ka kb : List Int} (nd : ka.Nodup) (ha : ∀ z, z ∈ ka ↔ ∃ b : Nat, z = (b : Int) ∧ adj ps a b = true) (hb : ∀ z, z ∈ kb ↔ ∃ c : Nat, z = (c : Int) ∧ adj ps b c = true) :
    (ka.filter fun z => decide (z ∈ kb)).length = cnt n ps a b := by
  have so := sorted_eq (nd.filter _) (com_lt n ps a b) (filt_mem N ha hb)
  have := (isort_perm ltI (ka.filter fun z => decide (z ∈ kb))).length_eq
  rw [so, List.length_map] at this
  exact this.symm
section
variable {n : Nat} {ps : List Pr} {kss : List (List Int)} {st : Sto} {a : Nat} {nv : DV}
theorem ct_inner (N : Net n ps) (T : Tells n ps kss) (ha : a < n) : ∀ (os : List Nat) (js as : List Int) (x5 x6 x7 : Option DV), (∀ o ∈ os, o < n) → Sm n js → Sm n as →
    ∃ js' as' x5' x6' x7', forL (gV 5) ctB (os.map fun (o : Nat) => .d (.int o)) [some nv, some (.dl kss), some (.mu st.length), some (.mu (st.length + 1)), some (.d (.int a)), x5, x6, x7] (st ++ [.dk js, .dk as]) =
      some (.fl .nx [some nv, some (.dl kss), some (.mu st.length), some (.mu (st.length + 1)), some (.d (.int a)), x5', x6', x7'], st ++ [.dk js', .dk as']) ∧ Sm n js' ∧ Sm n as' ∧
      (∀ z, z ∈ js' ↔ z ∈ js ∨ ∃ o ∈ os, adj ps a o = true ∧ z = (cnt n ps a o : Int)) ∧ (∀ z, z ∈ as' ↔ z ∈ as ∨ ∃ o ∈ os, adj ps a o = false ∧ z = (cnt n ps a o : Int))
  | [], js, as, x5, x6, x7, _, s1, s2 => ⟨js, as, x5, x6, x7, rfl, s1, s2, fun z => by simp, fun z => by simp⟩
  | o :: os, js, as, x5, x6, x7, ho, s1, s2 => by
    have hn := N.le
    obtain ⟨ka, e1, nd1, hm1, es1, hl1⟩ := T.at_ a ha
    obtain ⟨kb, e2, nd2, hm2, es2, hl2⟩ := T.at_ o (ho o List.mem_cons_self)
    have sl : ka.length ≤ sizeLine := big (by omega)
    have bj : js.length < sizeLine := Nat.lt_of_le_of_lt s1.len (Nat.lt_of_lt_of_le (by omega : n + 1 < 4001) (by decide))
    have ba : as.length < sizeLine := Nat.lt_of_le_of_lt s2.len (Nat.lt_of_lt_of_le (by omega : n + 1 < 4001) (by decide))
    have lc : ∀ st', eLcK 1 4 (gV 7) (tVal (eOp oIn (eVar 7) (eOp oIx (eVar 1) (eVar 5)))) (eVar 7) [7] [some nv, some (.dl kss), some (.mu st.length), some (.mu (st.length + 1)), some (.d (.int a)), some (.d (.int o)), x6, x7] st' = some (.ok (.d (.list ((ka.filter fun z => decide (z ∈ kb)).map .int))), st') := fun st' =>
      lcK_ok (r := [some nv, some (.dl kss), some (.mu st.length), some (.mu (st.length + 1)), some (.d (.int a)), some (.d (.int o)), x6, x7]) (ix := 1) (iy := 4) (iz := 5) (iv := 7) e1 e2 rfl rfl rfl (by show 7 < 8; decide) (by decide) (by decide) sl st'
    have ln : ∀ st', fLen [.d (.list ((ka.filter fun z => decide (z ∈ kb)).map PyData.int))] st' = some (.d (.int (cnt n ps a o : Nat))) := fun st' => by
      rw [fLen_l, List.length_map, filt_len N nd1 hm1 hm2]
    have hc := cnt_le n ps a o
    have body : ∃ js1 as1, ctB [some nv, some (.dl kss), some (.mu st.length), some (.mu (st.length + 1)), some (.d (.int a)), some (.d (.int o)), x6, x7] (st ++ [.dk js, .dk as]) = some (.fl .nx [some nv, some (.dl kss), some (.mu st.length), some (.mu (st.length + 1)), some (.d (.int a)), some (.d (.int o)), some (.d (.int (cnt n ps a o : Nat))), x7], st ++ [.dk js1, .dk as1]) ∧ Sm n js1 ∧ Sm n as1 ∧
        (∀ z, z ∈ js1 ↔ z ∈ js ∨ (adj ps a o = true ∧ z = (cnt n ps a o : Int))) ∧ (∀ z, z ∈ as1 ↔ z ∈ as ∨ (adj ps a o = false ∧ z = (cnt n ps a o : Int))) := by
      have tin : ∀ st', tVal (eOp oIn (eVar 5) (eOp oIx (eVar 1) (eVar 4))) [some nv, some (.dl kss), some (.mu st.length), some (.mu (st.length + 1)), some (.d (.int a)), some (.d (.int o)), some (.d (.int (cnt n ps a o : Nat))), x7] st' = some (.ok (adj ps a o), st') := fun st' =>
        xTVal (xOp (xVar rfl) (xOp (xVar rfl) (xVar rfl) (oIx_dl e1 _)) (in_dk (n := n) hm1 _))
      cases h : adj ps a o with
      | true =>
        rw [h] at tin
        refine ⟨putKs js (cnt n ps a o : Nat), as, yNx (ySet (xCall (xCons (lc _) xNil) (xB (ln _)))) (yNx (yIfT (tin _) (yNx (yPut xC (xVar rfl) (xVar rfl) (put_j bj)) yEnd)) yEnd), s1.put hc, s2, fun z => ?_, fun z => ?_⟩
        · rw [putKs_mem]
          simp
        · simp
      | false =>
        rw [h] at tin
        refine ⟨js, putKs as (cnt n ps a o : Nat), yNx (ySet (xCall (xCons (lc _) xNil) (xB (ln _)))) (yNx (yIfF (tin _) (yNx (yPut xC (xVar rfl) (xVar rfl) (put_a ba)) yEnd)) yEnd), s1, s2.put hc, fun z => ?_, fun z => ?_⟩
        · simp
        · rw [putKs_mem]
          simp
    obtain ⟨js1, as1, b1, b2, b3, b4, b5⟩ := body
    obtain ⟨js', as', x5', x6', x7', f1, f2, f3, f4, f5⟩ := ct_inner N T ha os js1 as1 (some (.d (.int o))) (some (.d (.int (cnt n ps a o : Nat)))) x7 (fun q hq => ho q (List.mem_cons_of_mem _ hq)) b2 b3
    refine ⟨js', as', x5', x6', x7', ?_, f2, f3, fun z => ?_, fun z => ?_⟩
    · rw [List.map_cons, forL_nx rfl b1]
      exact f1
    · rw [f4, b4]
      simp only [List.mem_cons, exists_eq_or_imp, or_assoc]
    · rw [f5, b5]
      simp only [List.mem_cons, exists_eq_or_imp, or_assoc]
theorem ct_outer (N : Net n ps) (T : Tells n ps kss) : ∀ (ls : List Nat) (js as : List Int) (x4 x5 x6 x7 : Option DV), (∀ a ∈ ls, a < n) → Sm n js → Sm n as →
    ∃ js' as' x4' x5' x6' x7', forL (gV 4) (sSeq (sFor (iRg1 (eVar 4)) (gV 5) ctB) sNx) (ls.map fun (o : Nat) => .d (.int o)) [some nv, some (.dl kss), some (.mu st.length), some (.mu (st.length + 1)), x4, x5, x6, x7] (st ++ [.dk js, .dk as]) =
      some (.fl .nx [some nv, some (.dl kss), some (.mu st.length), some (.mu (st.length + 1)), x4', x5', x6', x7'], st ++ [.dk js', .dk as']) ∧ Sm n js' ∧ Sm n as' ∧
      (∀ z, z ∈ js' ↔ z ∈ js ∨ ∃ a ∈ ls, ∃ o, o < a ∧ adj ps a o = true ∧ z = (cnt n ps a o : Int)) ∧ (∀ z, z ∈ as' ↔ z ∈ as ∨ ∃ a ∈ ls, ∃ o, o < a ∧ adj ps a o = false ∧ z = (cnt n ps a o : Int))
  | [], js, as, x4, x5, x6, x7, _, s1, s2 => ⟨js, as, x4, x5, x6, x7, rfl, s1, s2, fun z => by simp, fun z => by simp⟩
  | a :: ls, js, as, x4, x5, x6, x7, ho, s1, s2 => by
    have hn := N.le
    have ha := ho a List.mem_cons_self
    obtain ⟨js1, as1, y5, y6, y7, b1, b2, b3, b4, b5⟩ := ct_inner (nv := nv) (st := st) N T ha (List.range a) js as x5 x6 x7 (fun o h => Nat.lt_trans (List.mem_range.mp h) ha) s1 s2
    obtain ⟨js', as', x4', x5', x6', x7', f1, f2, f3, f4, f5⟩ := ct_outer N T ls js1 as1 (some (.d (.int a))) y5 y6 y7 (fun q hq => ho q (List.mem_cons_of_mem _ hq)) b2 b3
    have rg : (List.range a).map (fun (o : Nat) => DV.d (.int o)) = rng 0 a := by unfold rng; simp
    rw [rg] at b1
    have step : sSeq (sFor (iRg1 (eVar 4)) (gV 5) ctB) sNx [some nv, some (.dl kss), some (.mu st.length), some (.mu (st.length + 1)), some (.d (.int a)), x5, x6, x7] (st ++ [.dk js, .dk as]) = some (.fl .nx [some nv, some (.dl kss), some (.mu st.length), some (.mu (st.length + 1)), some (.d (.int a)), y5, y6, y7], st ++ [.dk js1, .dk as1]) :=
      yNx (yFor (zRg1 (xVar rfl) (by omega)) b1) yEnd
    refine ⟨js', as', x4', x5', x6', x7', ?_, f2, f3, fun z => ?_, fun z => ?_⟩
    · rw [List.map_cons, forL_nx rfl step]
      exact f1
    · rw [f4, b4]
      simp only [List.mem_cons, exists_eq_or_imp, or_assoc, List.mem_range]
    · rw [f5, b5]
      simp only [List.mem_cons, exists_eq_or_imp, or_assoc, List.mem_range]
end
/-- the numbers of common friends of the pairs that are joined; that are not -/
def jl (n : Nat) (ps : List Pr) : List Nat := ((allP n).filter fun p => adj ps p.1 p.2).map fun p => cnt n ps p.1 p.2
def al (n : Nat) (ps : List Pr) : List Nat := ((allP n).filter fun p => !adj ps p.1 p.2).map fun p => cnt n ps p.1 p.2
def castL (l : List Nat) : List Int := l.map fun (i : Nat) => (i : Int)
def cntsD (n : Nat) (ps : List Pr) : PyData := .tuple [.tuple ((usort (castL (jl n ps))).map .int), .tuple ((usort (castL (al n ps))).map .int)]
theorem mem_half {n : Nat} {ps : List Pr} {c : Bool} {z : Int} : (∃ a ∈ List.range n, ∃ o, o < a ∧ adj ps a o = c ∧ z = (cnt n ps a o : Int)) ↔ ∃ p ∈ allP n, adj ps p.1 p.2 = c ∧ z = (cnt n ps p.1 p.2 : Int) := by
  constructor
  · rintro ⟨a, ha, o, ho, h1, h2⟩
    exact ⟨(o, a), mem_allP.mpr ⟨ho, List.mem_range.mp ha⟩, by rw [adj_comm]; exact h1, by rw [cnt_comm]; exact h2⟩
  · rintro ⟨p, hp, h1, h2⟩
    obtain ⟨h3, h4⟩ := mem_allP.mp hp
    exact ⟨p.2, List.mem_range.mpr h4, p.1, h3, by rw [adj_comm]; exact h1, by rw [cnt_comm]; exact h2⟩
theorem isort_usort {ks ns : List Int} (nd : ks.Nodup) (h : ∀ z, z ∈ ks ↔ z ∈ ns) : isort ltI ks = usort ns :=
  ssorted_ext _ _ (isort_lt nd) (usort_pw ns) fun k => by rw [(isort_perm ltI ks).mem_iff, usort_mem, h k]
theorem fSortA_mu {st : Sto} {k : Nat} {ks : List Int} (e : st[k]? = some (.dk ks)) (h : ks.length < 64) : fSortA [.mu k] st = some (.d (.list ((isort ltI ks).map .int))) := by
  simp only [fSortA, fSorted, e, if_pos h]
theorem counts_of_ok {n : Nat} {ps : List Pr} (N : Net n ps) (st : Sto) : F_counts_of [.d (netD n ps)] st = some (.ok (.d (.tuple [.list ((usort (castL (jl n ps))).map .int), .list ((usort (castL (al n ps))).map .int)])), st) := by
  obtain ⟨kss, T, fe⟩ := friend_lists_ok N
  have hn := N.le
  obtain ⟨js, as, x4, x5, x6, x7, f1, f2, f3, f4, f5⟩ := ct_outer (nv := .d (netD n ps)) (st := st) N T (List.range n) [] [] none none none none (fun a h => List.mem_range.mp h) Sm.nil Sm.nil
  have rg : (List.range n).map (fun (o : Nat) => DV.d (.int o)) = rng 0 n := by unfold rng; simp
  rw [rg] at f1
  have ej : isort ltI js = usort (castL (jl n ps)) := isort_usort f2.nd fun z => by
    rw [f4 z]
    unfold castL jl
    rw [List.map_map, List.mem_map]
    simp only [List.not_mem_nil, false_or]
    rw [mem_half]
    constructor
    · rintro ⟨p, hp, h1, h2⟩
      exact ⟨p, List.mem_filter.mpr ⟨hp, h1⟩, h2.symm⟩
    · rintro ⟨p, hp, h2⟩
      obtain ⟨h3, h4⟩ := List.mem_filter.mp hp
      exact ⟨p, h3, h4, h2.symm⟩
  have ea : isort ltI as = usort (castL (al n ps)) := isort_usort f3.nd fun z => by
    rw [f5 z]
    unfold castL al
    rw [List.map_map, List.mem_map]
    simp only [List.not_mem_nil, false_or]
    rw [mem_half]
    constructor
    · rintro ⟨p, hp, h1, h2⟩
      exact ⟨p, List.mem_filter.mpr ⟨hp, by rw [h1]; rfl⟩, h2.symm⟩
    · rintro ⟨p, hp, h2⟩
      obtain ⟨h3, h4⟩ := List.mem_filter.mp hp
      exact ⟨p, h3, by simpa using h4, h2.symm⟩
  have g1 : (st ++ [Ct.dk js, .dk as])[st.length]? = some (.dk js) := by simp
  have g2 : (st ++ [Ct.dk js, .dk as])[st.length + 1]? = some (.dk as) := by simp
  have q1 := fSortA_mu g1 (by have := f2.len; omega)
  have q2 := fSortA_mu g2 (by have := f3.len; omega)
  rw [ej] at q1
  rw [ea] at q2
  have e2 : (st ++ [Ct.dk []]) ++ [Ct.dk []] = st ++ [Ct.dk [], .dk []] := by simp
  have l2 : (st ++ [Ct.dk []]).length = st.length + 1 := by simp
  have start : sPar3 1 2 3 (aCons (eCall F_friend_lists (aCons (eVar 0) (aNil))) (aCons (eDctM) (aCons (eDctM) (aNil)))) [some (.d (netD n ps)), none, none, none, none, none, none, none] st = some (.fl .nx [some (.d (netD n ps)), some (.dl kss), some (.mu st.length), some (.mu (st.length + 1)), none, none, none, none], st ++ [.dk [], .dk []]) := by
    refine (yPar3 (xCons (xCall (xCons (xVar rfl) xNil) (fe st)) (xCons xDctM (xCons xDctM xNil)))).trans ?_
    rw [e2, l2]
    rfl
  have := fRtS (N := 8) (b := b_counts_of) (xs := [.d (netD n ps)]) (st := st) rfl (yNx start (yNx (yFor (zRg1 (xOp (xVar rfl) xC (ix0 _ _ _)) (by omega)) f1) (yRt (yRet (xTup (xCons (xCall (xCons (xVar rfl) xNil) (xB q1)) (xCons (xCall (xCons (xVar rfl) xNil) (xB q2)) xNil)) rfl (by show 2 ≤ sizeLine; decide)))))) rfl
  rw [List.take_left'] at this
  · exact this
  · rfl
theorem counts_ok {n : Nat} {ps : List Pr} (N : Net n ps) (st : Sto) : F_counts [.d (netD n ps)] st = some (.ok (.d (cntsD n ps)), st) := by
  have co := counts_of_ok N st
  exact fRt rfl (yNx (yExpr (xCall (xCons (xVar rfl) xNil) (need_net_ok N _))) (yNx (yAsg (xCall (xCons (xVar rfl) xNil) co) rfl) (yRt (yRet (xTup (xCons (xCall (xCons (xVar rfl) xNil) (xB (fTup_l _ _))) (xCons (xCall (xCons (xVar rfl) xNil) (xB (fTup_l _ _))) xNil)) rfl (by show 2 ≤ sizeLine; decide)))))) rfl
end ML
end
section
/-! PL6: the law's own pairs, friends, counts. -/
namespace ML
open PySem DL
theorem eqv_pr (p q : Pr) : PyData.eqv (prD p) (prD q) = decide (p = q) := by
  unfold prD
  simp [PyData.eqv, PyData.eqvAll]
  rw [Bool.eq_iff_iff]
  simp [Prod.ext_iff]
  omega
theorem lay_prs : ∀ ps : List Pr, PyData.canLayAll0 (ps.map prD) = true
  | [] => rfl
  | p :: ps => by
    rw [List.map_cons, PyData.canLayAll0, lay_prs ps]
    rfl
theorem depth_prs : ∀ ps : List Pr, PyData.depthAll (ps.map prD) ≤ 1
  | [] => by simp [PyData.depthAll]
  | p :: ps => by
    rw [List.map_cons, PyData.depthAll]
    have h1 : (prD p).depth = 1 := rfl
    have h2 := depth_prs ps
    rw [h1]
    omega
theorem shaped_prs (ps : List Pr) : SeqAt.shaped (.tuple (ps.map prD)) = true := by
  have h := depth_prs ps
  unfold SeqAt.shaped
  rw [Bool.and_eq_true, decide_eq_true_eq]
  refine ⟨by rw [PyData.canLay0]; exact lay_prs ps, ?_⟩
  rw [PyData.depth]
  omega
theorem in_prs (p : Pr) (ps : List Pr) (st : Sto) : inOf (.d (prD p)) (.d (.tuple (ps.map prD))) st = some (decide (p ∈ ps)) := by
  have hs : (SeqAt.shaped (prD p) && SeqAt.shaped (.tuple (ps.map prD))) = true := by rw [shaped_prs]; rfl
  have ha : ((ps.map prD).any fun z => PyData.eqv z (prD p)) = decide (p ∈ ps) := by
    rw [Bool.eq_iff_iff, List.any_eq_true, decide_eq_true_eq]
    constructor
    · rintro ⟨z, hz, e⟩
      obtain ⟨q, hq, rfl⟩ := List.mem_map.mp hz
      rw [eqv_pr, decide_eq_true_eq] at e
      rw [← e]
      exact hq
    · intro h
      exact ⟨prD p, List.mem_map.mpr ⟨p, h, rfl⟩, by rw [eqv_pr]; simp⟩
  show (if (SeqAt.shaped (prD p) && SeqAt.shaped (.tuple (ps.map prD))) = true then some ((ps.map prD).any fun z => PyData.eqv z (prD p)) else none) = _
  rw [if_pos hs, ha]
theorem oIn_prs (p : Pr) (ps : List Pr) (st : Sto) : oIn (.d (prD p)) (.d (.tuple (ps.map prD))) st = some (.d (.bool (decide (p ∈ ps)))) := by
  unfold oIn
  rw [in_prs]
  rfl
theorem oNotIn_prs (p : Pr) (ps : List Pr) (st : Sto) : oNotIn (.d (prD p)) (.d (.tuple (ps.map prD))) st = some (.d (.bool (!decide (p ∈ ps)))) := by
  unfold oNotIn
  rw [in_prs]
  rfl
theorem lay_ints : ∀ l : List Nat, PyData.canLayAll0 (intsD l) = true
  | [] => rfl
  | p :: ps => by
    show PyData.canLayAll0 (PyData.int p :: intsD ps) = true
    rw [PyData.canLayAll0, lay_ints ps]
    rfl
theorem depth_ints : ∀ l : List Nat, PyData.depthAll (intsD l) ≤ 1
  | [] => by simp [intsD, PyData.depthAll]
  | p :: ps => by
    show PyData.depthAll (PyData.int p :: intsD ps) ≤ 1
    rw [PyData.depthAll]
    have h2 := depth_ints ps
    have h1 : (PyData.int (p : Int)).depth ≤ 1 := by simp [PyData.depth]
    omega
theorem shaped_ints (l : List Nat) : SeqAt.shaped (.list (intsD l)) = true := by
  have h := depth_ints l
  unfold SeqAt.shaped
  rw [Bool.and_eq_true, decide_eq_true_eq]
  refine ⟨by rw [PyData.canLay0]; exact lay_ints l, ?_⟩
  rw [PyData.depth]
  omega
theorem oIn_ints (h : Nat) (l : List Nat) (st : Sto) : oIn (.d (.int h)) (.d (.list (intsD l))) st = some (.d (.bool (decide (h ∈ l)))) := by
  have hs : (SeqAt.shaped (.int (h : Int)) && SeqAt.shaped (.list (intsD l))) = true := by rw [shaped_ints]; rfl
  have ha : ((intsD l).any fun z => PyData.eqv z (.int (h : Int))) = decide (h ∈ l) := by
    rw [Bool.eq_iff_iff, List.any_eq_true, decide_eq_true_eq]
    constructor
    · rintro ⟨z, hz, e⟩
      obtain ⟨q, hq, rfl⟩ := List.mem_map.mp hz
      have e : (q : Int) = h := by simpa [PyData.eqv] using e
      have : q = h := by omega
      rw [← this]
      exact hq
    · intro hm
      exact ⟨.int h, List.mem_map.mpr ⟨h, hm, rfl⟩, by simp [PyData.eqv]⟩
  have : inOf (.d (.int h)) (.d (.list (intsD l))) st = some (decide (h ∈ l)) := by
    show (if (SeqAt.shaped (.int (h : Int)) && SeqAt.shaped (.list (intsD l))) = true then some ((intsD l).any fun z => PyData.eqv z (.int (h : Int))) else none) = _
    rw [if_pos hs, ha]
  unfold oIn
  rw [this]
  rfl
/-! ### the law's pairs -/
theorem addL {a b : List PyData} (h : a.length + b.length ≤ sizeLine) (st : Sto) : oAdd (.d (.list a)) (.d (.list b)) st = some (.d (.list (a ++ b))) := by
  simp only [oAdd, res_d, if_pos h]
theorem addT {a b : List PyData} (h : a.length + b.length ≤ sizeLine) (st : Sto) : oAdd (.d (.tuple a)) (.d (.tuple b)) st = some (.d (.tuple (a ++ b))) := by
  simp only [oAdd, res_d, if_pos h]
def upP (n a : Nat) : List Pr := (List.range (n - (a + 1))).map fun i => (a, a + 1 + i)
theorem upP_len (n a : Nat) : (upP n a).length ≤ n := by
  unfold upP
  rw [List.length_map, List.length_range]
  omega
theorem up_ok {n a : Nat} (hn : n ≤ 60) (ha : a < n) (f o : Option DV) (st : Sto) : eLc (iRg2 (eOp oAdd (eVar 2) (eC (.int 1))) (eVar 0)) (gV 3) (tYesF) (eTup (aCons (eVar 2) (aCons (eVar 3) (aNil)))) [3] [some (.d (.int n)), f, some (.d (.int a)), o] st = some (.ok (.d (.list ((upP n a).map prD))), st) := by
  have e2 : iRg2 (eOp oAdd (eVar 2) (eC (.int 1))) (eVar 0) [some (.d (.int n)), f, some (.d (.int a)), o] st = some (.ok (rng ((a + 1 : Nat) : Int) (n - (a + 1))), st) := zRg2 (xOp (xVar rfl) xC (oAdd_ii _ _ _)) (xVar rfl) (by omega) (by omega)
  have q := eLc_pure (it := iRg2 (eOp oAdd (eVar 2) (eC (.int 1))) (eVar 0)) (g := gV 3) (t := tYesF) (e := eTup (aCons (eVar 2) (aCons (eVar 3) (aNil)))) (vs := [3]) (r := [some (.d (.int n)), f, some (.d (.int a)), o]) (st := st) (fun x => match x with | .d (.int z) => some (prD (a, z.toNat)) | _ => none) e2 (by
    unfold rng
    rw [List.length_map, List.length_range]
    exact big (by omega)) fun y hy st => by
      obtain ⟨i, hi, rfl⟩ := List.mem_map.mp hy
      refine ⟨_, rfl, .inr ⟨_, rfl, rfl, ?_⟩⟩
      have e3 : ((((a + 1 : Nat) : Int) + (i : Int)).toNat : Int) = ((a + 1 : Nat) : Int) + (i : Int) := by omega
      have : prD (a, (((a + 1 : Nat) : Int) + (i : Int)).toNat) = .tuple [.int a, .int (((a + 1 : Nat) : Int) + (i : Int))] := by
        unfold prD
        simp only [e3]
      rw [this]
      exact xTup (xCons (xVar rfl) (xCons (xVar rfl) xNil)) rfl (by show 2 ≤ sizeLine; decide)
  have e : (rng ((a + 1 : Nat) : Int) (n - (a + 1))).filterMap (fun (x : DV) => match x with | .d (.int z) => some (prD (a, z.toNat)) | _ => none) = (upP n a).map prD := by
    unfold rng upP
    rw [List.map_map, List.filterMap_map]
    generalize List.range (n - (a + 1)) = l
    clear q e2
    induction l with
    | nil => rfl
    | cons i l ih =>
      have e3 : (((a + 1 : Nat) : Int) + (i : Int)).toNat = a + 1 + i := by omega
      rw [List.filterMap_cons_some (b := prD (a, a + 1 + i)) (by simp only [Function.comp, e3]), ih]
      rfl
  rw [q, e]
theorem law_pairs_ok {n : Nat} (hn : n ≤ 60) (st : Sto) : F__law_pairs [.d (.int n)] st = some (.ok (.d (.list ((allP n).map prD))), st) := by
  have key : ∀ (ls : List Nat) (acc : List Pr) (x2 x3 : Option DV), (∀ a ∈ ls, a < n) → acc.length + (ls.flatMap (upP n)).length ≤ 4000 → ∃ y2 y3, forL (gV 2) (sSeq (sSet 1 (eOp oAdd (eVar 1) (eLc (iRg2 (eOp oAdd (eVar 2) (eC (.int 1))) (eVar 0)) (gV 3) (tYesF) (eTup (aCons (eVar 2) (aCons (eVar 3) (aNil)))) [3]))) (sNx)) (ls.map fun (a : Nat) => .d (.int a)) [some (.d (.int n)), some (.d (.list (acc.map prD))), x2, x3] st =
      some (.fl .nx [some (.d (.int n)), some (.d (.list ((acc ++ ls.flatMap (upP n)).map prD))), y2, y3], st) := by
    intro ls
    induction ls with
    | nil => intro acc x2 x3 _ _; exact ⟨x2, x3, by simp [forL]⟩
    | cons a ls ih =>
      intro acc x2 x3 hl hb
      rw [List.flatMap_cons, List.length_append] at hb
      have e := yNx (s' := sNx) (ySet (i := 1) (xOp (xVar (i := 1) (r := [some (.d (.int n)), some (.d (.list (acc.map prD))), some (.d (.int a)), x3]) (st := st) rfl) (up_ok hn (hl a List.mem_cons_self) _ _ _) (addL (by
        rw [List.length_map, List.length_map]
        exact big (by omega)) _))) yEnd
      rw [← List.map_append] at e
      obtain ⟨y2, y3, f⟩ := ih (acc ++ upP n a) (some (.d (.int a))) x3 (fun b hb => hl b (List.mem_cons_of_mem _ hb)) (by rw [List.length_append]; omega)
      refine ⟨y2, y3, ?_⟩
      rw [List.map_cons, forL_nx rfl e, List.flatMap_cons, ← List.append_assoc]
      exact f
  obtain ⟨y2, y3, f⟩ := key (List.range n) [] none none (fun a h => List.mem_range.mp h) (by
    have := allP_big hn
    unfold allP at this
    unfold upP
    simp only [List.length_nil]
    omega)
  have rg : (List.range n).map (fun (o : Nat) => DV.d (.int o)) = rng 0 n := by unfold rng; simp
  rw [rg] at f
  exact fRt rfl (yNx (ySet (xLst xNil rfl (by show 0 ≤ sizeLine; decide))) (yNx (yFor (zRg1 (xVar rfl) (by omega)) f) (yRt (yRet (xVar rfl))))) rfl
/-! ### those that are left -/
theorem law_left_ok {n : Nat} {ps : List Pr} (hn : n ≤ 60) (st : Sto) : F__law_left [.d (.list ((allP n).map prD)), .d (.tuple (ps.map prD))] st = some (.ok (.d (.tuple (((allP n).filter fun p => !decide (p ∈ ps)).map prD))), st) := by
  have q : ∀ st, eLc (iSeq (eVar 0)) (gV 2) (tVal (eOp oNotIn (eVar 2) (eVar 1))) (eVar 2) [2] [some (.d (.list ((allP n).map prD))), some (.d (.tuple (ps.map prD))), none] st = some (.ok (.d (.list (((allP n).filter fun p => !decide (p ∈ ps)).map prD))), st) := fun st => by
    have e := filt_map (allP n) prD (fun p => !decide (p ∈ ps)) (fun (x : DV) => match x with | .d (.tuple [.int a, .int b]) => if (!decide ((a.toNat, b.toNat) ∈ ps)) = true then some (.tuple [.int a, .int b]) else none | _ => none) fun p _ => rfl
    rw [← e]
    refine eLc_pure _ (zSeq (xVar rfl) rfl) ?_ fun x hx st => ?_
    · rw [List.length_map, List.length_map]
      exact Nat.le_trans (allP_big hn) (big (by omega))
    · obtain ⟨y, hy, rfl⟩ := List.mem_map.mp hx
      obtain ⟨p, hp, rfl⟩ := List.mem_map.mp hy
      refine ⟨[some (.d (.list ((allP n).map prD))), some (.d (.tuple (ps.map prD))), some (.d (prD p))], rfl, ?_⟩
      have ht : tVal (eOp oNotIn (eVar 2) (eVar 1)) [some (.d (.list ((allP n).map prD))), some (.d (.tuple (ps.map prD))), some (.d (prD p))] st = some (.ok (!decide (p ∈ ps)), st) := xTVal (xOp (xVar rfl) (xVar rfl) (oNotIn_prs _ _ _))
      have hp2 : ((p.1 : Int).toNat, (p.2 : Int).toNat) = p := by rw [Int.toNat_natCast, Int.toNat_natCast]
      by_cases ha : p ∈ ps
      · rw [decide_eq_true ha] at ht
        refine .inl ⟨?_, ht⟩
        show (if (!decide (((p.1 : Int).toNat, (p.2 : Int).toNat) ∈ ps)) = true then _ else none) = none
        rw [hp2, decide_eq_true ha]
        rfl
      · rw [decide_eq_false ha] at ht
        refine .inr ⟨prD p, ?_, ht, xVar rfl⟩
        show (if (!decide (((p.1 : Int).toNat, (p.2 : Int).toNat) ∈ ps)) = true then _ else none) = _
        rw [hp2, decide_eq_false ha]
        rfl
  exact fRt rfl (yRt (yRet (xCall (xCons (q _) xNil) (xB (fTup_l _ _))))) rfl
/-! ### friends -/
theorem adj_min {n a b : Nat} {ps : List Pr} (N : Net n ps) : adj ps a b = decide ((min a b, max a b) ∈ ps) := by
  unfold adj
  rw [Bool.eq_iff_iff]
  simp only [Bool.or_eq_true, decide_eq_true_eq]
  constructor
  · rintro (h | h)
    · have := (N.ok _ h).1
      simp only at this
      rw [Nat.min_eq_left (by omega), Nat.max_eq_right (by omega)]
      exact h
    · have := (N.ok _ h).1
      simp only at this
      rw [Nat.min_eq_right (by omega), Nat.max_eq_left (by omega)]
      exact h
  · intro h
    by_cases c : a ≤ b
    · rw [Nat.min_eq_left c, Nat.max_eq_right c] at h
      exact .inl h
    · rw [Nat.min_eq_right (by omega), Nat.max_eq_left (by omega)] at h
      exact .inr h
theorem fMin_n (a b : Nat) (st : Sto) : fMin [.d (.int a), .d (.int b)] st = some (.d (.int (min a b : Nat))) := by
  show some (DV.d (.int (if (b : Int) < a then (b : Int) else a))) = _
  congr 3
  split <;> omega
theorem fMax_n (a b : Nat) (st : Sto) : fMax [.d (.int a), .d (.int b)] st = some (.d (.int (max a b : Nat))) := by
  show some (DV.d (.int (if (b : Int) > a then (b : Int) else a))) = _
  congr 3
  split <;> omega
theorem filt_rng (n : Nat) (c : Nat → Bool) : (rng 0 n).filterMap (fun (x : DV) => match x with | .d (.int z) => if c z.toNat = true then some (.int z) else none | _ => none) = intsD ((List.range n).filter c) := by
  unfold rng intsD
  rw [List.filterMap_map]
  generalize List.range n = l
  induction l with
  | nil => rfl
  | cons i l ih =>
    by_cases h : c i = true
    · rw [List.filterMap_cons_some (b := PyData.int (i : Int)) (by simp [Function.comp, h]), List.filter_cons_of_pos h, List.map_cons, ih]
    · rw [List.filterMap_cons_none (by simp [Function.comp, h]), List.filter_cons_of_neg h, ih]
theorem law_friends_ok {n h : Nat} {ps : List Pr} (N : Net n ps) (st : Sto) : F__law_friends [.d (netD n ps), .d (.int h)] st = some (.ok (.d (.list (intsD (nbr n ps h)))), st) := by
  have hn := N.le
  have q : ∀ st, eLc (iRg1 (eOp oIx (eVar 0) (eC (.int 0)))) (gV 2) (tVal (eOp oIn (eTup (aCons (eCall (fB fMin) (aCons (eVar 1) (aCons (eVar 2) aNil))) (aCons (eCall (fB fMax) (aCons (eVar 1) (aCons (eVar 2) aNil))) (aNil)))) (eOp oIx (eVar 0) (eC (.int 1))))) (eVar 2) [2] [some (.d (netD n ps)), some (.d (.int h)), none] st = some (.ok (.d (.list (intsD (nbr n ps h)))), st) := fun st => by
    unfold nbr
    rw [← filt_rng]
    refine eLc_pure _ (zRg1 (xOp (xVar rfl) xC (ix0 _ _ _)) (by omega)) ?_ fun x hx st => ?_
    · unfold rng
      rw [List.length_map, List.length_range]
      exact big (by omega)
    · obtain ⟨i, hi, rfl⟩ := rng_mem hx
      refine ⟨[some (.d (netD n ps)), some (.d (.int h)), some (.d (.int i))], rfl, ?_⟩
      have ht : tVal (eOp oIn (eTup (aCons (eCall (fB fMin) (aCons (eVar 1) (aCons (eVar 2) aNil))) (aCons (eCall (fB fMax) (aCons (eVar 1) (aCons (eVar 2) aNil))) (aNil)))) (eOp oIx (eVar 0) (eC (.int 1)))) [some (.d (netD n ps)), some (.d (.int h)), some (.d (.int i))] st = some (.ok (adj ps h i), st) := by
        rw [adj_min N]
        exact xTVal (xOp (xTup (xCons (xCall (xCons (xVar rfl) (xCons (xVar rfl) xNil)) (xB (fMin_n _ _ _))) (xCons (xCall (xCons (xVar rfl) (xCons (xVar rfl) xNil)) (xB (fMax_n _ _ _))) xNil)) rfl (by show 2 ≤ sizeLine; decide)) (xOp (xVar rfl) xC (ix1 _ _ _)) (oIn_prs (min h i, max h i) ps _))
      cases ha : adj ps h i with
      | true =>
        rw [ha] at ht
        exact .inr ⟨.int i, by simp [ha], ht, xVar rfl⟩
      | false =>
        rw [ha] at ht
        exact .inl ⟨by simp [ha], ht⟩
  exact fRt rfl (yRt (yRet (q _))) rfl
end ML
end
section
/-! PL7: the law's own counts; alike. -/
namespace ML
open PySem DL
theorem res_mu {st : Sto} {k : Nat} {ds : List PyData} (h : st[k]? = some (.lst ds)) : res st (.mu k) = some (.list ds) := by
  unfold res
  simp [h]
theorem filt_ints (l : List Nat) (c : Nat → Bool) : ((intsD l).map DV.d).filterMap (fun (x : DV) => match x with | .d (.int z) => if c z.toNat = true then some (.int z) else none | _ => none) = intsD (l.filter c) := by
  unfold intsD
  rw [List.map_map, List.filterMap_map]
  induction l with
  | nil => rfl
  | cons i l ih =>
    by_cases h : c i = true
    · rw [List.filterMap_cons_some (b := PyData.int (i : Int)) (by simp [Function.comp, h]), List.filter_cons_of_pos h, List.map_cons, ih]
    · rw [List.filterMap_cons_none (by simp [Function.comp, h]), List.filter_cons_of_neg h, ih]
def nearD (n : Nat) (ps : List Pr) : PyData := .list ((List.range n).map fun a => .list (intsD (nbr n ps a)))
theorem near_at {n a : Nat} {ps : List Pr} (h : a < n) : L2.atI ((List.range n).map fun a => PyData.list (intsD (nbr n ps a))) (a : Int) = some (.list (intsD (nbr n ps a))) := atI_nat' (by simp [h])
theorem ix_near {n a : Nat} {ps : List Pr} (h : a < n) (st : Sto) : oIx (.d (nearD n ps)) (.d (.int a)) st = some (.d (.list (intsD (nbr n ps a)))) := oIx_l _ (near_at h)
theorem nbr_filt {n a b : Nat} {ps : List Pr} (N : Net n ps) : (nbr n ps a).filter (fun c => decide (c ∈ nbr n ps b)) = com n ps a b := by
  unfold com
  rw [show nbr n ps a = (List.range n).filter (adj ps a) from rfl, List.filter_filter]
  congr 1
  funext c
  rw [Bool.and_comm]
  congr 1
  rw [Bool.eq_iff_iff, decide_eq_true_eq]
  exact mem_nbr N
theorem nbr_len (n : Nat) (ps : List Pr) (a : Nat) : (nbr n ps a).length ≤ n := by
  refine Nat.le_trans (List.length_filter_le _ _) ?_
  simp
/-- [hall for hall in near[one] if hall in near[other]], the slots given -/
theorem lc_near {n a b : Nat} {ps : List Pr} (N : Net n ps) (ha : a < n) (hb : b < n) {i1 i5 i6 iv : Nat} {r : Rho} (r1 : r[i1]? = some (some (.d (nearD n ps)))) (r5 : r[i5]? = some (some (.d (.int a)))) (r6 : r[i6]? = some (some (.d (.int b)))) (n1 : iv ≠ i1) (n6 : iv ≠ i6) (hv : iv < r.length) (st : Sto) :
    eLc (iSeq (eOp oIx (eVar i1) (eVar i5))) (gV iv) (tVal (eOp oIn (eVar iv) (eOp oIx (eVar i1) (eVar i6)))) (eVar iv) [iv] r st = some (.ok (.d (.list (intsD (com n ps a b)))), st) := by
  rw [← nbr_filt N, ← filt_ints]
  refine eLc_pure _ (zSeq (xOp (xVar r1) (xVar r5) (ix_near ha _)) rfl) ?_ fun x hx st => ?_
  · unfold intsD
    rw [List.length_map, List.length_map]
    exact Nat.le_trans (nbr_len n ps a) (big (by have := N.le; omega))
  · obtain ⟨y, hy, rfl⟩ := List.mem_map.mp hx
    obtain ⟨c, hc, rfl⟩ := List.mem_map.mp hy
    have w : ∀ (j : Nat) (v : DV), iv ≠ j → r[j]? = some (some v) → ((wipeR r [iv]).set iv (some (DV.d (.int (c : Int)))))[j]? = some (some v) := fun j v hj h => by
      show ((r.set iv none).set iv _)[j]? = _
      rw [List.getElem?_set_ne hj, List.getElem?_set_ne hj]
      exact h
    have wv : ((wipeR r [iv]).set iv (some (DV.d (.int (c : Int)))))[iv]? = some (some (.d (.int c))) := by
      show ((r.set iv none).set iv _)[iv]? = _
      rw [List.getElem?_set_self (by simpa using hv)]
    refine ⟨_, rfl, ?_⟩
    have ht := xTVal (xOp (xVar (st := st) wv) (xOp (xVar (w i1 _ n1 r1)) (xVar (w i6 _ n6 r6)) (ix_near hb _)) (oIn_ints c (nbr n ps b) _))
    by_cases h : c ∈ nbr n ps b
    · rw [decide_eq_true h] at ht
      exact .inr ⟨.int c, by simp [h], ht, xVar wv⟩
    · rw [decide_eq_false h] at ht
      exact .inl ⟨by simp [h], ht⟩
abbrev lcB : SF := sSeq (sSet 7 (eCall (fB fLen) (aCons (eLc (iSeq (eOp oIx (eVar 1) (eVar 5))) (gV 2) (tVal (eOp oIn (eVar 2) (eOp oIx (eVar 1) (eVar 6)))) (eVar 2) [2]) aNil))) (sSeq (sIf (tVal (eOp oIn (eVar 6) (eOp oIx (eVar 1) (eVar 5)))) (sSeq (sExpr (eApp (eVar 3) (eVar 7))) (sNx)) (sSeq (sExpr (eApp (eVar 4) (eVar 7))) (sNx))) (sNx))
theorem intsD_snoc (l : List Nat) (i : Nat) : intsD l ++ [.int (i : Int)] = intsD (l ++ [i]) := by
  unfold intsD
  simp
theorem law_ct {n : Nat} {ps : List Pr} {st : Sto} {nv : DV} (N : Net n ps) : ∀ (qs : List Pr) (js as : List Nat) (x2 x5 x6 x7 : Option DV), (∀ p ∈ qs, p.1 < n ∧ p.2 < n) → js.length + as.length + qs.length ≤ 4000 →
    ∃ y2 y5 y6 y7, forL (gT (gConsF 5 (gConsF 6 (gNilF)))) lcB (qs.map fun p => .d (prD p)) [some nv, some (.d (nearD n ps)), x2, some (.mu st.length), some (.mu (st.length + 1)), x5, x6, x7] (st ++ [.lst (intsD js), .lst (intsD as)]) =
      some (.fl .nx [some nv, some (.d (nearD n ps)), y2, some (.mu st.length), some (.mu (st.length + 1)), y5, y6, y7], st ++ [.lst (intsD (js ++ ((qs.filter fun p => adj ps p.1 p.2).map fun p => cnt n ps p.1 p.2))), .lst (intsD (as ++ ((qs.filter fun p => !adj ps p.1 p.2).map fun p => cnt n ps p.1 p.2)))])
  | [], js, as, x2, x5, x6, x7, _, _ => ⟨x2, x5, x6, x7, by simp [forL]⟩
  | p :: qs, js, as, x2, x5, x6, x7, hb, hl => by
    obtain ⟨h1, h2⟩ := hb p List.mem_cons_self
    simp only [List.length_cons] at hl
    have lj : (intsD js).length < sizeLine := by
      unfold intsD
      rw [List.length_map]
      exact Nat.lt_of_lt_of_le (by omega : js.length < 4001) (by decide)
    have la : (intsD as).length < sizeLine := by
      unfold intsD
      rw [List.length_map]
      exact Nat.lt_of_lt_of_le (by omega : as.length < 4001) (by decide)
    have lc := fun st' => lc_near N h1 h2 (i1 := 1) (i5 := 5) (i6 := 6) (iv := 2) (r := [some nv, some (.d (nearD n ps)), x2, some (.mu st.length), some (.mu (st.length + 1)), some (.d (.int p.1)), some (.d (.int p.2)), x7]) rfl rfl rfl (by decide) (by decide) (by show 2 < 8; decide) st'
    have ln : ∀ st', fLen [.d (.list (intsD (com n ps p.1 p.2)))] st' = some (.d (.int (cnt n ps p.1 p.2 : Nat))) := fun st' => by
      rw [fLen_l]
      unfold intsD cnt
      rw [List.length_map]
    have tin : ∀ st', tVal (eOp oIn (eVar 6) (eOp oIx (eVar 1) (eVar 5))) [some nv, some (.d (nearD n ps)), x2, some (.mu st.length), some (.mu (st.length + 1)), some (.d (.int p.1)), some (.d (.int p.2)), some (.d (.int (cnt n ps p.1 p.2 : Nat)))] st' = some (.ok (adj ps p.1 p.2), st') := fun st' => by
      have := xTVal (xOp (xVar (i := 6) (r := [some nv, some (.d (nearD n ps)), x2, some (.mu st.length), some (.mu (st.length + 1)), some (.d (.int p.1)), some (.d (.int p.2)), some (.d (.int (cnt n ps p.1 p.2 : Nat)))]) (st := st') rfl) (xOp (xVar (i := 1) rfl) (xVar (i := 5) rfl) (ix_near h1 _)) (oIn_ints p.2 (nbr n ps p.1) _))
      rw [this]
      congr 3
      rw [Bool.eq_iff_iff, decide_eq_true_eq]
      exact mem_nbr N
    have g1 : (st ++ [Ct.lst (intsD js), .lst (intsD as)])[st.length]? = some (.lst (intsD js)) := by simp
    have g2 : (st ++ [Ct.lst (intsD js), .lst (intsD as)])[st.length + 1]? = some (.lst (intsD as)) := by simp
    have s1 : ∀ c, (st ++ [Ct.lst (intsD js), .lst (intsD as)]).set st.length c = st ++ [c, .lst (intsD as)] := fun c => by simp
    have s2 : ∀ c, (st ++ [Ct.lst (intsD js), .lst (intsD as)]).set (st.length + 1) c = st ++ [.lst (intsD js), c] := fun c => by simp
    cases h : adj ps p.1 p.2 with
    | true =>
      rw [h] at tin
      have body := yNx (ySet (i := 7) (xCall (xCons (lc (st ++ [.lst (intsD js), .lst (intsD as)])) xNil) (xB (ln _)))) (yNx (s' := sNx) (yIfT (s' := sSeq (sExpr (eApp (eVar 4) (eVar 7))) (sNx)) (tin _) (yNx (yExpr (xApp (xVar (i := 3) rfl) g1 (xVar (i := 7) rfl) g1 lj)) yEnd)) yEnd)
      rw [s1, intsD_snoc] at body
      obtain ⟨y2, y5, y6, y7, f⟩ := law_ct (st := st) (nv := nv) N qs (js ++ [cnt n ps p.1 p.2]) as x2 (some (.d (.int p.1))) (some (.d (.int p.2))) (some (.d (.int (cnt n ps p.1 p.2 : Nat)))) (fun q hq => hb q (List.mem_cons_of_mem _ hq)) (by rw [List.length_append, List.length_cons, List.length_nil]; omega)
      refine ⟨y2, y5, y6, y7, ?_⟩
      rw [List.map_cons, forL_nx rfl body]
      refine f.trans ?_
      rw [show (p :: qs).filter (fun p => adj ps p.1 p.2) = p :: qs.filter (fun p => adj ps p.1 p.2) from List.filter_cons_of_pos h, show (p :: qs).filter (fun p => !adj ps p.1 p.2) = qs.filter (fun p => !adj ps p.1 p.2) from List.filter_cons_of_neg (by simp [h]), List.map_cons, List.append_assoc]
      rfl
    | false =>
      rw [h] at tin
      have body := yNx (ySet (i := 7) (xCall (xCons (lc (st ++ [.lst (intsD js), .lst (intsD as)])) xNil) (xB (ln _)))) (yNx (s' := sNx) (yIfF (s := sSeq (sExpr (eApp (eVar 3) (eVar 7))) (sNx)) (tin _) (yNx (yExpr (xApp (xVar (i := 4) rfl) g2 (xVar (i := 7) rfl) g2 la)) yEnd)) yEnd)
      rw [s2, intsD_snoc] at body
      obtain ⟨y2, y5, y6, y7, f⟩ := law_ct (st := st) (nv := nv) N qs js (as ++ [cnt n ps p.1 p.2]) x2 (some (.d (.int p.1))) (some (.d (.int p.2))) (some (.d (.int (cnt n ps p.1 p.2 : Nat)))) (fun q hq => hb q (List.mem_cons_of_mem _ hq)) (by rw [List.length_append, List.length_cons, List.length_nil]; omega)
      refine ⟨y2, y5, y6, y7, ?_⟩
      rw [List.map_cons, forL_nx rfl body]
      refine f.trans ?_
      rw [show (p :: qs).filter (fun p => adj ps p.1 p.2) = qs.filter (fun p => adj ps p.1 p.2) from List.filter_cons_of_neg (by simp [h]), show (p :: qs).filter (fun p => !adj ps p.1 p.2) = p :: qs.filter (fun p => !adj ps p.1 p.2) from List.filter_cons_of_pos (by simp [h]), List.map_cons, List.append_assoc]
      rfl
theorem near_ok {n : Nat} {ps : List Pr} (N : Net n ps) {r : Rho} {iv : Nat} (r0 : r[(0 : Nat)]? = some (some (.d (netD n ps)))) (h0 : iv ≠ 0) (hv : iv < r.length) (st : Sto) :
    eLc (iRg1 (eOp oIx (eVar 0) (eC (.int 0)))) (gV iv) (tYesF) (eCall F__law_friends (aCons (eVar 0) (aCons (eVar iv) (aNil)))) [iv] r st = some (.ok (.d (nearD n ps)), st) := by
  have hn := N.le
  have e : (rng 0 n).filterMap (fun (x : DV) => match x with | .d (.int z) => some (PyData.list (intsD (nbr n ps z.toNat))) | _ => none) = (List.range n).map fun a => .list (intsD (nbr n ps a)) := by
    unfold rng
    rw [List.filterMap_map]
    generalize List.range n = l
    induction l with
    | nil => rfl
    | cons i l ih =>
      rw [List.filterMap_cons_some (b := .list (intsD (nbr n ps i))) (by simp [Function.comp]), ih]
      rfl
  unfold nearD
  rw [← e]
  refine eLc_pure _ (zRg1 (xOp (xVar r0) xC (ix0 _ _ _)) (by omega)) ?_ fun x hx st => ?_
  · unfold rng
    rw [List.length_map, List.length_range]
    exact big (by omega)
  · obtain ⟨i, hi, rfl⟩ := rng_mem hx
    refine ⟨_, rfl, .inr ⟨_, rfl, rfl, ?_⟩⟩
    have w0 : ((wipeR r [iv]).set iv (some (DV.d (.int (i : Int)))))[(0 : Nat)]? = some (some (.d (netD n ps))) := by
      show ((r.set iv none).set iv _)[(0 : Nat)]? = _
      rw [List.getElem?_set_ne h0, List.getElem?_set_ne h0]
      exact r0
    have wv : ((wipeR r [iv]).set iv (some (DV.d (.int (i : Int)))))[iv]? = some (some (.d (.int i))) := by
      show ((r.set iv none).set iv _)[iv]? = _
      rw [List.getElem?_set_self (by simpa using hv)]
    have := xCall (xCons (xVar (st := st) w0) (xCons (xVar wv) xNil)) (law_friends_ok (h := i) N st)
    exact this
theorem usort_below {l : List Nat} {m : Nat} (h : ∀ b ∈ l, b < m) : (usort (castL l)).length ≤ m := by
  refine nodup_len ((usort_pw _).imp fun {a b} h e => by omega) fun z hz => ?_
  obtain ⟨b, hb, rfl⟩ := List.mem_map.mp ((usort_mem z _).mp hz)
  exact ⟨b, h b hb, rfl⟩
theorem law_counts_ok {n : Nat} {ps : List Pr} (N : Net n ps) (hn : n ≤ 60) (st : Sto) : F__law_counts [.d (netD n ps)] st = some (.ok (.d (cntsD n ps)), st) := by
  have le60 : n ≤ 60 := by omega
  have ap := allP_big le60
  obtain ⟨y2, y5, y6, y7, f⟩ := law_ct (st := st) (nv := .d (netD n ps)) N (allP n) [] [] none none none none (fun p hp => by
    have := mem_allP.mp hp
    omega) (by simp only [List.length_nil]; omega)
  have pm : (allP n).map (fun p => DV.d (prD p)) = ((allP n).map prD).map DV.d := by rw [List.map_map]; rfl
  rw [pm] at f
  simp only [List.nil_append] at f
  have e2 : (st ++ [Ct.lst []]) ++ [Ct.lst []] = st ++ [Ct.lst (intsD []), .lst (intsD [])] := by simp [intsD]
  have l2 : (st ++ [Ct.lst []]).length = st.length + 1 := by simp
  have start : sPar 3 4 (aCons (eLstM (aNil)) (aCons (eLstM (aNil)) (aNil))) [some (.d (netD n ps)), some (.d (nearD n ps)), none, none, none, none, none, none] st = some (.fl .nx [some (.d (netD n ps)), some (.d (nearD n ps)), none, some (.mu st.length), some (.mu (st.length + 1)), none, none, none], st ++ [.lst (intsD []), .lst (intsD [])]) := by
    refine (yPar (xCons (xLstM xNil rfl (by show 0 ≤ sizeLine; decide)) (xCons (xLstM xNil rfl (by show 0 ≤ sizeLine; decide)) xNil))).trans ?_
    rw [e2, l2]
    rfl
  have g1 : ∀ js as : List Nat, (st ++ [Ct.lst (intsD js), .lst (intsD as)])[st.length]? = some (.lst (intsD js)) := fun js as => by simp
  have g2 : ∀ js as : List Nat, (st ++ [Ct.lst (intsD js), .lst (intsD as)])[st.length + 1]? = some (.lst (intsD as)) := fun js as => by simp
  have hj : (castL (jl n ps)).length < 4000 := by
    unfold castL jl
    rw [List.length_map, List.length_map]
    exact Nat.lt_of_le_of_lt (List.length_filter_le _ _) (by omega)
  have uj : (usort (castL (jl n ps))).length < 64 := by
    have := usort_below (l := jl n ps) (m := n + 1) (fun b hb => by
      obtain ⟨p, _, rfl⟩ := List.mem_map.mp hb
      exact cnt_le n ps p.1 p.2)
    omega
  have ua : (usort (castL (al n ps))).length < 64 := by
    have := usort_below (l := al n ps) (m := n + 1) (fun b hb => by
      obtain ⟨p, _, rfl⟩ := List.mem_map.mp hb
      exact cnt_le n ps p.1 p.2)
    omega
  have ha : (castL (al n ps)).length < 4000 := by
    unfold castL al
    rw [List.length_map, List.length_map]
    exact Nat.lt_of_le_of_lt (List.length_filter_le _ _) (by omega)
  have := fRtS (N := 8) (b := b__law_counts) (xs := [.d (netD n ps)]) (st := st) rfl (yNx (ySet (near_ok N (r := [some (.d (netD n ps)), none, none, none, none, none, none, none]) rfl (by decide) (by show 2 < 8; decide) _)) (yNx start (yNx (yFor (zSeq (xCall (xCons (xOp (xVar rfl) xC (ix0 _ _ _)) xNil) (law_pairs_ok le60 _)) rfl) f)
    (yRt (yRet (xTup (xCons (xCall (xCons (xSortSet (xVar rfl) (res_mu (g1 (jl n ps) (al n ps))) (ints_intsD _) hj uj) xNil) (xB (fTup_l _ _))) (xCons (xCall (xCons (xSortSet (xVar rfl) (res_mu (g2 (jl n ps) (al n ps))) (ints_intsD _) ha ua) xNil) (xB (fTup_l _ _))) xNil)) rfl (by show 2 ≤ sizeLine; decide))))))) rfl
  rw [List.take_left'] at this
  · exact this
  · rfl
end ML
end
section
/-! PL8: alike; the script's row. -/
namespace ML
open PySem DL
inductive Fl : Nat → PyData → Prop
  | int (d : Nat) (i : Int) : Fl d (.int i)
  | bool (d : Nat) (b : Bool) : Fl d (.bool b)
  | str (d : Nat) (s : Str) : SeqAt.shaped (.str s) = true → Fl d (.str s)
  | non (d : Nat) : Fl d .none
  | tup (d : Nat) (ds : List PyData) : (∀ x ∈ ds, Fl d x) → ds.length ≤ 4000 → Fl (d + 1) (.tuple ds)
  | lst (d : Nat) (ds : List PyData) : (∀ x ∈ ds, Fl d x) → ds.length ≤ 4000 → Fl (d + 1) (.list ds)
theorem oEq_at {p : PyData} (h : SeqAt.shaped p = true) (st : Sto) : oEq (.d p) (.d p) st = some (.d (.bool true)) := by
  have e := SeqAt.eqv_refl p (SeqAt.canLay_of_shaped h)
  simp only [oEq, res_d, h, Bool.and_self, if_true, e]
theorem oNe_bb (b : Bool) (st : Sto) : oNe (.d (.bool b)) (.d (.bool b)) st = some (.d (.bool false)) := by cases b <;> rfl
theorem oNe_same (i : Int) (st : Sto) : oNe (.d (.int i)) (.d (.int i)) st = some (.d (.bool false)) := by
  rw [ne_ints]
  simp
section
variable {Frec : List DV → MM DV} {st : Sto}
/-- the walk over the parts -/
theorem alike_seq {ds : List PyData} {p : PyData} (hl : ds.length ≤ 4000) (fl : ∀ st, fLen [.d p] st = some (.d (.int ds.length))) (ix : ∀ (i : Nat) (x : PyData) st, ds[i]? = some x → oIx (.d p) (.d (.int i)) st = some (.d x)) (hr : ∀ x ∈ ds, ∀ st, Frec [.d x, .d x] st = some (.ok (.d (.bool true)), st)) (st : Sto) :
    eLc (iRg1 (eCall (fB fLen) (aCons (eVar 1) aNil))) (gV 2) (DL.tNot (tTru (eCall Frec (aCons (eOp oIx (eVar 0) (eVar 2)) (aCons (eOp oIx (eVar 1) (eVar 2)) (aNil)))))) (eVar 2) [2] [some (.d p), some (.d p), none] st = some (.ok (.d (.list [])), st) := by
  have e : (rng 0 ds.length).filterMap (fun _ => (none : Option PyData)) = [] := by
    generalize rng 0 ds.length = l
    induction l with
    | nil => rfl
    | cons x l ih => rw [List.filterMap_cons_none rfl, ih]
  rw [← e]
  refine eLc_pure _ (zRg1 (xCall (xCons (xVar rfl) xNil) (xB (fl _))) (by omega)) ?_ fun x hx st => ?_
  · unfold rng
    rw [List.length_map, List.length_range]
    exact big hl
  · obtain ⟨i, hi, rfl⟩ := rng_mem hx
    have ex : ds[i]? = some ds[i] := List.getElem?_eq_getElem hi
    refine ⟨[some (.d p), some (.d p), some (.d (.int i))], rfl, .inl ⟨rfl, ?_⟩⟩
    exact xTNot (xTTru (xCall (xCons (xOp (xVar rfl) (xVar rfl) (ix i _ _ ex)) (xCons (xOp (xVar rfl) (xVar rfl) (ix i _ _ ex)) xNil)) (hr _ (List.getElem_mem hi) _)) rfl)
theorem alike_block {ds : List PyData} {p : PyData} {t : Ty} (ht : tyP p = t) (h2 : (t.sub .tuple || t.sub .list) = true) (hl : ds.length ≤ 4000) (fl : ∀ st, fLen [.d p] st = some (.d (.int ds.length))) (ix : ∀ (i : Nat) (x : PyData) st, ds[i]? = some x → oIx (.d p) (.d (.int i)) st = some (.d x)) (hr : ∀ x ∈ ds, ∀ st, Frec [.d x, .d x] st = some (.ok (.d (.bool true)), st)) (st : Sto) :
    runB 3 (b__law_alike Frec) [.d p, .d p] st = some (.ok (.d (.bool true)), st) := by
  subst ht
  have i1 : ∀ (i : Nat) st, ([some (.d p), some (.d p), none] : Rho)[i]? = some (some (.d p)) → tTru (eIsi2 .tuple .list (eVar i)) [some (.d p), some (.d p), none] st = some (.ok true, st) := fun i st h => xTTru (xIsi2 (xVar h) rfl) (by rw [h2]; rfl)
  exact fRt rfl (yRt (yIfT (i1 1 _ rfl) (yNx (yIfF (xTOrF (xTNot (i1 0 _ rfl)) (xTVal (xOp (xIsi (xVar rfl) rfl) (xIsi (xVar rfl) rfl) (oNe_bb _ _)))) yEnd) (yNx (yIfF (xTVal (xOp (xCall (xCons (xVar rfl) xNil) (xB (fl _))) (xCall (xCons (xVar rfl) xNil) (xB (fl _))) (oNe_same _ _))) yEnd)
    (yRt (yRet (xOp (alike_seq hl fl ix hr _) (xLst xNil rfl (by show 0 ≤ sizeLine; decide)) (oEq_at (p := .list []) rfl _)))))))) rfl
theorem alike_int {p : PyData} {t : Ty} (ht : tyP p = t) (h2 : (t.sub .tuple || t.sub .list) = false) (hn : t.sub .str = false) (hi : t.sub .int = true) (hs : SeqAt.shaped p = true) (hnn : isNon (.d p) = false) (st : Sto) : runB 3 (b__law_alike Frec) [.d p, .d p] st = some (.ok (.d (.bool true)), st) := by
  subst ht
  have e1 : tTru (eIsi2 .tuple .list (eVar 1)) [some (.d p), some (.d p), none] st = some (.ok false, st) := xTTru (xIsi2 (xVar rfl) rfl) (by rw [h2]; rfl)
  have e2 : oIsN (.d p) (.d .none) st = some (.d (.bool false)) := by
    show some (DV.d (.bool (isNon (.d p)))) = _
    rw [hnn]
  have e3 : tTru (eIsi .str (eVar 1)) [some (.d p), some (.d p), none] st = some (.ok false, st) := xTTru (xIsi (xVar rfl) rfl) (by rw [hn]; rfl)
  have e4 : eIsi .int (eVar 0) [some (.d p), some (.d p), none] st = some (.ok (.d (.bool true)), st) := by rw [← hi]; exact xIsi (xVar rfl) rfl
  have e5 : ∀ b : Bool, oEq (.d (.bool b)) (.d (.bool b)) st = some (.d (.bool true)) := fun b => by cases b <;> rfl
  exact fRt rfl (yNx (yIfF e1 yEnd) (yNx (yIfF (xTOrF (xTVal (xOp (xVar rfl) xC e2)) e3) yEnd) (yRt (yRet (xAndT e4 (xAndT (xOp (xIsi (xVar rfl) rfl) (xIsi (xVar rfl) rfl) (e5 _)) (xOp (xVar rfl) (xVar rfl) (oEq_at hs _)))))))) rfl
theorem alike_str {p : PyData} {t : Ty} (ht : tyP p = t) (h2 : (t.sub .tuple || t.sub .list) = false) (hn : isNon (.d p) = true ∨ (isNon (.d p) = false ∧ t.sub .str = true)) (hs : SeqAt.shaped p = true) (st : Sto) : runB 3 (b__law_alike Frec) [.d p, .d p] st = some (.ok (.d (.bool true)), st) := by
  subst ht
  have e1 : tTru (eIsi2 .tuple .list (eVar 1)) [some (.d p), some (.d p), none] st = some (.ok false, st) := xTTru (xIsi2 (xVar rfl) rfl) (by rw [h2]; rfl)
  have e5 : ∀ b : Bool, oEq (.d (.bool b)) (.d (.bool b)) st = some (.d (.bool true)) := fun b => by cases b <;> rfl
  have e3 : DL.tOr (tVal (eOp oIsN (eVar 1) (eC .none))) (tTru (eIsi .str (eVar 1))) [some (.d p), some (.d p), none] st = some (.ok true, st) := by
    rcases hn with hn | ⟨h0, hn⟩
    · refine xTOrT (xTVal (xOp (xVar rfl) xC ?_))
      show some (DV.d (.bool (isNon (.d p)))) = _
      rw [hn]
    · refine xTOrF (xTVal (xOp (xVar rfl) xC ?_)) (xTTru (xIsi (xVar rfl) rfl) (by rw [hn]; rfl))
      show some (DV.d (.bool (isNon (.d p)))) = _
      rw [h0]
  exact fRt rfl (yNx (yIfF e1 yEnd) (yRt (yIfT e3 (yRt (yRet (xAndT (xOp (xVar rfl) (xVar rfl) (oEq_at hs _)) (xOp (xIsi (xVar rfl) rfl) (xIsi (xVar rfl) rfl) (e5 _)))))))) rfl
end
theorem alike_n {d : Nat} {p : PyData} (h : Fl d p) : ∀ (m : Nat), d < m → ∀ st, F__law_alike_n m [.d p, .d p] st = some (.ok (.d (.bool true)), st) := by
  induction h with
  | int d i =>
    intro m hm st
    obtain ⟨k, rfl⟩ : ∃ k, m = k + 1 := ⟨m - 1, by omega⟩
    exact alike_int rfl rfl rfl rfl rfl rfl st
  | bool d b =>
    intro m hm st
    obtain ⟨k, rfl⟩ : ∃ k, m = k + 1 := ⟨m - 1, by omega⟩
    exact alike_int rfl rfl rfl rfl rfl rfl st
  | str d s hs =>
    intro m hm st
    obtain ⟨k, rfl⟩ : ∃ k, m = k + 1 := ⟨m - 1, by omega⟩
    exact alike_str rfl rfl (.inr ⟨rfl, rfl⟩) hs st
  | non d =>
    intro m hm st
    obtain ⟨k, rfl⟩ : ∃ k, m = k + 1 := ⟨m - 1, by omega⟩
    exact alike_str rfl rfl (.inl rfl) rfl st
  | tup d ds hx hl ih =>
    intro m hm st
    obtain ⟨k, rfl⟩ : ∃ k, m = k + 1 := ⟨m - 1, by omega⟩
    exact alike_block rfl rfl hl (fun _ => rfl) (fun i x st e => oIx_t _ (atI_nat' e)) (fun x hx st => ih x hx k (by omega) st) st
  | lst d ds hx hl ih =>
    intro m hm st
    obtain ⟨k, rfl⟩ : ∃ k, m = k + 1 := ⟨m - 1, by omega⟩
    exact alike_block rfl rfl hl (fun _ => rfl) (fun i x st e => oIx_l _ (atI_nat' e)) (fun x hx st => ih x hx k (by omega) st) st
theorem alike_ok {d : Nat} {p : PyData} (h : Fl d p) (hd : d < 8) (st : Sto) : F__law_alike [.d p, .d p] st = some (.ok (.d (.bool true)), st) := alike_n h 8 hd st
/-! ### the row -/
def rowD (s : List Int) (i : Nat) (e c : Int) : List PyData := [.list (s.map .int), .int i, .int e, .int c]
theorem mu_ix {st : Sto} {k j : Nat} {ds : List PyData} {p : PyData} (h : st[k]? = some (.lst ds)) (hj : ds[j]? = some p) : oIx (.mu k) (.d (.int j)) st = some (.d p) := by
  have e := res_mu h
  unfold oIx
  simp only [res_d, e, atI_nat' hj, Option.map]
theorem put_l {st : Sto} {k j : Nat} {ds : List PyData} {p : PyData} (h : st[k]? = some (.lst ds)) (hj : j < ds.length) : putS st k (.int j) p = some (st.set k (.lst (ds.set j p))) := by
  unfold putS
  simp only [h, ixN_nat hj]
theorem ix_row {st : Sto} {k : Nat} {s : List Int} {i : Nat} {e c : Int} (h : st[k]? = some (.lst (rowD s i e c))) :
    oIx (.mu k) (.d (.int 0)) st = some (.d (.list (s.map .int))) ∧ oIx (.mu k) (.d (.int 1)) st = some (.d (.int i)) ∧ oIx (.mu k) (.d (.int 2)) st = some (.d (.int e)) ∧ oIx (.mu k) (.d (.int 3)) st = some (.d (.int c)) :=
  ⟨mu_ix (j := 0) h rfl, mu_ix (j := 1) h rfl, mu_ix (j := 2) h rfl, mu_ix (j := 3) h rfl⟩
theorem fInt_i (i : Int) (st : Sto) : fInt [.d (.int i)] st = some (.d (.int i)) := rfl
theorem fmod_nat {a : Int} {m : Nat} (hm : 0 < m) : ∃ v : Nat, v < m ∧ a.fmod (m : Int) = (v : Int) := by
  rw [Int.fmod_eq_emod_of_nonneg a (show (0 : Int) ≤ m by omega)]
  have h1 := Int.emod_nonneg a (show (m : Int) ≠ 0 by omega)
  have h2 := Int.emod_lt_of_pos a (show (0 : Int) < m by omega)
  exact ⟨(a % m).toNat, by omega, by omega⟩
/-- a number below m is drawn; the row goes on -/
theorem taken_ok {st : Sto} {k m : Nat} {s : List Int} {i : Nat} {e c : Int} (h : st[k]? = some (.lst (rowD s i e c))) (hm : 0 < m) (hm2 : m < 1000000) :
    ∃ v i' e' c', v < m ∧ F__law_taken [.mu k, .d (.int m)] st = some (.ok (.d (.int (v : Nat))), st.set k (.lst (rowD s i' e' c'))) := by
  have hk := (List.getElem?_eq_some_iff.mp h).1
  obtain ⟨x0, x1, x2, x3⟩ := ix_row h
  have mz : (m : Int) ≠ 0 := by omega
  have mf : (m : Int) ≠ 0 ∧ (m : Int).natAbs < 1073741824 := by omega
  have tk : ∀ c : Ct, (st.set k c).take st.length = st.set k c := fun c => List.take_of_length_le (by simp)
  by_cases hc : 0 < c
  · obtain ⟨v, hv, ev⟩ := fmod_nat (a := c) hm
    refine ⟨v, i, e, c.fdiv m, hv, ?_⟩
    have ht : oGt (.d (.int c)) (.d (.int 0)) st = some (.d (.bool true)) := by rw [oGt_ii]; simp [hc]
    have hmod : oMod (.d (.int c)) (.d (.int m)) st = some (.d (.int v)) := by rw [oMod_ii _ mz, ev]
    have hput := put_l (j := 3) (p := .int (c.fdiv m)) h (by show 3 < 4; decide)
    have := fRtS (N := 4) (b := b__law_taken) (xs := [.mu k, .d (.int m)]) (st := st) rfl (yRt (yIfT (xTVal (xOp (xOp (xVar rfl) xC x3) xC ht)) (yNx (ySet (i := 2) (xOp (xCall (xCons (xOp (xVar rfl) xC x3) xNil) (xB (fInt_i _ _))) (xVar rfl) hmod))
      (yNx (yPut (xOp (xOp (xVar rfl) xC x3) (xVar rfl) (oFdiv_ii _ mf)) (xVar rfl) xC hput) (yRt (yRet (xVar rfl))))))) rfl
    rw [tk] at this
    exact this
  · have ht : oGt (.d (.int c)) (.d (.int 0)) st = some (.d (.bool false)) := by rw [oGt_ii]; simp [hc]
    -- one cell on
    have hput := put_l (j := 1) (p := .int ((i : Int) + 1)) h (by show 1 < 4; decide)
    have h1 : (st.set k (.lst (rowD s (i + 1) e c)))[k]? = some (.lst (rowD s (i + 1) e c)) := by rw [List.getElem?_set_self hk]
    have e1 : st.set k (.lst ((rowD s i e c).set 1 (.int ((i : Int) + 1)))) = st.set k (.lst (rowD s (i + 1) e c)) := rfl
    rw [e1] at hput
    obtain ⟨y0, y1, y2, y3⟩ := ix_row h1
    generalize hs1 : st.set k (.lst (rowD s (i + 1) e c)) = st1 at hput h1 y0 y1 y2 y3
    have len1 : st1.length = st.length := by rw [← hs1]; simp
    have set1 : ∀ c : Ct, st1.set k c = st.set k c := fun c => by rw [← hs1]; simp
    have mulOk : ∀ (a : Int) st, oMul (.d (.int a)) (.d (.int 48271)) st = some (.d (.int (a * 48271))) := fun a st => oMul_ii _ (.inr ⟨by decide, by decide⟩)
    have big7 : (2147483647 : Int) ≠ 0 := by decide
    have fl : ∀ st, fLen [.d (.list (s.map .int))] st = some (.d (.int s.length)) := fun st => by rw [fLen_l, List.length_map]
    have first : sSeq (sIf (tVal (eOp oGt (eOp oIx (eVar 0) (eC (.int 3))) (eC (.int 0)))) (sSeq (sSet 2 (eOp oMod (eCall (fB fInt) (aCons (eOp oIx (eVar 0) (eC (.int 3))) aNil)) (eVar 1))) (sSeq (sPut (eOp oFdiv (eOp oIx (eVar 0) (eC (.int 3))) (eVar 1)) (eVar 0) (eC (.int 3))) (sSeq (sRet (eVar 2)) (sNx)))) (sNx)) sNx [some (.mu k), some (.d (.int m)), none, none] st = some (.fl .nx [some (.mu k), some (.d (.int m)), none, none], st) := yNx (yIfF (xTVal (xOp (xOp (xVar rfl) xC x3) xC ht)) yEnd) yEnd
    by_cases hi : s.length < i + 1
    · -- the script is at its end
      have ht2 : oGt (.d (.int ((i + 1 : Nat) : Int))) (.d (.int s.length)) st1 = some (.d (.bool true)) := by rw [oGt_ii]; simp; omega
      generalize hz : (e * 48271 + 11).fmod 2147483647 = z
      obtain ⟨v, hv, ev⟩ := fmod_nat (a := z.fdiv 7) hm
      refine ⟨v, i + 1, z, c, hv, ?_⟩
      have hput2 := put_l (j := 2) (p := .int z) h1 (by show 2 < 4; decide)
      have e2 : st1.set k (.lst ((rowD s (i + 1) e c).set 2 (.int z))) = st.set k (.lst (rowD s (i + 1) z c)) := by rw [set1]; rfl
      rw [e2] at hput2
      have h2 : (st.set k (.lst (rowD s (i + 1) z c)))[k]? = some (.lst (rowD s (i + 1) z c)) := by rw [List.getElem?_set_self hk]
      obtain ⟨z0, z1, z2, z3⟩ := ix_row h2
      have hmod1 : oMod (.d (.int (e * 48271 + 11))) (.d (.int 2147483647)) st1 = some (.d (.int z)) := by rw [oMod_ii _ big7, hz]
      have hmod2 : oMod (.d (.int (z.fdiv 7))) (.d (.int m)) (st.set k (.lst (rowD s (i + 1) z c))) = some (.d (.int v)) := by rw [oMod_ii _ mz, ev]
      have := fRtS (N := 4) (b := b__law_taken) (xs := [.mu k, .d (.int m)]) (st := st) rfl (yNx (yIfF (xTVal (xOp (xOp (xVar rfl) xC x3) xC ht)) yEnd) (yNx (yPut (xOp (xOp (xVar rfl) xC x1) xC (oAdd_ii _ _ _)) (xVar rfl) xC hput)
        (yRt (yIfT (xTVal (xOp (xOp (xVar rfl) xC y1) (xCall (xCons (xOp (xVar rfl) xC y0) xNil) (xB (fl _))) ht2))
          (yNx (yPut (xOp (xCall (xCons (xOp (xOp (xOp (xVar rfl) xC y2) xC (mulOk _ _)) xC (oAdd_ii _ _ _)) xNil) (xB (fInt_i _ _))) xC hmod1) (xVar rfl) xC hput2)
            (yRt (yRet (xOp (xCall (xCons (xOp (xOp (xVar rfl) xC z2) xC (oFdiv_ii _ ⟨by decide, by decide⟩)) xNil) (xB (fInt_i _ _))) (xVar rfl) hmod2)))))))) rfl
      rw [tk] at this
      exact this
    · have ht2 : oGt (.d (.int ((i + 1 : Nat) : Int))) (.d (.int s.length)) st1 = some (.d (.bool false)) := by rw [oGt_ii]; simp; omega
      have hi' : i < s.length := by omega
      have ecell : oIx (.d (.list (s.map .int))) (.d (.int (((i + 1 : Nat) : Int) - 1))) st1 = some (.d (.int s[i])) := by
        have : (((i + 1 : Nat) : Int) - 1) = (i : Int) := by omega
        rw [this]
        exact oIx_l _ (atI_nat' (by simp [hi']))
      generalize s[i] = cell at ecell
      generalize hz : (e * 48271 + cell + 11).fmod 2147483647 = z
      have hput2 := put_l (j := 2) (p := .int z) h1 (by show 2 < 4; decide)
      have e2 : st1.set k (.lst ((rowD s (i + 1) e c).set 2 (.int z))) = st.set k (.lst (rowD s (i + 1) z c)) := by rw [set1]; rfl
      rw [e2] at hput2
      have h2 : (st.set k (.lst (rowD s (i + 1) z c)))[k]? = some (.lst (rowD s (i + 1) z c)) := by rw [List.getElem?_set_self hk]
      have hmod1 : oMod (.d (.int (e * 48271 + cell + 11))) (.d (.int 2147483647)) st1 = some (.d (.int z)) := by rw [oMod_ii _ big7, hz]
      obtain ⟨v, hv, ev⟩ := fmod_nat (a := cell) hm
      have hpow : ∀ st, oPow (.d (.int 10)) (.d (.int 18)) st = some (.d (.int 1000000000000000000)) := fun st => rfl
      by_cases hge : 1000000000000000000 ≤ cell
      · refine ⟨v, i + 1, z, cell.fdiv m, hv, ?_⟩
        have hput3 := put_l (j := 3) (p := .int (cell.fdiv m)) h2 (by show 3 < 4; decide)
        have e3 : (st.set k (.lst (rowD s (i + 1) z c))).set k (.lst ((rowD s (i + 1) z c).set 3 (.int (cell.fdiv m)))) = st.set k (.lst (rowD s (i + 1) z (cell.fdiv m))) := by simp [rowD]
        rw [e3] at hput3
        have ht3 : oGe (.d (.int cell)) (.d (.int 1000000000000000000)) (st.set k (.lst (rowD s (i + 1) z c))) = some (.d (.bool true)) := by rw [oGe_ii, decide_eq_true hge]
        have hmod2 : oMod (.d (.int cell)) (.d (.int m)) (st.set k (.lst (rowD s (i + 1) z (cell.fdiv m)))) = some (.d (.int v)) := by rw [oMod_ii _ mz, ev]
        have := fRtS (N := 4) (b := b__law_taken) (xs := [.mu k, .d (.int m)]) (st := st) rfl (yNx (yIfF (xTVal (xOp (xOp (xVar rfl) xC x3) xC ht)) yEnd) (yNx (yPut (xOp (xOp (xVar rfl) xC x1) xC (oAdd_ii _ _ _)) (xVar rfl) xC hput)
          (yNx (yIfF (xTVal (xOp (xOp (xVar rfl) xC y1) (xCall (xCons (xOp (xVar rfl) xC y0) xNil) (xB (fl _))) ht2)) yEnd)
            (yNx (ySet (i := 3) (xOp (xOp (xVar rfl) xC y0) (xOp (xOp (xVar rfl) xC y1) xC (oSub_ii _ _ _)) ecell))
              (yNx (yPut (xOp (xCall (xCons (xOp (xOp (xOp (xOp (xVar rfl) xC y2) xC (mulOk _ _)) (xVar rfl) (oAdd_ii _ _ _)) xC (oAdd_ii _ _ _)) xNil) (xB (fInt_i _ _))) xC hmod1) (xVar rfl) xC hput2)
                (yNx (yIfT (xTVal (xOp (xVar rfl) (xOp xC xC (hpow _)) ht3)) (yNx (yPut (xOp (xVar rfl) (xVar rfl) (oFdiv_ii _ mf)) (xVar rfl) xC hput3) yEnd))
                  (yRt (yRet (xOp (xCall (xCons (xVar rfl) xNil) (xB (fInt_i _ _))) (xVar rfl) hmod2))))))))) rfl
        rw [tk] at this
        exact this
      · refine ⟨v, i + 1, z, c, hv, ?_⟩
        have ht3 : oGe (.d (.int cell)) (.d (.int 1000000000000000000)) (st.set k (.lst (rowD s (i + 1) z c))) = some (.d (.bool false)) := by rw [oGe_ii, decide_eq_false hge]
        have hmod2 : oMod (.d (.int cell)) (.d (.int m)) (st.set k (.lst (rowD s (i + 1) z c))) = some (.d (.int v)) := by rw [oMod_ii _ mz, ev]
        have := fRtS (N := 4) (b := b__law_taken) (xs := [.mu k, .d (.int m)]) (st := st) rfl (yNx (yIfF (xTVal (xOp (xOp (xVar rfl) xC x3) xC ht)) yEnd) (yNx (yPut (xOp (xOp (xVar rfl) xC x1) xC (oAdd_ii _ _ _)) (xVar rfl) xC hput)
          (yNx (yIfF (xTVal (xOp (xOp (xVar rfl) xC y1) (xCall (xCons (xOp (xVar rfl) xC y0) xNil) (xB (fl _))) ht2)) yEnd)
            (yNx (ySet (i := 3) (xOp (xOp (xVar rfl) xC y0) (xOp (xOp (xVar rfl) xC y1) xC (oSub_ii _ _ _)) ecell))
              (yNx (yPut (xOp (xCall (xCons (xOp (xOp (xOp (xOp (xVar rfl) xC y2) xC (mulOk _ _)) (xVar rfl) (oAdd_ii _ _ _)) xC (oAdd_ii _ _ _)) xNil) (xB (fInt_i _ _))) xC hmod1) (xVar rfl) xC hput2)
                (yNx (yIfF (xTVal (xOp (xVar rfl) (xOp xC xC (hpow _)) ht3)) yEnd)
                  (yRt (yRet (xOp (xCall (xCons (xVar rfl) xNil) (xB (fInt_i _ _))) (xVar rfl) hmod2))))))))) rfl
        rw [tk] at this
        exact this
end ML
end
section
/-! PL9: drawn turns, drawn nets. -/
namespace DL
theorem wStep {t : TF} {b : SF} {n : Nat} {r r2 : Rho} {st st1 st2 : Sto} (ht : t r st = some (.ok true, st1)) (hb : b r st1 = some (.fl .nx r2, st2)) : whileL t b (n + 1) r st = whileL t b n r2 st2 := by
  show sBind (t r) r _ st = _
  rw [sBind_at, ht]
  show (match b r st1 with | some (.fl .nx r2, st2) => _ | some (.fl .ct r2, st2) => _ | some (.fl .bk r2, st2) => _ | some (.fl (.rt v) r2, st2) => _ | some (.er x r2, st2) => _ | none => _) = _
  rw [hb]
theorem wEnd {t : TF} {b : SF} {n : Nat} {r : Rho} {st st1 : Sto} (ht : t r st = some (.ok false, st1)) : whileL t b (n + 1) r st = some (.fl .nx r, st1) := by
  show sBind (t r) r _ st = _
  rw [sBind_at, ht]
end DL
namespace ML
open PySem DL
theorem pick_ok {st : Sto} {k : Nat} {s : List Int} {i : Nat} {e c : Int} {ds : List PyData} (h : st[k]? = some (.lst (rowD s i e c))) (hm : 0 < ds.length) (hm2 : ds.length < 1000000) :
    ∃ p i' e' c', p ∈ ds ∧ F__law_pick [.mu k, .d (.list ds)] st = some (.ok (.d p), st.set k (.lst (rowD s i' e' c'))) := by
  obtain ⟨v, i', e', c', hv, ht⟩ := taken_ok h hm hm2
  have ex : ds[v]? = some ds[v] := List.getElem?_eq_getElem hv
  refine ⟨ds[v], i', e', c', List.getElem_mem hv, ?_⟩
  have := fRtS (N := 2) (b := b__law_pick) (xs := [.mu k, .d (.list ds)]) (st := st) rfl (yRt (yRet (xOp (xVar (i := 1) rfl) (xCall (xCons (xVar (i := 0) rfl) (xCons (xCall (xCons (xVar (i := 1) rfl) xNil) (xB (fLen_l ds _))) xNil)) ht) (oIx_l _ (atI_nat' ex))))) rfl
  rw [List.take_of_length_le (by simp)] at this
  exact this
theorem one_more {i n : Nat} {l : List Nat} (hi : i < l.length) (f : List Nat) (h : (f ++ l).Perm (List.range n)) : (f ++ [l[i]] ++ l.eraseIdx i).Perm (List.range n) := by
  refine List.Perm.trans ?_ h
  rw [List.append_assoc]
  refine List.Perm.append_left f ?_
  have e : l = l.take i ++ l[i] :: l.drop (i + 1) := by rw [← List.drop_eq_getElem_cons hi, List.take_append_drop]
  have e2 : l.eraseIdx i = l.take i ++ l.drop (i + 1) := List.eraseIdx_eq_take_drop_succ ..
  rw [e2]
  refine List.Perm.trans ?_ (List.Perm.of_eq e.symm)
  show (l[i] :: (l.take i ++ l.drop (i + 1))).Perm _
  exact List.perm_middle.symm
theorem er_ints : ∀ (l : List Nat) (v : Nat), (intsD l).eraseIdx v = intsD (l.eraseIdx v)
  | [], _ => rfl
  | _ :: _, 0 => rfl
  | a :: l, v + 1 => by
    show PyData.int a :: (intsD l).eraseIdx v = PyData.int a :: intsD (l.eraseIdx v)
    rw [er_ints l v]
abbrev tnB : SF := sSeq (sSet 2 (eOp oAdd (eVar 2) (eTup (aCons (ePop (eVar 3) (eCall F__law_taken (aCons (eVar 0) (aCons (eCall (fB fLen) (aCons (eVar 3) aNil)) (aNil))))) (aNil))))) (sNx)
theorem turn_while {s : List Int} {n : Nat} (hn : n ≤ 100) : ∀ (m : Nat) (st : Sto) (k : Nat) (l f : List Nat) (i : Nat) (e c : Int), l.length = m → st[k]? = some (.lst (rowD s i e c)) → (f ++ l).Perm (List.range n) → ∀ fu, m < fu →
    ∃ t i' e' c', t.Perm (List.range n) ∧ whileL (tVal (eOp oNe (eVar 3) (eLst (aNil)))) tnB fu [some (.mu k), some (.d (.int n)), some (.d (.tuple (intsD f))), some (.mu st.length)] (st ++ [.lst (intsD l)]) =
      some (.fl .nx [some (.mu k), some (.d (.int n)), some (.d (.tuple (intsD t))), some (.mu st.length)], st.set k (.lst (rowD s i' e' c')) ++ [.lst []])
  | 0, st, k, l, f, i, e, c, hl, h, hp, fu, hf => by
    obtain ⟨g, rfl⟩ : ∃ g, fu = g + 1 := ⟨fu - 1, by omega⟩
    have : l = [] := List.length_eq_zero_iff.mp hl
    subst this
    have hk := (List.getElem?_eq_some_iff.mp h)
    have g1 : (st ++ [Ct.lst (intsD [])])[st.length]? = some (.lst []) := by simp [intsD]
    have hne : oNe (.mu st.length) (.d (.list [])) (st ++ [Ct.lst (intsD [])]) = some (.d (.bool false)) := by
      unfold oNe
      rw [res_mu g1]
      rfl
    refine ⟨f, i, e, c, by simpa using hp, ?_⟩
    rw [wEnd (xTVal (xOp (xVar rfl) (xLst xNil rfl (by show 0 ≤ sizeLine; decide)) hne))]
    have : st.set k (.lst (rowD s i e c)) = st := by rw [← hk.2, List.set_getElem_self]
    rw [this]
    rfl
  | m + 1, st, k, l, f, i, e, c, hl, h, hp, fu, hf => by
    obtain ⟨g, rfl⟩ : ∃ g, fu = g + 1 := ⟨fu - 1, by omega⟩
    have hk := (List.getElem?_eq_some_iff.mp h).1
    have len : (f ++ l).length = n := by rw [hp.length_eq, List.length_range]
    rw [List.length_append] at len
    have g1 : (st ++ [Ct.lst (intsD l)])[st.length]? = some (.lst (intsD l)) := by simp
    have gk : (st ++ [Ct.lst (intsD l)])[k]? = some (.lst (rowD s i e c)) := by rw [List.getElem?_append_left hk]; exact h
    have hne : oNe (.mu st.length) (.d (.list [])) (st ++ [Ct.lst (intsD l)]) = some (.d (.bool true)) := by
      have hs : (SeqAt.shaped (.list (intsD l)) && SeqAt.shaped (.list [])) = true := by rw [shaped_ints]; rfl
      unfold oNe
      rw [res_mu g1]
      show (if (SeqAt.shaped (.list (intsD l)) && SeqAt.shaped (.list [])) = true then some (DV.d (.bool (!PyData.eqv (.list (intsD l)) (.list [])))) else none) = _
      rw [if_pos hs]
      cases l with
      | nil => cases hl
      | cons x l => simp [intsD, PyData.eqv, PyData.eqvAll]
    obtain ⟨v, i1, e1, c1, hv, ht⟩ := taken_ok (m := l.length) gk (by omega) (by omega)
    have es : (st ++ [Ct.lst (intsD l)]).set k (.lst (rowD s i1 e1 c1)) = st.set k (.lst (rowD s i1 e1 c1)) ++ [.lst (intsD l)] := by rw [List.set_append_left _ _ hk]
    rw [es] at ht
    have fl : fLen [.mu st.length] (st ++ [Ct.lst (intsD l)]) = some (.d (.int l.length)) := by
      unfold fLen
      simp only [res_mu g1]
      unfold intsD
      rw [List.length_map]
    have g2 : (st.set k (.lst (rowD s i1 e1 c1)) ++ [Ct.lst (intsD l)])[st.length]? = some (.lst (intsD l)) := by simp
    have ev : (intsD l)[v]? = some (.int (l[v] : Nat)) := by unfold intsD; simp [hv]
    have il : v < (intsD l).length := by unfold intsD; rw [List.length_map]; exact hv
    have pop := xPop (a := eVar 3) (b := eCall F__law_taken (aCons (eVar 0) (aCons (eCall (fB fLen) (aCons (eVar 3) aNil)) (aNil)))) (r := [some (.mu k), some (.d (.int n)), some (.d (.tuple (intsD f))), some (.mu st.length)]) (st := st ++ [Ct.lst (intsD l)]) (xVar rfl) g1 (xCall (xCons (xVar rfl) (xCons (xCall (xCons (xVar rfl) xNil) (xB fl)) xNil)) ht) g2 il ev (by omega)
    have ee : (intsD l).eraseIdx v = intsD (l.eraseIdx v) := by exact er_ints l v
    have es2 : (st.set k (.lst (rowD s i1 e1 c1)) ++ [Ct.lst (intsD l)]).set st.length (.lst ((intsD l).eraseIdx v)) = st.set k (.lst (rowD s i1 e1 c1)) ++ [.lst (intsD (l.eraseIdx v))] := by
      rw [ee]
      have : st.length = (st.set k (.lst (rowD s i1 e1 c1))).length := by simp
      rw [this, List.set_append_right _ _ (Nat.le_refl _)]
      simp
    rw [es2] at pop
    have body := yNx (s' := sNx) (ySet (i := 2) (xOp (xVar (i := 2) (r := [some (.mu k), some (.d (.int n)), some (.d (.tuple (intsD f))), some (.mu st.length)]) (st := st ++ [Ct.lst (intsD l)]) rfl) (xTup (xCons pop xNil) rfl (by show 1 ≤ sizeLine; decide)) (addT (by
      show (intsD f).length + 1 ≤ sizeLine
      unfold intsD
      rw [List.length_map]
      exact big (by omega)) _))) yEnd
    rw [show intsD f ++ [PyData.int (l[v] : Nat)] = intsD (f ++ [l[v]]) from intsD_snoc f l[v]] at body
    have h2 : (st.set k (.lst (rowD s i1 e1 c1)))[k]? = some (.lst (rowD s i1 e1 c1)) := by rw [List.getElem?_set_self hk]
    obtain ⟨t, i', e', c', tp, tw⟩ := turn_while hn m (st.set k (.lst (rowD s i1 e1 c1))) k (l.eraseIdx v) (f ++ [l[v]]) i1 e1 c1 (by rw [List.length_eraseIdx_of_lt hv]; omega) h2 (one_more hv f hp) g (by omega)
    refine ⟨t, i', e', c', tp, ?_⟩
    rw [wStep (xTVal (xOp (xVar rfl) (xLst xNil rfl (by show 0 ≤ sizeLine; decide)) hne)) body]
    rw [List.length_set] at tw
    refine tw.trans ?_
    rw [List.set_set]
theorem turn_ok {st : Sto} {k n : Nat} {s : List Int} {i : Nat} {e c : Int} (h : st[k]? = some (.lst (rowD s i e c))) (hn : n ≤ 100) :
    ∃ t i' e' c', t.Perm (List.range n) ∧ F__law_turn [.mu k, .d (.int n)] st = some (.ok (.d (.tuple (intsD t))), st.set k (.lst (rowD s i' e' c'))) := by
  obtain ⟨t, i', e', c', tp, tw⟩ := turn_while hn n st k (List.range n) [] i e c (by simp) h (by simp) fuel (by unfold fuel; omega)
  refine ⟨t, i', e', c', tp, ?_⟩
  have erg : rgD 0 (n : Int) = intsD (List.range n) := by
    unfold rgD intsD
    have : ((n : Int) - 0).toNat = n := by omega
    rw [this]
    refine List.map_congr_left fun j _ => ?_
    simp
  have lrg : eLrg (eVar 1) [some (.mu k), some (.d (.int n)), none, none] st = some (.ok (.mu st.length), st ++ [.lst (intsD (List.range n))]) := by
    have hb : (n : Int) ≤ 16777216 ∧ (-16777216 : Int) ≤ n := by omega
    have e1 : eVar 1 [some (.mu k), some (.d (.int n)), none, none] st = some (.ok (.d (.int n)), st) := rfl
    unfold eLrg
    simp only [bnd_at, e1, res_d, if_pos hb, erg]
  have := fRtS (N := 4) (b := b__law_turn) (xs := [.mu k, .d (.int n)]) (st := st) rfl (yNx (yPar (xCons (xTup xNil rfl (by show 0 ≤ sizeLine; decide)) (xCons lrg xNil))) (yNx (r1 := [some (.mu k), some (.d (.int n)), some (.d (.tuple (intsD t))), some (.mu st.length)]) tw (yRt (yRet (xVar rfl))))) rfl
  rw [List.take_left' (by simp)] at this
  exact this
end ML
end
section
/-! PL10: drawn nets, nets called anew. -/
namespace DL
open PySem
section
variable {k : Nat} {g : GF} {t : TF} {e : EF} {r r1 : Rho} {x : DV} {xs : List DV} {st st1 st2 : Sto} {p : PyData} {acc : List PyData}
theorem lcNo (hg : g x r st = some r1) (ht : t r1 st = some (.ok false, st1)) : lcL k g t e r (x :: xs) st = lcL k g t e r xs st1 := by
  show (match g x r st with | none => none | some r1 => _) = _
  rw [hg]
  show (match t r1 st with | some (.ok false, st1) => _ | some (.ok true, st1) => _ | _ => none) = _
  rw [ht]
theorem lcYes (hg : g x r st = some r1) (ht : t r1 st = some (.ok true, st1)) (he : e r1 st1 = some (.ok (.d p), st2)) (ha : st2[k]? = some (.lst acc)) (hl : acc.length < sizeLine) : lcL k g t e r (x :: xs) st = lcL k g t e r xs (st2.set k (.lst (acc ++ [p]))) := by
  show (match g x r st with | none => none | some r1 => _) = _
  rw [hg]
  show (match t r1 st with | some (.ok false, st1) => _ | some (.ok true, st1) => _ | _ => none) = _
  rw [ht]
  show (match e r1 st1 with | some (.ok (.d p), st2) => _ | _ => none) = _
  rw [he]
  show (match st2[k]? with | some (.lst acc) => _ | _ => none) = _
  rw [ha]
  show (if acc.length < sizeLine then _ else none) = _
  rw [if_pos hl]
end
theorem lc_map {α : Type} (l : List α) (c : α → DV) (f : α → PyData) (h : ∀ x ∈ l, True) : (l.map fun x => (f x)) = l.map f := rfl
theorem eLc_map {α : Type} {it : IF} {g : GF} {t : TF} {e : EF} {vs : List Nat} {r : Rho} {st : Sto} (l : List α) (c : α → DV) (f : α → PyData) (hi : it r st = some (.ok (l.map c), st)) (hl : l.length ≤ sizeLine)
    (hs : ∀ x ∈ l, ∀ st : Sto, ∃ r1, g (c x) (wipeR r vs) st = some r1 ∧ t r1 st = some (.ok true, st) ∧ e r1 st = some (.ok (.d (f x)), st)) : eLc it g t e vs r st = some (.ok (.d (.list (l.map f))), st) := by
  have key : ∀ (l : List α) (st : Sto) (k : Nat) (acc : List PyData), st[k]? = some (.lst acc) → acc.length + l.length ≤ sizeLine → (∀ x ∈ l, ∀ st : Sto, ∃ r1, g (c x) (wipeR r vs) st = some r1 ∧ t r1 st = some (.ok true, st) ∧ e r1 st = some (.ok (.d (f x)), st)) → lcL k g t e (wipeR r vs) (l.map c) st = some (st.set k (.lst (acc ++ l.map f))) := by
    intro l
    induction l with
    | nil =>
      intro st k acc h _ _
      have hk := (List.getElem?_eq_some_iff.mp h)
      show some st = _
      rw [List.map_nil, List.append_nil, ← hk.2, List.set_getElem_self]
    | cons x l ih =>
      intro st k acc h hl hs
      simp only [List.length_cons] at hl
      obtain ⟨r1, e1, e2, e3⟩ := hs x List.mem_cons_self st
      have hk := (List.getElem?_eq_some_iff.mp h).1
      rw [List.map_cons, lcYes e1 e2 e3 h (by omega), ih (st.set k (.lst (acc ++ [f x]))) k (acc ++ [f x]) (by rw [List.getElem?_set_self hk]) (by rw [List.length_append, List.length_singleton]; omega) fun y hy => hs y (List.mem_cons_of_mem _ hy), List.set_set, List.append_assoc]
      rfl
  show DL.bnd (it r) _ st = _
  simp only [bnd_at, hi]
  have q := key l (st ++ [Ct.lst []]) st.length [] (by simp) (by simpa using hl) hs
  simp only [q]
  simp
end DL
namespace ML
open PySem DL
/-! ### pairs in order -/
def ciP (p : Pr) : Int × Int := (p.1, p.2)
def niP (p : Int × Int) : Pr := (p.1.toNat, p.2.toNat)
def sortPr (qs : List Pr) : List Pr := (isort SrtO.lexB (qs.map ciP)).map niP
theorem ni_ci (p : Pr) : niP (ciP p) = p := by
  unfold niP ciP
  simp
theorem sortPr_perm (qs : List Pr) : (sortPr qs).Perm qs := by
  have h := (isort_perm SrtO.lexB (qs.map ciP)).map niP
  rw [List.map_map] at h
  have e : niP ∘ ciP = id := funext ni_ci
  rw [e, List.map_id] at h
  exact h
theorem mem_ci {qs : List Pr} {x : Int × Int} (h : x ∈ isort SrtO.lexB (qs.map ciP)) : ∃ p ∈ qs, x = ciP p := by
  obtain ⟨p, hp, e⟩ := List.mem_map.mp ((isort_perm SrtO.lexB (qs.map ciP)).mem_iff.mp h)
  exact ⟨p, hp, e.symm⟩
theorem sortPr_srt {qs : List Pr} (nd : qs.Nodup) : (sortPr qs).Pairwise ltPr := by
  have h1 : (sortPr qs).Nodup := (sortPr_perm qs).nodup_iff.mpr nd
  have h2 := pairs_pw (qs.map ciP)
  have h3 : (sortPr qs).Pairwise fun p q => p.1 < q.1 ∨ (p.1 = q.1 ∧ p.2 ≤ q.2) := by
    unfold sortPr
    rw [List.pairwise_map]
    refine h2.imp_of_mem fun {a b} ha hb h => ?_
    obtain ⟨p, _, rfl⟩ := mem_ci ha
    obtain ⟨q, _, rfl⟩ := mem_ci hb
    rw [ni_ci, ni_ci]
    unfold leP ciP at h
    simp only at h
    omega
  refine (h3.and h1).imp fun {p q} h => ?_
  obtain ⟨h, hne⟩ := h
  unfold ltPr
  rcases h with h | ⟨h, h'⟩
  · exact .inl h
  · have : p.2 ≠ q.2 := fun e => hne (Prod.ext h e)
    exact .inr ⟨h, by omega⟩
theorem sort_net {n : Nat} {qs : List Pr} (pos : 1 ≤ n) (le : n ≤ 60) (ok : ∀ p ∈ qs, p.1 < p.2 ∧ p.2 < n) (nd : qs.Nodup) (few : qs.length ≤ 4000) : Net n (sortPr qs) :=
  ⟨pos, le, fun p hp => ok p ((sortPr_perm qs).mem_iff.mp hp), sortPr_srt nd, by rw [(sortPr_perm qs).length_eq]; exact few⟩
theorem pairs_prD : ∀ qs : List Pr, pairs? (qs.map prD) = some (qs.map ciP)
  | [] => rfl
  | p :: qs => by
    rw [List.map_cons, List.map_cons]
    unfold pairs?
    rw [show pair? (prD p) = some (ciP p) from rfl]
    simp only [pairs_prD qs, Option.map]
theorem fSortA_prs (qs : List Pr) (st : Sto) : fSortA [.d (.list (qs.map prD))] st = some (.d (.list ((sortPr qs).map prD))) := by
  cases qs with
  | nil => rfl
  | cons p qs =>
    have hi : ints? ((p :: qs).map prD) = none := rfl
    have e : (isort SrtO.lexB ((p :: qs).map ciP)).map ofPair = (sortPr (p :: qs)).map prD := by
      unfold sortPr
      rw [List.map_map]
      refine List.map_congr_left fun x hx => ?_
      obtain ⟨q, _, rfl⟩ := mem_ci hx
      show _ = prD (niP (ciP q))
      rw [ni_ci]
      rfl
    simp only [fSortA, fSorted, sortedP, hi, pairs_prD, Option.map]
    rw [e]
theorem two_ints (a b : Nat) : (isort ltI [(a : Int), (b : Int)]).map PyData.int = [.int (min a b : Nat), .int (max a b : Nat)] := by
  show (if ltI (b : Int) (a : Int) then [(b : Int), (a : Int)] else [(a : Int), (b : Int)]).map PyData.int = _
  by_cases h : b < a
  · have : ltI (b : Int) (a : Int) = true := decide_eq_true (by omega)
    rw [if_pos this, Nat.min_eq_right (by omega), Nat.max_eq_left (by omega)]
    rfl
  · have : ¬ ltI (b : Int) (a : Int) = true := fun e => h (by have := of_decide_eq_true e; omega)
    rw [if_neg this, Nat.min_eq_left (by omega), Nat.max_eq_right (by omega)]
    rfl
theorem sort2_l (a b : Nat) (st : Sto) : fSortA [.d (.list [.int a, .int b])] st = some (.d (.list [.int (min a b : Nat), .int (max a b : Nat)])) := by
  rw [fSortA_l (ns := [(a : Int), (b : Int)]) rfl, two_ints]
theorem sort2_t (a b : Nat) (st : Sto) : fSortA [.d (.tuple [.int a, .int b])] st = some (.d (.list [.int (min a b : Nat), .int (max a b : Nat)])) := by
  show some (DV.d (.list ((isort ltI [(a : Int), (b : Int)]).map .int))) = _
  rw [two_ints]
/-! ### the names -/
def nm (t : List Nat) (i : Nat) : Nat := (t[i]?).getD 0
def up (t : List Nat) (p : Pr) : Pr := (min (nm t p.1) (nm t p.2), max (nm t p.1) (nm t p.2))
theorem nm_at {t : List Nat} {i : Nat} (h : i < t.length) : t[i]? = some (nm t i) := by
  unfold nm
  rw [List.getElem?_eq_getElem h]
  rfl
theorem nm_inj {t : List Nat} (nd : t.Nodup) {i j : Nat} (hi : i < t.length) (hj : j < t.length) (h : nm t i = nm t j) : i = j :=
  (List.getElem?_inj hi nd).mp (by rw [nm_at hi, nm_at hj, h])
theorem ix_nm {t : List Nat} {i : Nat} (h : i < t.length) (st : Sto) : oIx (.d (.tuple (intsD t))) (.d (.int i)) st = some (.d (.int (nm t i : Nat))) :=
  oIx_t _ (atI_nat' (by unfold intsD; rw [List.getElem?_map, nm_at h]; rfl))
theorem nm_lt {t : List Nat} {n : Nat} (p : t.Perm (List.range n)) {i : Nat} (h : i < t.length) : nm t i < n :=
  List.mem_range.mp (p.mem_iff.mp (List.mem_of_getElem? (nm_at h)))
theorem up_ok2 {n : Nat} {t : List Nat} (tp : t.Perm (List.range n)) {p : Pr} (h : p.1 < p.2 ∧ p.2 < n) : (up t p).1 < (up t p).2 ∧ (up t p).2 < n := by
  have len : t.length = n := by rw [tp.length_eq, List.length_range]
  have nd : t.Nodup := tp.nodup_iff.mpr List.nodup_range
  have h1 := nm_lt tp (i := p.1) (by omega)
  have h2 := nm_lt tp (i := p.2) (by omega)
  have h3 : nm t p.1 ≠ nm t p.2 := fun e => by
    have := nm_inj nd (by omega) (by omega) e
    omega
  unfold up
  simp only
  omega
theorem up_inj {n : Nat} {t : List Nat} (tp : t.Perm (List.range n)) {p q : Pr} (hp : p.1 < p.2 ∧ p.2 < n) (hq : q.1 < q.2 ∧ q.2 < n) (h : up t p = up t q) : p = q := by
  have len : t.length = n := by rw [tp.length_eq, List.length_range]
  have nd : t.Nodup := tp.nodup_iff.mpr List.nodup_range
  have e1 := congrArg Prod.fst h
  have e2 := congrArg Prod.snd h
  unfold up at e1 e2
  simp only at e1 e2
  have c : (nm t p.1 = nm t q.1 ∧ nm t p.2 = nm t q.2) ∨ (nm t p.1 = nm t q.2 ∧ nm t p.2 = nm t q.1) := by omega
  rcases c with ⟨c1, c2⟩ | ⟨c1, c2⟩
  · exact Prod.ext (nm_inj nd (by omega) (by omega) c1) (nm_inj nd (by omega) (by omega) c2)
  · have := nm_inj nd (by omega) (by omega) c1
    have := nm_inj nd (by omega) (by omega) c2
    omega
theorem up_nd {n : Nat} {t : List Nat} (tp : t.Perm (List.range n)) : ∀ ps : List Pr, (∀ p ∈ ps, p.1 < p.2 ∧ p.2 < n) → ps.Nodup → (ps.map (up t)).Nodup
  | [], _, _ => .nil
  | p :: ps, ok, nd => by
    obtain ⟨n1, n2⟩ := List.nodup_cons.mp nd
    rw [List.map_cons, List.nodup_cons]
    refine ⟨fun hm => ?_, up_nd tp ps (fun q hq => ok q (List.mem_cons_of_mem _ hq)) n2⟩
    obtain ⟨q, hq, e⟩ := List.mem_map.mp hm
    have := up_inj tp (ok q (List.mem_cons_of_mem _ hq)) (ok p List.mem_cons_self) e
    subst this
    exact n1 hq
theorem up_net {n : Nat} {t : List Nat} {ps : List Pr} (tp : t.Perm (List.range n)) (pos : 1 ≤ n) (le : n ≤ 60) (ok : ∀ p ∈ ps, p.1 < p.2 ∧ p.2 < n) (nd : ps.Nodup) (few : ps.length ≤ 4000) : Net n (sortPr (ps.map (up t))) :=
  sort_net pos le (fun p hp => by
    obtain ⟨q, hq, rfl⟩ := List.mem_map.mp hp
    exact up_ok2 tp (ok q hq)) (up_nd tp ps ok nd) (by rw [List.length_map]; exact few)
theorem net_nd {n : Nat} {ps : List Pr} (N : Net n ps) : ps.Nodup := N.srt.imp fun {p q} h e => by
  subst e
  unfold ltPr at h
  omega
theorem led_ok {n : Nat} {t : List Nat} {ps : List Pr} (tp : t.Perm (List.range n)) (ok : ∀ p ∈ ps, p.1 < p.2 ∧ p.2 < n) (few : ps.length ≤ 4000) (st : Sto) : F__law_led [.d (.tuple (intsD t)), .d (.tuple (ps.map prD))] st = some (.ok (.d (.tuple ((sortPr (ps.map (up t))).map prD))), st) := by
  have len : t.length = n := by rw [tp.length_eq, List.length_range]
  have q : ∀ st, eLc (iSeq (eVar 1)) (gT (gConsF 2 (gConsF 3 (gNilF)))) (tYesF) (eCall (fB fTup) (aCons (eCall (fB fSortA) (aCons (eLst (aCons (eOp oIx (eVar 0) (eVar 2)) (aCons (eOp oIx (eVar 0) (eVar 3)) (aNil)))) aNil)) aNil)) [2, 3] [some (.d (.tuple (intsD t))), some (.d (.tuple (ps.map prD))), none, none] st = some (.ok (.d (.list (ps.map fun p => prD (up t p)))), st) := fun st => by
    refine eLc_map ps (fun p => .d (prD p)) _ (zSeq (xVar rfl) (by rw [itms_t, List.map_map]; rfl)) (big few) fun p hp st => ?_
    obtain ⟨h1, h2⟩ := ok p hp
    refine ⟨[some (.d (.tuple (intsD t))), some (.d (.tuple (ps.map prD))), some (.d (.int p.1)), some (.d (.int p.2))], rfl, rfl, ?_⟩
    exact xCall (xCons (xCall (xCons (xLst (xCons (xOp (xVar rfl) (xVar rfl) (ix_nm (i := p.1) (by omega) _)) (xCons (xOp (xVar rfl) (xVar rfl) (ix_nm (i := p.2) (by omega) _)) xNil)) rfl (by show 2 ≤ sizeLine; decide)) xNil) (xB (sort2_l _ _ _))) xNil) (xB (fTup_l _ _))
  have e : (ps.map fun p => prD (up t p)) = (ps.map (up t)).map prD := by rw [List.map_map]; rfl
  rw [e] at q
  exact fRt rfl (yRt (yRet (xCall (xCons (xCall (xCons (q _) xNil) (xB (fSortA_prs _ _))) xNil) (xB (fTup_l _ _))))) rfl
theorem called_ok {st : Sto} {k n : Nat} {ps : List Pr} {s : List Int} {i : Nat} {e c : Int} (h : st[k]? = some (.lst (rowD s i e c))) (N : Net n ps) :
    ∃ qs i' e' c', Net n qs ∧ F__law_called [.mu k, .d (netD n ps)] st = some (.ok (.d (netD n qs)), st.set k (.lst (rowD s i' e' c'))) := by
  have hn := N.le
  obtain ⟨t, i', e', c', tp, ht⟩ := turn_ok (n := n) h (by omega)
  refine ⟨_, i', e', c', up_net tp N.pos N.le N.ok (net_nd N) N.few, ?_⟩
  have := fRtS (N := 2) (b := b__law_called) (xs := [.mu k, .d (netD n ps)]) (st := st) rfl (yRt (yRet (xTup (xCons (xOp (xVar (i := 1) rfl) xC (ix0 _ _ _)) (xCons (xCall (xCons (xCall (xCons (xVar (i := 0) rfl) (xCons (xOp (xVar (i := 1) rfl) xC (ix0 _ _ _)) xNil)) ht) (xCons (xOp (xVar (i := 1) rfl) xC (ix1 _ _ _)) xNil)) (led_ok tp N.ok N.few _)) xNil)) rfl (by show 2 ≤ sizeLine; decide)))) rfl
  rw [List.take_of_length_le (by simp)] at this
  exact this
end ML
end
section
/-! PL11: the net drawn, the windmill. -/
namespace ML
open PySem DL
theorem net_lc {k n : Nat} {mo : DV} {s : List Int} : ∀ (l acc : List Pr) (st : Sto) (i : Nat) (e c : Int), st[k]? = some (.lst (rowD s i e c)) → acc.length + l.length ≤ 4000 →
    ∃ l2 i' e' c', l2.Sublist l ∧ lcL st.length (gV 3) (tVal (eOp oEq (eCall F__law_taken (aCons (eVar 0) (aCons (eC (.int 2)) (aNil)))) (eC (.int 0)))) (eVar 3) [some (.mu k), some mo, some (.d (.int n)), none] (l.map fun p => .d (prD p)) (st ++ [.lst (acc.map prD)]) = some (st.set k (.lst (rowD s i' e' c')) ++ [.lst ((acc ++ l2).map prD)])
  | [], acc, st, i, e, c, h, _ => ⟨[], i, e, c, List.Sublist.slnil, by
    have hk := (List.getElem?_eq_some_iff.mp h)
    have : st.set k (.lst (rowD s i e c)) = st := by rw [← hk.2, List.set_getElem_self]
    rw [this, List.append_nil]
    rfl⟩
  | p :: l, acc, st, i, e, c, h, hl => by
    have hk := (List.getElem?_eq_some_iff.mp h).1
    simp only [List.length_cons] at hl
    have gk : (st ++ [Ct.lst (acc.map prD)])[k]? = some (.lst (rowD s i e c)) := by rw [List.getElem?_append_left hk]; exact h
    obtain ⟨v, i1, e1, c1, hv, ht⟩ := taken_ok (m := 2) gk (by omega) (by omega)
    have es : (st ++ [Ct.lst (acc.map prD)]).set k (.lst (rowD s i1 e1 c1)) = st.set k (.lst (rowD s i1 e1 c1)) ++ [.lst (acc.map prD)] := by rw [List.set_append_left _ _ hk]
    rw [es] at ht
    have h2 : (st.set k (.lst (rowD s i1 e1 c1)))[k]? = some (.lst (rowD s i1 e1 c1)) := by rw [List.getElem?_set_self hk]
    have tt := xTVal (xOp (f := oEq) (b := eC (.int 0)) (xCall (as := aCons (eVar 0) (aCons (eC (.int 2)) (aNil))) (r := [some (.mu k), some mo, some (.d (.int n)), some (.d (prD p))]) (xCons (xVar (i := 0) rfl) (xCons xC xNil)) ht) xC (eq_ints _ _ _))
    have hlen : (st.set k (.lst (rowD s i1 e1 c1))).length = st.length := by simp
    by_cases hv0 : v = 0
    · subst hv0
      obtain ⟨l2, i2, e2, c2, sl, q⟩ := net_lc (mo := mo) (n := n) l (acc ++ [p]) (st.set k (.lst (rowD s i1 e1 c1))) i1 e1 c1 h2 (by rw [List.length_append, List.length_singleton]; omega)
      refine ⟨p :: l2, i2, e2, c2, sl.cons₂ p, ?_⟩
      have ga : (st.set k (.lst (rowD s i1 e1 c1)) ++ [Ct.lst (acc.map prD)])[st.length]? = some (.lst (acc.map prD)) := by simp
      rw [List.map_cons, lcYes (r := [some (.mu k), some mo, some (.d (.int n)), none]) (r1 := [some (.mu k), some mo, some (.d (.int n)), some (.d (prD p))]) rfl tt (xVar (i := 3) rfl) ga (by
        rw [List.length_map]
        exact Nat.lt_of_lt_of_le (by omega : acc.length < 4001) (by decide))]
      have e3 : (st.set k (.lst (rowD s i1 e1 c1)) ++ [Ct.lst (acc.map prD)]).set st.length (.lst (acc.map prD ++ [prD p])) = st.set k (.lst (rowD s i1 e1 c1)) ++ [.lst ((acc ++ [p]).map prD)] := by
        rw [List.set_append_right _ _ (by rw [hlen]; exact Nat.le_refl _), hlen, Nat.sub_self, List.map_append]
        rfl
      rw [e3]
      rw [hlen, List.set_set, List.append_assoc] at q
      exact q
    · obtain ⟨l2, i2, e2, c2, sl, q⟩ := net_lc (mo := mo) (n := n) l acc (st.set k (.lst (rowD s i1 e1 c1))) i1 e1 c1 h2 (by omega)
      refine ⟨l2, i2, e2, c2, sl.cons p, ?_⟩
      have : ((v : Int) == 0) = false := by simp; omega
      rw [this] at tt
      rw [List.map_cons, lcNo (r := [some (.mu k), some mo, some (.d (.int n)), none]) (r1 := [some (.mu k), some mo, some (.d (.int n)), some (.d (prD p))]) rfl tt]
      rw [hlen, List.set_set] at q
      exact q
theorem eLc_run {it : IF} {g : GF} {t : TF} {e : EF} {vs : List Nat} {r : Rho} {st st1 st2 : Sto} {xs : List DV} {ds : List PyData} (hi : it r st = some (.ok xs, st1)) (h : lcL st1.length g t e (wipeR r vs) xs (st1 ++ [.lst []]) = some (st2 ++ [.lst ds])) (hl : st2.length = st1.length) : eLc it g t e vs r st = some (.ok (.d (.list ds)), st2) := by
  show DL.bnd (it r) _ st = _
  simp only [bnd_at, hi, h]
  rw [← hl]
  simp
theorem law_net_ok {st : Sto} {k m : Nat} {s : List Int} {i : Nat} {e c : Int} (h : st[k]? = some (.lst (rowD s i e c))) (hm : 0 < m) (hm2 : m ≤ 60) :
    ∃ n ps i' e' c', n ≤ m ∧ Net n ps ∧ F__law_net [.mu k, .d (.int m)] st = some (.ok (.d (netD n ps)), st.set k (.lst (rowD s i' e' c'))) := by
  have hk := (List.getElem?_eq_some_iff.mp h).1
  obtain ⟨v, i1, e1, c1, hv, ht⟩ := taken_ok (m := m) h hm (by omega)
  have h2 : (st.set k (.lst (rowD s i1 e1 c1)))[k]? = some (.lst (rowD s i1 e1 c1)) := by rw [List.getElem?_set_self hk]
  have hb := allP_big (n := 1 + v) (by omega)
  obtain ⟨l2, i2, e2, c2, sl, q⟩ := net_lc (mo := .d (.int m)) (n := 1 + v) (allP (1 + v)) [] (st.set k (.lst (rowD s i1 e1 c1))) i1 e1 c1 h2 (by rw [List.length_nil]; omega)
  have e0 : (1 : Int) + (v : Int) = ((1 + v : Nat) : Int) := by omega
  have N : Net (1 + v) l2 := ⟨by omega, by omega, fun p hp => mem_allP.mp (sl.subset hp), (allP_srt _).sublist sl, by
    have := sl.length_le
    omega⟩
  refine ⟨1 + v, l2, i2, e2, c2, by omega, N, ?_⟩
  rw [List.nil_append, List.set_set] at q
  have lc := eLc_run (it := iSeq (eCall F__law_pairs (aCons (eVar 2) (aNil)))) (vs := [3]) (r := [some (.mu k), some (.d (.int m)), some (.d (.int (1 + v : Nat))), none]) (zSeq (xCall (xCons (xVar (i := 2) rfl) xNil) (law_pairs_ok (by omega) _)) (by rw [itms_l, List.map_map]; rfl)) q (by simp)
  have st1 : sSet 2 (eOp oAdd (eC (.int 1)) (eCall F__law_taken (aCons (eVar 0) (aCons (eVar 1) (aNil))))) [some (.mu k), some (.d (.int m)), none, none] st = some (.fl .nx [some (.mu k), some (.d (.int m)), some (.d (.int (1 + v : Nat))), none], st.set k (.lst (rowD s i1 e1 c1))) := by
    rw [← e0]
    exact ySet (xOp xC (xCall (xCons (xVar (i := 0) rfl) (xCons (xVar (i := 1) rfl) xNil)) ht) (oAdd_ii _ _ _))
  have := fRtS (N := 4) (b := b__law_net) (xs := [.mu k, .d (.int m)]) (st := st) rfl (yNx st1 (yRt (yRet (xTup (xCons (xVar (i := 2) rfl) (xCons (xCall (xCons lc xNil) (xB (fTup_l _ _))) xNil)) rfl (by show 2 ≤ sizeLine; decide))))) rfl
  rw [List.take_of_length_le (by simp)] at this
  exact this
def windP : List Pr := [(0, 1), (0, 2), (0, 3), (0, 4), (0, 5), (0, 6), (1, 2), (3, 4), (5, 6)]
def tw (t : List Nat) (p : Pr) : PyData := .tuple [.int (nm t p.1 : Nat), .int (nm t p.2 : Nat)]
theorem windmill_ok2 {st : Sto} {k : Nat} {s : List Int} {i : Nat} {e c : Int} (h : st[k]? = some (.lst (rowD s i e c))) :
    ∃ t i' e' c', t.Perm (List.range 7) ∧ Net 7 (sortPr (windP.map (up t))) ∧ F__law_windmill [.mu k, .d (.int (7 : Nat))] st = some (.ok (.d (netD 7 (sortPr (windP.map (up t))))), st.set k (.lst (rowD s i' e' c'))) := by
  obtain ⟨t, i', e', c', tp, ht⟩ := turn_ok (n := 7) h (by omega)
  have len : t.length = 7 := by rw [tp.length_eq, List.length_range]
  have ok : ∀ p ∈ windP, p.1 < p.2 ∧ p.2 < 7 := by decide
  refine ⟨t, i', e', c', tp, up_net tp (by omega) (by omega) ok (by decide) (by decide), ?_⟩
  have q1 : ∀ st, eLc (iRg2 (eC (.int 1)) (eVar 1)) (gV 4) (tYesF) (eTup (aCons (eOp oIx (eVar 2) (eC (.int 0))) (aCons (eOp oIx (eVar 2) (eVar 4)) (aNil)))) [4] [some (.mu k), some (.d (.int (7 : Nat))), some (.d (.tuple (intsD t))), none, none, none] st = some (.ok (.d (.list ((windP.take 6).map (tw t)))), st) := fun st => by
    refine eLc_map (windP.take 6) (fun p => .d (.int p.2)) _ (zRg2 (m := 1) (n := 7) xC (xVar rfl) (by omega) (by omega)) (by show 6 ≤ sizeLine; decide) fun p hp st => ?_
    have p0 : p.1 = 0 ∧ p.2 < 7 := by revert p; decide
    refine ⟨[some (.mu k), some (.d (.int (7 : Nat))), some (.d (.tuple (intsD t))), none, some (.d (.int p.2)), none], rfl, rfl, ?_⟩
    unfold tw
    rw [p0.1]
    exact xTup (xCons (xOp (xVar rfl) xC (ix_nm (i := 0) (by omega) _)) (xCons (xOp (xVar rfl) (xVar rfl) (ix_nm (i := p.2) (by omega) _)) xNil)) rfl (by show 2 ≤ sizeLine; decide)
  have q2 : ∀ v3 st, eLc (iRg3 (eC (.int 1)) (eOp oSub (eVar 1) (eC (.int 1))) (eC (.int 2))) (gV 4) (tYesF) (eTup (aCons (eOp oIx (eVar 2) (eVar 4)) (aCons (eOp oIx (eVar 2) (eOp oAdd (eVar 4) (eC (.int 1)))) (aNil)))) [4] [some (.mu k), some (.d (.int (7 : Nat))), some (.d (.tuple (intsD t))), v3, none, none] st = some (.ok (.d (.list ((windP.drop 6).map (tw t)))), st) := fun v3 st => by
    refine eLc_map (windP.drop 6) (fun p => .d (.int p.1)) _ rfl (by show 3 ≤ sizeLine; decide) fun p hp st => ?_
    have p0 : p.2 = p.1 + 1 ∧ p.2 < 7 := by revert p; decide
    refine ⟨[some (.mu k), some (.d (.int (7 : Nat))), some (.d (.tuple (intsD t))), v3, some (.d (.int p.1)), none], rfl, rfl, ?_⟩
    unfold tw
    rw [p0.1]
    exact xTup (xCons (xOp (xVar rfl) (xVar rfl) (ix_nm (i := p.1) (by omega) _)) (xCons (xOp (xVar rfl) (xOp (xVar rfl) xC (oAdd_ii _ _ _)) (ix_nm (i := p.1 + 1) (by omega) _)) xNil)) rfl (by show 2 ≤ sizeLine; decide)
  have q3 : ∀ st, eLc (iSeq (eVar 3)) (gV 5) (tYesF) (eCall (fB fTup) (aCons (eCall (fB fSortA) (aCons (eVar 5) aNil)) aNil)) [5] [some (.mu k), some (.d (.int (7 : Nat))), some (.d (.tuple (intsD t))), some (.d (.list (windP.map (tw t)))), none, none] st = some (.ok (.d (.list (windP.map fun p => prD (up t p)))), st) := fun st => by
    refine eLc_map windP (fun p => .d (tw t p)) _ (zSeq (xVar rfl) (by rw [itms_l, List.map_map]; rfl)) (by show 9 ≤ sizeLine; decide) fun p hp st => ?_
    refine ⟨[some (.mu k), some (.d (.int (7 : Nat))), some (.d (.tuple (intsD t))), some (.d (.list (windP.map (tw t)))), none, some (.d (tw t p))], rfl, rfl, ?_⟩
    exact xCall (xCons (xCall (xCons (xVar rfl) xNil) (xB (sort2_t _ _ _))) xNil) (xB (fTup_l _ _))
  have e9 : (windP.map fun p => prD (up t p)) = (windP.map (up t)).map prD := by rw [List.map_map]; rfl
  rw [e9] at q3
  have ad := fun st => addL (a := (windP.take 6).map (tw t)) (b := (windP.drop 6).map (tw t)) (by show 9 ≤ sizeLine; decide) st
  rw [← List.map_append, List.take_append_drop] at ad
  have := fRtS (N := 6) (b := b__law_windmill) (xs := [.mu k, .d (.int (7 : Nat))]) (st := st) rfl (yNx (ySet (i := 2) (xCall (xCons (xVar (i := 0) rfl) (xCons (xVar (i := 1) rfl) xNil)) ht)) (yNx (ySet (i := 3) (q1 _)) (yNx (ySet (i := 3) (xOp (xVar (i := 3) rfl) (q2 _ _) (ad _))) (yRt (yRet (xTup (xCons (xVar (i := 1) rfl) (xCons (xCall (xCons (xCall (xCons (q3 _) xNil) (xB (fSortA_prs _ _))) xNil) (xB (fTup_l _ _))) xNil)) rfl (by show 2 ≤ sizeLine; decide))))))) rfl
  rw [List.take_of_length_le (by simp)] at this
  exact this
theorem windmill_ok {st : Sto} {k : Nat} {s : List Int} {i : Nat} {e c : Int} (h : st[k]? = some (.lst (rowD s i e c))) :
    ∃ ps i' e' c', Net 7 ps ∧ F__law_windmill [.mu k, .d (.int (7 : Nat))] st = some (.ok (.d (netD 7 ps)), st.set k (.lst (rowD s i' e' c'))) := by
  obtain ⟨t, i', e', c', _, N, f⟩ := windmill_ok2 h
  exact ⟨_, i', e', c', N, f⟩
end ML
end
section
/-! PL12: the board, the net of Petersen. -/
namespace DL
open PySem
theorem eLc_filt {α : Type} {it : IF} {g : GF} {t : TF} {e : EF} {vs : List Nat} {r : Rho} {st : Sto} (l : List α) (c : α → DV) (f : α → PyData) (b : α → Bool) (hi : it r st = some (.ok (l.map c), st)) (hl : l.length ≤ sizeLine)
    (hs : ∀ x ∈ l, ∀ st : Sto, ∃ r1, g (c x) (wipeR r vs) st = some r1 ∧ t r1 st = some (.ok (b x), st) ∧ e r1 st = some (.ok (.d (f x)), st)) : eLc it g t e vs r st = some (.ok (.d (.list ((l.filter b).map f))), st) := by
  have key : ∀ (l : List α) (st : Sto) (k : Nat) (acc : List PyData), st[k]? = some (.lst acc) → acc.length + l.length ≤ sizeLine → (∀ x ∈ l, ∀ st : Sto, ∃ r1, g (c x) (wipeR r vs) st = some r1 ∧ t r1 st = some (.ok (b x), st) ∧ e r1 st = some (.ok (.d (f x)), st)) → lcL k g t e (wipeR r vs) (l.map c) st = some (st.set k (.lst (acc ++ (l.filter b).map f))) := by
    intro l
    induction l with
    | nil =>
      intro st k acc h _ _
      have hk := (List.getElem?_eq_some_iff.mp h)
      show some st = _
      rw [List.filter_nil, List.map_nil, List.append_nil, ← hk.2, List.set_getElem_self]
    | cons x l ih =>
      intro st k acc h hl hs
      simp only [List.length_cons] at hl
      obtain ⟨r1, e1, e2, e3⟩ := hs x List.mem_cons_self st
      have hk := (List.getElem?_eq_some_iff.mp h).1
      cases hb : b x with
      | true =>
        rw [hb] at e2
        rw [List.map_cons, lcYes e1 e2 e3 h (by omega), ih (st.set k (.lst (acc ++ [f x]))) k (acc ++ [f x]) (by rw [List.getElem?_set_self hk]) (by rw [List.length_append, List.length_singleton]; omega) fun y hy => hs y (List.mem_cons_of_mem _ hy), List.set_set, List.append_assoc, List.filter_cons_of_pos hb]
        rfl
      | false =>
        rw [hb] at e2
        rw [List.map_cons, lcNo e1 e2, ih st k acc h (by omega) fun y hy => hs y (List.mem_cons_of_mem _ hy), List.filter_cons_of_neg (by rw [hb]; decide)]
  show DL.bnd (it r) _ st = _
  simp only [bnd_at, hi]
  have q := key l (st ++ [Ct.lst []]) st.length [] (by simp) (by simpa using hl) hs
  simp only [q]
  simp
end DL
namespace ML
open PySem DL
theorem eq_nil (l : List Nat) (st : Sto) : oEq (.d (.list (intsD l))) (.d (.list [])) st = some (.d (.bool l.isEmpty)) := by
  have hs : (SeqAt.shaped (.list (intsD l)) && SeqAt.shaped (.list [])) = true := by rw [shaped_ints]; rfl
  show (if (SeqAt.shaped (.list (intsD l)) && SeqAt.shaped (.list [])) = true then some (DV.d (.bool (PyData.eqv (.list (intsD l)) (.list [])))) else none) = _
  rw [if_pos hs]
  cases l with
  | nil => rfl
  | cons x l => simp [intsD, PyData.eqv, PyData.eqvAll]
theorem eq_nats (a b : Nat) (st : Sto) : oEq (.d (.int a)) (.d (.int b)) st = some (.d (.bool (a == b))) := by
  rw [eq_ints]
  congr 3
  rw [Bool.eq_iff_iff]
  simp
  omega
theorem in_pr (z : Nat) (p : Pr) (st : Sto) : oIn (.d (.int z)) (.d (prD p)) st = some (.d (.bool (p.1 == z || p.2 == z))) := by
  show some (DV.d (.bool (PyData.eqv (.int p.1) (.int z) || (PyData.eqv (.int p.2) (.int z) || false)))) = _
  congr 3
  simp only [PyData.eqv, Bool.or_false]
  congr 1 <;> rw [Bool.eq_iff_iff] <;> simp <;> omega
def P5 (i : Nat) : Pr := ((allP 5)[i]?).getD (0, 0)
def far (p : Pr) : Bool := ([(P5 p.1).1, (P5 p.1).2].filter fun z => (P5 p.2).1 == z || (P5 p.2).2 == z).isEmpty
def petP : List Pr := (allP 10).filter far
def boardC (p : Pr) : Bool := p.1 / 3 == p.2 / 3 || p.1 % 3 == p.2 % 3
def boardP : List Pr := (allP 9).filter boardC
theorem board_net : Net 9 boardP := ⟨by decide, by decide, by decide, (allP_srt 9).filter _, by decide⟩
theorem pet_net : Net 10 petP := ⟨by decide, by decide, by decide, (allP_srt 10).filter _, by decide⟩
theorem ix_P5 {i : Nat} (h : i < 10) (st : Sto) : oIx (.d (.list ((allP 5).map prD))) (.d (.int i)) st = some (.d (prD (P5 i))) := by
  refine oIx_l _ (atI_nat' ?_)
  rw [List.getElem?_map]
  have hl : i < (allP 5).length := h
  unfold P5
  rw [List.getElem?_eq_getElem hl]
  rfl
theorem petersen_ok (st : Sto) : F__law_petersen [] st = some (.ok (.d (.tuple (petP.map prD))), st) := by
  have q : ∀ st, eLc (iSeq (eCall F__law_pairs (aCons (eC (.int 10)) (aNil)))) (gV 1) (tVal (eOp oEq (eLc (iSeq (eOp oIx (eVar 0) (eOp oIx (eVar 1) (eC (.int 0))))) (gV 2) (tVal (eOp oIn (eVar 2) (eOp oIx (eVar 0) (eOp oIx (eVar 1) (eC (.int 1)))))) (eVar 2) [2]) (eLst (aNil)))) (eVar 1) [1] [some (.d (.list ((allP 5).map prD))), none, none] st = some (.ok (.d (.list (petP.map prD))), st) := fun st => by
    refine eLc_filt (allP 10) (fun p => .d (prD p)) prD far (zSeq (xCall (xCons xC xNil) (law_pairs_ok (n := 10) (by omega) _)) (by rw [itms_l, List.map_map]; rfl)) (Nat.le_trans (allP_big (by omega)) (big (by omega))) fun p hp st => ?_
    obtain ⟨h1, h2⟩ := mem_allP.mp hp
    refine ⟨[some (.d (.list ((allP 5).map prD))), some (.d (prD p)), none], rfl, ?_, xVar rfl⟩
    have inn : eLc (iSeq (eOp oIx (eVar 0) (eOp oIx (eVar 1) (eC (.int 0))))) (gV 2) (tVal (eOp oIn (eVar 2) (eOp oIx (eVar 0) (eOp oIx (eVar 1) (eC (.int 1)))))) (eVar 2) [2] [some (.d (.list ((allP 5).map prD))), some (.d (prD p)), none] st = some (.ok (.d (.list (([(P5 p.1).1, (P5 p.1).2].filter fun z => (P5 p.2).1 == z || (P5 p.2).2 == z).map fun (i : Nat) => .int (i : Int)))), st) := by
      refine eLc_filt [(P5 p.1).1, (P5 p.1).2] (fun (z : Nat) => .d (.int z)) (fun (z : Nat) => .int z) _ (zSeq (xOp (xVar rfl) (xOp (xVar rfl) xC (ix0 _ _ _)) (ix_P5 (i := p.1) (by omega) _)) rfl) (by show 2 ≤ sizeLine; decide) fun z hz st => ?_
      exact ⟨[some (.d (.list ((allP 5).map prD))), some (.d (prD p)), some (.d (.int z))], rfl, xTVal (xOp (xVar rfl) (xOp (xVar rfl) (xOp (xVar rfl) xC (ix1 _ _ _)) (ix_P5 (i := p.2) (by omega) _)) (in_pr z _ _)), xVar rfl⟩
    exact xTVal (xOp inn (xLst xNil rfl (by show 0 ≤ sizeLine; decide)) (eq_nil _ _))
  exact fRt rfl (yNx (ySet (i := 0) (xCall (xCons xC xNil) (law_pairs_ok (n := 5) (by omega) _))) (yRt (yRet (xCall (xCons (q _) xNil) (xB (fTup_l _ _)))))) rfl
theorem fdiv3 (a : Nat) (st : Sto) : oFdiv (.d (.int a)) (.d (.int (3 : Nat))) st = some (.d (.int (a / 3 : Nat))) := by
  rw [oFdiv_ii _ ⟨by decide, by decide⟩, Int.fdiv_eq_ediv_of_nonneg _ (by decide)]
  rfl
theorem mod3 (a : Nat) (st : Sto) : oMod (.d (.int a)) (.d (.int (3 : Nat))) st = some (.d (.int (a % 3 : Nat))) := by
  rw [oMod_ii _ (by decide), Int.fmod_eq_emod_of_nonneg _ (by decide)]
  rfl
abbrev bdB : SF := sSeq (sIf (DL.tOr (tVal (eOp oEq (eOp oFdiv (eVar 2) (eVar 0)) (eOp oFdiv (eVar 3) (eVar 0)))) (tVal (eOp oEq (eOp oMod (eVar 2) (eVar 0)) (eOp oMod (eVar 3) (eVar 0))))) (sSeq (sExpr (eApp (eVar 1) (eTup (aCons (eVar 2) (aCons (eVar 3) (aNil)))))) (sNx)) (sNx)) (sNx)
theorem board_loop {st : Sto} : ∀ (l acc : List Pr) (x2 x3 : Option DV), acc.length + l.length ≤ 4000 →
    ∃ y2 y3, forL (gT (gConsF 2 (gConsF 3 (gNilF)))) bdB (l.map fun p => .d (prD p)) [some (.d (.int (3 : Nat))), some (.mu st.length), x2, x3] (st ++ [.lst (acc.map prD)]) = some (.fl .nx [some (.d (.int (3 : Nat))), some (.mu st.length), y2, y3], st ++ [.lst ((acc ++ l.filter boardC).map prD)])
  | [], acc, x2, x3, _ => ⟨x2, x3, by rw [List.filter_nil, List.append_nil]; rfl⟩
  | p :: l, acc, x2, x3, hl => by
    simp only [List.length_cons] at hl
    have ga : (st ++ [Ct.lst (acc.map prD)])[st.length]? = some (.lst (acc.map prD)) := by simp
    have la : (acc.map prD).length < sizeLine := by
      rw [List.length_map]
      exact Nat.lt_of_lt_of_le (by omega : acc.length < 4001) (by decide)
    have tt : DL.tOr (tVal (eOp oEq (eOp oFdiv (eVar 2) (eVar 0)) (eOp oFdiv (eVar 3) (eVar 0)))) (tVal (eOp oEq (eOp oMod (eVar 2) (eVar 0)) (eOp oMod (eVar 3) (eVar 0)))) [some (.d (.int (3 : Nat))), some (.mu st.length), some (.d (.int p.1)), some (.d (.int p.2))] (st ++ [.lst (acc.map prD)]) = some (.ok (boardC p), st ++ [.lst (acc.map prD)]) := by
      have t1 := xTVal (xOp (xOp (xVar (i := 2) (r := [some (.d (.int (3 : Nat))), some (.mu st.length), some (.d (.int p.1)), some (.d (.int p.2))]) (st := st ++ [Ct.lst (acc.map prD)]) rfl) (xVar (i := 0) rfl) (fdiv3 p.1 _)) (xOp (xVar (i := 3) rfl) (xVar (i := 0) rfl) (fdiv3 p.2 _)) (eq_nats _ _ _))
      have t2 := xTVal (xOp (xOp (xVar (i := 2) (r := [some (.d (.int (3 : Nat))), some (.mu st.length), some (.d (.int p.1)), some (.d (.int p.2))]) (st := st ++ [Ct.lst (acc.map prD)]) rfl) (xVar (i := 0) rfl) (mod3 p.1 _)) (xOp (xVar (i := 3) rfl) (xVar (i := 0) rfl) (mod3 p.2 _)) (eq_nats _ _ _))
      unfold boardC
      cases h : (p.1 / 3 == p.2 / 3) with
      | true =>
        rw [h] at t1
        exact xTOrT t1
      | false =>
        rw [h] at t1
        rw [Bool.false_or]
        exact xTOrF t1 t2
    cases hb : boardC p with
    | true =>
      rw [hb] at tt
      have body := yNx (s' := sNx) (yIfT (s' := sNx) tt (yNx (s' := sNx) (yExpr (xApp (xVar (i := 1) rfl) ga (xTup (xCons (xVar (i := 2) rfl) (xCons (xVar (i := 3) rfl) xNil)) rfl (by show 2 ≤ sizeLine; decide)) ga la)) yEnd)) yEnd
      have es : (st ++ [Ct.lst (acc.map prD)]).set st.length (.lst (acc.map prD ++ [prD p])) = st ++ [.lst ((acc ++ [p]).map prD)] := by
        rw [List.set_append_right _ _ (Nat.le_refl _), Nat.sub_self, List.map_append]
        rfl
      obtain ⟨y2, y3, f⟩ := board_loop (st := st) l (acc ++ [p]) (some (.d (.int p.1))) (some (.d (.int p.2))) (by rw [List.length_append, List.length_singleton]; omega)
      refine ⟨y2, y3, ?_⟩
      rw [List.map_cons, forL_nx (r1 := [some (.d (.int (3 : Nat))), some (.mu st.length), some (.d (.int p.1)), some (.d (.int p.2))]) rfl body, List.filter_cons_of_pos hb]
      rw [List.append_assoc] at f
      refine Eq.trans ?_ f
      exact congrArg _ es
    | false =>
      rw [hb] at tt
      have body := yNx (s' := sNx) (yIfF (s := sSeq (sExpr (eApp (eVar 1) (eTup (aCons (eVar 2) (aCons (eVar 3) (aNil)))))) (sNx)) tt yEnd) yEnd
      obtain ⟨y2, y3, f⟩ := board_loop (st := st) l acc (some (.d (.int p.1))) (some (.d (.int p.2))) (by omega)
      refine ⟨y2, y3, ?_⟩
      rw [List.map_cons, forL_nx (r1 := [some (.d (.int (3 : Nat))), some (.mu st.length), some (.d (.int p.1)), some (.d (.int p.2))]) rfl body, List.filter_cons_of_neg (by rw [hb]; decide)]
      exact f
theorem fTup_mu {st : Sto} {k : Nat} {ds : List PyData} (h : st[k]? = some (.lst ds)) : fTup [.mu k] st = some (.d (.tuple ds)) := by
  unfold fTup
  simp only [res_mu h]
theorem board_ok (st : Sto) : F__law_board [.d (.int (3 : Nat))] st = some (.ok (.d (.tuple (boardP.map prD))), st) := by
  obtain ⟨y2, y3, f⟩ := board_loop (st := st) (allP 9) [] none none (Nat.le_trans (by simpa using allP_big (n := 9) (by omega)) (by omega : 3600 ≤ 4000))
  rw [List.nil_append] at f
  have hm : oMul (.d (.int (3 : Nat))) (.d (.int (3 : Nat))) (st ++ [.lst []]) = some (.d (.int (9 : Nat))) := oMul_ii _ (.inl ⟨by decide, by decide⟩)
  have := fRtS (N := 4) (b := b__law_board) (xs := [.d (.int (3 : Nat))]) (st := st) rfl (yNx (ySet (i := 1) (xLstM xNil rfl (by show 0 ≤ sizeLine; decide))) (yNx (yFor (zSeq (xCall (xCons (xOp (xVar (i := 0) rfl) (xVar (i := 0) rfl) hm) xNil) (law_pairs_ok (n := 9) (by omega) _)) (by rw [itms_l, List.map_map]; rfl)) f) (yRt (yRet (xCall (xCons (xVar (i := 1) rfl) xNil) (xB (fTup_mu (ds := boardP.map prD) (by simp [boardP])))))))) rfl
  rw [List.take_left' rfl] at this
  exact this
end ML
end
section
/-! PL13: answers side by side. -/
namespace ML
open PySem DL
theorem fl_ints (d : Nat) (l : List Nat) (h : l.length ≤ 4000) : Fl (d + 1) (.tuple (intsD l)) := .tup _ _ (fun x hx => by
  obtain ⟨i, _, rfl⟩ := List.mem_map.mp hx
  exact .int _ _) (by unfold intsD; rw [List.length_map]; exact h)
theorem fl_tup2 {d : Nat} {a b : PyData} (ha : Fl d a) (hb : Fl d b) : Fl (d + 1) (.tuple [a, b]) := .tup _ _ (fun x hx => by
  rcases List.mem_cons.mp hx with e | e
  · rw [e]; exact ha
  · rw [List.mem_singleton.mp e]; exact hb) (by show 2 ≤ 4000; decide)
theorem fl_lst2 {d : Nat} {a b : PyData} (ha : Fl d a) (hb : Fl d b) : Fl (d + 1) (.list [a, b]) := .lst _ _ (fun x hx => by
  rcases List.mem_cons.mp hx with e | e
  · rw [e]; exact ha
  · rw [List.mem_singleton.mp e]; exact hb) (by show 2 ≤ 4000; decide)
theorem fl_cnts {n : Nat} {ps : List Pr} (N : Net n ps) : Fl 2 (cntsD n ps) := by
  have hb := allP_big N.le
  have one : ∀ l : List Nat, l.length ≤ 4000 → Fl 1 (.tuple ((usort (castL l)).map .int)) := fun l hl => .tup _ _ (fun x hx => by
    obtain ⟨i, _, rfl⟩ := List.mem_map.mp hx
    exact .int _ _) (by
    rw [List.length_map]
    refine Nat.le_trans (usort_len _) ?_
    unfold castL
    rw [List.length_map]
    exact hl)
  refine fl_tup2 (one _ ?_) (one _ ?_)
  · unfold jl
    rw [List.length_map]
    exact Nat.le_trans (List.length_filter_le _ _) (by omega)
  · unfold al
    rw [List.length_map]
    exact Nat.le_trans (List.length_filter_le _ _) (by omega)
theorem fl_net {n : Nat} {ps : List Pr} (h : ps.length ≤ 4000) : Fl 3 (netD n ps) := fl_tup2 (.int _ _) (.tup _ _ (fun x hx => by
  obtain ⟨p, _, rfl⟩ := List.mem_map.mp hx
  exact fl_tup2 (.int _ _) (.int _ _)) (by rw [List.length_map]; exact h))
theorem shaped_tints (l : List Nat) : SeqAt.shaped (.tuple (intsD l)) = true := by
  have h := depth_ints l
  unfold SeqAt.shaped
  rw [Bool.and_eq_true, decide_eq_true_eq]
  refine ⟨by rw [PyData.canLay0]; exact lay_ints l, ?_⟩
  rw [PyData.depth]
  omega
theorem shaped_net (n : Nat) (ps : List Pr) : SeqAt.shaped (netD n ps) = true := by
  have h := depth_prs ps
  unfold SeqAt.shaped netD
  rw [Bool.and_eq_true, decide_eq_true_eq]
  refine ⟨?_, ?_⟩
  · simp only [PyData.canLay0, PyData.canLayAll0, lay_prs]
    rfl
  · simp only [PyData.depth, PyData.depthAll]
    omega
theorem oNe_at {p : PyData} (h : SeqAt.shaped p = true) (st : Sto) : oNe (.d p) (.d p) st = some (.d (.bool false)) := by
  have e := SeqAt.eqv_refl p (SeqAt.canLay_of_shaped h)
  simp only [oNe, res_d, h, Bool.and_self, if_true, e, Bool.not_true]
/-! ### what is left -/
theorem ltPr_ext {l m : List Pr} (hl : l.Pairwise ltPr) (hm : m.Pairwise ltPr) (h : ∀ p, p ∈ l ↔ p ∈ m) : l = m := by
  have nd : ∀ l : List Pr, l.Pairwise ltPr → l.Nodup := fun l hl => hl.imp fun {p q} h e => by
    subst e
    unfold ltPr at h
    omega
  exact ((List.perm_ext_iff_of_nodup (nd l hl) (nd m hm)).mpr h).eq_of_pairwise (fun a b _ _ x y => by
    unfold ltPr at x y
    omega) hl hm
theorem adj_up {n : Nat} {ps : List Pr} (N : Net n ps) {p : Pr} (h : p.1 < p.2) : adj ps p.1 p.2 = decide (p ∈ ps) := by
  rw [adj_min N, Nat.min_eq_left (by omega), Nat.max_eq_right (by omega)]
theorem left_rest {n : Nat} {ps : List Pr} (N : Net n ps) : ((allP n).filter fun p => !decide (p ∈ ps)) = restP n ps := by
  unfold restP
  refine List.filter_congr fun p hp => ?_
  rw [adj_up N (mem_allP.mp hp).1]
theorem mem_rest {n : Nat} {ps : List Pr} (N : Net n ps) {p : Pr} : p ∈ restP n ps ↔ (p.1 < p.2 ∧ p.2 < n) ∧ p ∉ ps := by
  rw [← left_rest N, List.mem_filter, mem_allP]
  simp
theorem rest_rest {n : Nat} {ps : List Pr} (N : Net n ps) : restP n (restP n ps) = ps := by
  refine ltPr_ext (rest_net (rest_net N)).srt N.srt fun p => ?_
  rw [mem_rest (rest_net N), mem_rest N]
  constructor
  · rintro ⟨h1, h2⟩
    exact Classical.byContradiction fun c => h2 ⟨h1, c⟩
  · intro h
    exact ⟨N.ok p h, fun c => c.2 h⟩
theorem com_self (n : Nat) (ps : List Pr) (a : Nat) : com n ps a a = nbr n ps a := by
  unfold com nbr
  congr 1
  funext c
  rw [Bool.and_self]
theorem near_at3 {n : Nat} {ps : List Pr} (N : Net n ps) {r : Rho} {i0 iv : Nat} (r0 : r[i0]? = some (some (.d (netD n ps)))) (h0 : iv ≠ i0) (hv : iv < r.length) (st : Sto) :
    eLc (iRg1 (eOp oIx (eVar i0) (eC (.int 0)))) (gV iv) (tYesF) (eCall F__law_friends (aCons (eVar i0) (aCons (eVar iv) (aNil)))) [iv] r st = some (.ok (.d (nearD n ps)), st) := by
  have hn := N.le
  refine eLc_map (List.range n) (fun (a : Nat) => .d (.int a)) _ ?_ (by rw [List.length_range]; exact big (by omega)) fun a ha st => ?_
  · refine (zRg1 (n := n) (xOp (xVar r0) xC (ix0 _ _ _)) (by omega)).trans ?_
    unfold rng
    simp
  · have w0 : ((r.set iv none).set iv (some (DV.d (.int (a : Int)))))[i0]? = some (some (.d (netD n ps))) := by
      rw [List.getElem?_set_ne h0, List.getElem?_set_ne h0]
      exact r0
    have wv : ((r.set iv none).set iv (some (DV.d (.int (a : Int)))))[iv]? = some (some (.d (.int a))) := by
      rw [List.getElem?_set_self (by simpa using hv)]
    exact ⟨(r.set iv none).set iv (some (DV.d (.int (a : Int)))), rfl, rfl, xCall (xCons (xVar w0) (xCons (xVar wv) xNil)) (law_friends_ok N _)⟩
end ML
end
section
/-! PL14: the common number, the same degree, boards of any side. -/
namespace DL
open PySem
theorem xSortSetA {a : EF} {r : Rho} {st st1 : Sto} {x : DV} {d : PyData} {ns : List Int} (ha : a r st = some (.ok x, st1)) (h : res st1 x = some d) (hn : intsOf d = some ns) (hl : ns.length < 4000) (hu : (usort ns).length < 64) : eSortSetA a r st = some (.ok (.d (.list ((usort ns).map .int))), st1) := by
  have hb := And.intro hl hu
  unfold eSortSetA
  simp only [bnd_at, ha, lft_at, h, Option.bind_some, hn, if_pos hb]
end DL
namespace ML
open PySem DL
/-- the one that a list has, if it has one -/
def oneOf (l : List Int) : PyData := match l with
  | [x] => .int x
  | _ => .none
theorem fLen_ints (l : List Int) (st : Sto) : fLen [.d (.list (l.map .int))] st = some (.d (.int l.length)) := by rw [fLen_l, List.length_map]
theorem one_ok {i : Nat} {l : List Int} {r : Rho} {st : Sto} (h : r[i]? = some (some (.d (.list (l.map .int))))) : eIf (tVal (eOp oEq (eCall (fB fLen) (aCons (eVar i) aNil)) (eC (.int 1)))) (eOp oIx (eVar i) (eC (.int 0))) (eC .none) r st = some (.ok (.d (oneOf l)), st) := by
  have t := xTVal (xOp (xCall (xCons (xVar (st := st) h) xNil) (xB (fLen_ints l _))) (xC (p := .int 1)) (eq_ints _ _ _))
  match l, h, t with
  | [], h, t => exact xIfF t xC
  | [x], h, t => exact xIfT t (xOp (xVar h) xC (oIx_l _ rfl))
  | x :: y :: l, h, t =>
    have : (((x :: y :: l).length : Int) == 1) = false := by simp; omega
    rw [this] at t
    exact xIfF t xC
/-! ### the common number -/
def cmnL (n : Nat) (ps : List Pr) : List Int := usort (usort (castL (jl n ps)) ++ usort (castL (al n ps)))
theorem ints_app (a b : List Int) : intsOf (.list (a.map .int ++ b.map .int)) = some (a ++ b) := by
  show ints? _ = _
  rw [← List.map_append, ints_cast]
theorem ints_appT (a b : List Int) : intsOf (.tuple (a.map .int ++ b.map .int)) = some (a ++ b) := by
  show ints? _ = _
  rw [← List.map_append, ints_cast]
theorem us_j {n : Nat} {ps : List Pr} : (usort (castL (jl n ps))).length ≤ n + 1 := usort_below fun b hb => by
  obtain ⟨p, _, rfl⟩ := List.mem_map.mp hb
  exact cnt_le n ps p.1 p.2
theorem us_a {n : Nat} {ps : List Pr} : (usort (castL (al n ps))).length ≤ n + 1 := usort_below fun b hb => by
  obtain ⟨p, _, rfl⟩ := List.mem_map.mp hb
  exact cnt_le n ps p.1 p.2
theorem mem_jl {n : Nat} {ps : List Pr} {z : Int} (h : z ∈ usort (castL (jl n ps)) ++ usort (castL (al n ps))) : ∃ b : Nat, b < n + 1 ∧ z = (b : Int) := by
  rcases List.mem_append.mp h with h | h
  all_goals
    rw [usort_mem] at h
    obtain ⟨b, hb, rfl⟩ := List.mem_map.mp h
    obtain ⟨p, _, rfl⟩ := List.mem_map.mp hb
    exact ⟨_, cnt_le n ps p.1 p.2, rfl⟩
theorem cmn_len {n : Nat} {ps : List Pr} : (cmnL n ps).length ≤ n + 1 := nodup_len ((usort_pw _).imp fun {a b} h e => by omega) fun z hz => mem_jl ((usort_mem z _).mp hz)
theorem common_number_of_ok {n : Nat} {ps : List Pr} (N : Net n ps) (st : Sto) : F_common_number_of [.d (netD n ps)] st = some (.ok (.d (oneOf (cmnL n ps))), st) := by
  have hn := N.le
  have lj := us_j (n := n) (ps := ps)
  have la := us_a (n := n) (ps := ps)
  have lc := cmn_len (n := n) (ps := ps)
  have ad := fun st => addL (a := (usort (castL (jl n ps))).map .int) (b := (usort (castL (al n ps))).map .int) (by
    rw [List.length_map, List.length_map]
    exact big (by omega)) st
  have ss := xSortSetA (r := [some (.d (netD n ps)), some (.d (.list ((usort (castL (jl n ps))).map .int))), some (.d (.list ((usort (castL (al n ps))).map .int))), none]) (st := st) (xOp (xVar (i := 1) rfl) (xVar (i := 2) rfl) (ad _)) rfl (ints_app _ _) (by rw [List.length_append]; omega) (by show (cmnL n ps).length < 64; omega)
  exact fRt rfl (yNx (yAsg (xCall (xCons (xVar rfl) xNil) (counts_of_ok N st)) rfl) (yNx (ySet ss) (yRt (yRet (one_ok (l := cmnL n ps) rfl))))) (by unfold oneOf; split <;> rfl)
theorem common_number_ok {n : Nat} {ps : List Pr} (N : Net n ps) (st : Sto) : F_common_number [.d (netD n ps)] st = some (.ok (.d (oneOf (cmnL n ps))), st) :=
  fRt rfl (yNx (yExpr (xCall (xCons (xVar rfl) xNil) (need_net_ok N _))) (yRt (yRet (xCall (xCons (xVar rfl) xNil) (common_number_of_ok N st))))) (by unfold oneOf; split <;> rfl)
/-! ### degrees -/
def degL (n : Nat) (ps : List Pr) : List Nat := (List.range n).map fun a => (nbr n ps a).length
def sdL (n : Nat) (ps : List Pr) : List Int := usort (castL (degL n ps))
theorem deg_len {n : Nat} {ps : List Pr} : (degL n ps).length = n := by
  unfold degL
  rw [List.length_map, List.length_range]
theorem sd_len {n : Nat} {ps : List Pr} : (sdL n ps).length ≤ n + 1 := usort_below fun b hb => by
  obtain ⟨a, _, rfl⟩ := List.mem_map.mp hb
  exact Nat.lt_succ_of_le (nbr_len n ps a)
theorem degrees_of_ok {n : Nat} {ps : List Pr} (N : Net n ps) (st : Sto) : F_degrees_of [.d (netD n ps)] st = some (.ok (.d (.list (intsD (degL n ps)))), st) := by
  obtain ⟨kss, T, fe⟩ := friend_lists_ok N
  have hn := N.le
  have q : ∀ st, eLc (iSeq (eCall F_friend_lists (aCons (eVar 0) (aNil)))) (gV 1) (tYesF) (eCall (fB fLen) (aCons (eVar 1) aNil)) [1] [some (.d (netD n ps)), none] st = some (.ok (.d (.list (kss.map fun ks => .int ks.length))), st) := fun st => by
    refine eLc_map kss (fun ks => .dk ks) _ (zSeq (xCall (xCons (xVar rfl) xNil) (fe _)) rfl) (by rw [T.len]; exact big (by omega)) fun ks hk st => ?_
    exact ⟨[some (.d (netD n ps)), some (.dk ks)], rfl, rfl, xCall (xCons (xVar rfl) xNil) (xB rfl)⟩
  have e : (kss.map fun ks => PyData.int ks.length) = intsD (degL n ps) := by
    apply List.ext_getElem?
    intro i
    unfold intsD degL
    rw [List.getElem?_map, List.getElem?_map, List.getElem?_map]
    by_cases hi : i < n
    · obtain ⟨ks, h1, _, _, h4, _⟩ := T.at_ i hi
      rw [h1, List.getElem?_range hi]
      have := (isort_perm ltI ks).length_eq
      rw [h4, List.length_map] at this
      simp only [Option.map_some]
      rw [this]
    · rw [List.getElem?_eq_none (by rw [T.len]; omega), List.getElem?_eq_none (by rw [List.length_range]; omega)]
      rfl
  rw [e] at q
  exact fRt rfl (yRt (yRet (q st))) rfl
theorem same_degree_ok {n : Nat} {ps : List Pr} (N : Net n ps) (st : Sto) : F_same_degree [.d (netD n ps)] st = some (.ok (.d (oneOf (sdL n ps))), st) := by
  have hn := N.le
  have ls := sd_len (n := n) (ps := ps)
  have ss := xSortSet (r := [some (.d (netD n ps)), none]) (st := st) (xCall (xCons (xVar (i := 0) rfl) xNil) (degrees_of_ok N st)) rfl (ints_intsD _) (by rw [List.length_map, deg_len]; omega) (by show (sdL n ps).length < 64; omega)
  exact fRt rfl (yNx (yExpr (xCall (xCons (xVar rfl) xNil) (need_net_ok N _))) (yNx (ySet ss) (yRt (yRet (one_ok (l := sdL n ps) rfl))))) (by unfold oneOf; split <;> rfl)
end ML
end
section
/-! PL15: nets in which any two have as many in common are regular (walks of three steps). -/
namespace ML
open PySem DL
/-- sums over the halls -/
def sumF (l : List Nat) (f : Nat → Nat) : Nat := (l.map f).sum
theorem sumF_nil (f : Nat → Nat) : sumF [] f = 0 := rfl
theorem sumF_cons (a : Nat) (l : List Nat) (f : Nat → Nat) : sumF (a :: l) f = f a + sumF l f := by simp [sumF]
theorem sumF_add (l : List Nat) (f g : Nat → Nat) : sumF l (fun x => f x + g x) = sumF l f + sumF l g := by
  induction l with
  | nil => rfl
  | cons a l ih => simp only [sumF_cons, ih]; omega
theorem sumF_congr {l : List Nat} {f g : Nat → Nat} (h : ∀ x ∈ l, f x = g x) : sumF l f = sumF l g := by
  unfold sumF
  rw [List.map_congr_left h]
theorem sumF_zero (l : List Nat) : sumF l (fun _ => 0) = 0 := by
  induction l with
  | nil => rfl
  | cons a l ih => rw [sumF_cons, ih]
theorem sumF_swap (l m : List Nat) (f : Nat → Nat → Nat) : sumF l (fun x => sumF m (fun y => f x y)) = sumF m (fun y => sumF l (fun x => f x y)) := by
  induction l with
  | nil => simp only [sumF_nil]; rw [sumF_zero]
  | cons a l ih =>
    rw [sumF_cons, ih, ← sumF_add]
    exact sumF_congr fun y _ => (sumF_cons a l (fun x => f x y)).symm
theorem sumF_mul (l : List Nat) (c : Nat) (f : Nat → Nat) : sumF l (fun x => c * f x) = c * sumF l f := by
  induction l with
  | nil => simp [sumF_nil]
  | cons a l ih => rw [sumF_cons, sumF_cons, ih, Nat.mul_add]
theorem sumF_const (l : List Nat) (c : Nat) : sumF l (fun _ => c) = l.length * c := by
  induction l with
  | nil => simp [sumF_nil]
  | cons a l ih => rw [sumF_cons, ih, List.length_cons, Nat.succ_mul]; omega
theorem filter_sum (l : List Nat) (p : Nat → Bool) : (l.filter p).length = sumF l (fun x => (p x).toNat) := by
  induction l with
  | nil => rfl
  | cons a l ih =>
    rw [sumF_cons, List.filter_cons]
    cases p a <;> simp [ih] <;> omega
/-- a sum with one place told apart -/
theorem sumF_at {l : List Nat} (nd : l.Nodup) {v : Nat} (hv : v ∈ l) (f g : Nat → Nat) (h : ∀ x ∈ l, x ≠ v → f x = g x) : sumF l f + g v = sumF l g + f v := by
  induction l with
  | nil => cases hv
  | cons a l ih =>
    obtain ⟨n1, n2⟩ := List.nodup_cons.mp nd
    rw [sumF_cons, sumF_cons]
    by_cases ha : a = v
    · subst ha
      have : sumF l f = sumF l g := sumF_congr fun x hx => h x (List.mem_cons_of_mem _ hx) fun e => n1 (e ▸ hx)
      omega
    · have hv' : v ∈ l := (List.mem_cons.mp hv).resolve_left fun e => ha e.symm
      have := ih n2 hv' fun x hx => h x (List.mem_cons_of_mem _ hx)
      have := h a List.mem_cons_self ha
      omega
section
variable {n : Nat} {ps : List Pr}
/-- one, if adjacent -/
def aN (ps : List Pr) (a b : Nat) : Nat := (adj ps a b).toNat
theorem aN_comm (a b : Nat) : aN ps a b = aN ps b a := by unfold aN; rw [adj_comm]
def dg (n : Nat) (ps : List Pr) (a : Nat) : Nat := (nbr n ps a).length
theorem dg_sum (a : Nat) : dg n ps a = sumF (List.range n) (aN ps a) := filter_sum _ _
theorem cnt_sum (a b : Nat) : cnt n ps a b = sumF (List.range n) (fun c => aN ps a c * aN ps b c) := by
  unfold cnt com
  rw [filter_sum]
  refine sumF_congr fun c _ => ?_
  unfold aN
  cases adj ps a c <;> cases adj ps b c <;> rfl
theorem cnt_self (a : Nat) : cnt n ps a a = dg n ps a := by
  unfold cnt dg
  rw [com_self]
/-- walks of three steps -/
theorem walk3 (u v : Nat) : sumF (List.range n) (fun w => aN ps u w * cnt n ps w v) = sumF (List.range n) (fun w => aN ps v w * cnt n ps w u) := by
  have e : ∀ u v, sumF (List.range n) (fun w => aN ps u w * cnt n ps w v) = sumF (List.range n) (fun w => sumF (List.range n) (fun c => aN ps u w * (aN ps w c * aN ps v c))) := fun u v => sumF_congr fun w _ => by rw [cnt_sum, sumF_mul]
  rw [e u v, e v u, sumF_swap]
  refine sumF_congr fun c _ => sumF_congr fun w _ => ?_
  rw [aN_comm w c, Nat.mul_comm, Nat.mul_assoc, Nat.mul_comm (aN ps v c), Nat.mul_comm (aN ps c w), ← Nat.mul_assoc, Nat.mul_comm (aN ps v c * _)]
  simp only [Nat.mul_assoc, Nat.mul_comm, Nat.mul_left_comm]
/-- any two have k in common: the sum of the friends' counts -/
theorem walk3_val {k u v : Nat} (h : ∀ a b, a < n → b < n → a ≠ b → cnt n ps a b = k) (hv : v < n) : sumF (List.range n) (fun w => aN ps u w * cnt n ps w v) + aN ps u v * k = k * dg n ps u + aN ps u v * dg n ps v := by
  have := sumF_at List.nodup_range (List.mem_range.mpr hv) (fun w => aN ps u w * cnt n ps w v) (fun w => k * aN ps u w) fun x hx ne => by
    rw [h x v (List.mem_range.mp hx) hv ne, Nat.mul_comm]
  rw [sumF_mul, ← dg_sum, cnt_self, Nat.mul_comm k (aN ps u v)] at this
  exact this
theorem aN_le (a b : Nat) : aN ps a b ≤ 1 := by
  unfold aN
  cases adj ps a b <;> decide
/-- regular -/
theorem reg_of {k u v : Nat} (hk : 2 ≤ k) (h : ∀ a b, a < n → b < n → a ≠ b → cnt n ps a b = k) (hu : u < n) (hv : v < n) : dg n ps u = dg n ps v := by
  have e1 := walk3_val (u := u) h hv
  have e2 := walk3_val (u := v) h hu
  rw [walk3] at e1
  rw [aN_comm v u] at e2
  have h1 := aN_le (ps := ps) u v
  have : aN ps u v = 0 ∨ aN ps u v = 1 := by omega
  rcases this with z | z
  · rw [z] at e1 e2
    simp only [Nat.zero_mul, Nat.add_zero] at e1 e2
    exact Nat.eq_of_mul_eq_mul_left (by omega : 0 < k) (e1.symm.trans e2)
  · rw [z] at e1 e2
    simp only [Nat.one_mul] at e1 e2
    have e3 : k * dg n ps u + dg n ps v = k * dg n ps v + dg n ps u := e1.symm.trans e2
    obtain ⟨m, rfl⟩ : ∃ m, k = m + 1 := ⟨k - 1, by omega⟩
    rw [Nat.succ_mul, Nat.succ_mul] at e3
    have e4 : m * dg n ps u = m * dg n ps v := by omega
    exact Nat.eq_of_mul_eq_mul_left (by omega : 0 < m) e4
/-- k(k-1) = many (n-1), from one hall -/
theorem deg_eq {k d v : Nat} (N : Net n ps) (h : ∀ a b, a < n → b < n → a ≠ b → cnt n ps a b = k) (hr : ∀ a, a < n → dg n ps a = d) (hv : v < n) : d * d + k = k * n + d := by
  have e : sumF (List.range n) (fun w => sumF (List.range n) (fun u => aN ps v w * aN ps u w)) = d * d := by
    have : sumF (List.range n) (fun w => sumF (List.range n) (fun u => aN ps v w * aN ps u w)) = sumF (List.range n) (fun w => d * aN ps v w) := sumF_congr fun w hw => by
      rw [sumF_mul, sumF_congr (g := aN ps w) (fun u _ => aN_comm u w), ← dg_sum, hr w (List.mem_range.mp hw), Nat.mul_comm]
    rw [this, sumF_mul, ← dg_sum, hr v hv]
  rw [sumF_swap] at e
  have e2 : sumF (List.range n) (fun u => cnt n ps v u) = d * d := by
    rw [← e]
    exact sumF_congr fun u _ => cnt_sum v u
  have := sumF_at List.nodup_range (List.mem_range.mpr hv) (fun u => cnt n ps v u) (fun _ => k) fun x hx ne => h v x hv (List.mem_range.mp hx) fun e => ne e.symm
  rw [e2, cnt_self, hr v hv, sumF_const, List.length_range, Nat.mul_comm n k] at this
  exact this
end
end ML
end
section
/-! PL16: the sizes of a common number. -/
namespace ML
open PySem DL
theorem oMod_nn {a b : Nat} (hb : b ≠ 0) (st : Sto) : oMod (.d (.int a)) (.d (.int b)) st = some (.d (.int (a % b : Nat))) := by
  rw [oMod_ii _ (by omega), Int.fmod_eq_emod_of_nonneg _ (by omega)]
  rfl
theorem oFdiv_nn {a b : Nat} (hb : b ≠ 0) (hs : b < 1073741824) (st : Sto) : oFdiv (.d (.int a)) (.d (.int b)) st = some (.d (.int (a / b : Nat))) := by
  rw [oFdiv_ii _ (by omega), Int.fdiv_eq_ediv_of_nonneg _ (by omega)]
  rfl
theorem oMul_nn {a b : Nat} (ha : a < 1000000000000) (st : Sto) : oMul (.d (.int a)) (.d (.int b)) st = some (.d (.int (a * b : Nat))) := by
  rw [oMul_ii _ (.inl (by omega)), Int.natCast_mul]
theorem oSub_nn {a b : Nat} (h : b ≤ a) (st : Sto) : oSub (.d (.int a)) (.d (.int b)) st = some (.d (.int (a - b : Nat))) := by
  rw [oSub_ii]
  congr 3
  omega
theorem oAdd_nn (a b : Nat) (st : Sto) : oAdd (.d (.int a)) (.d (.int b)) st = some (.d (.int (a + b : Nat))) := by
  rw [oAdd_ii]
  congr 3
theorem oGe_nn (a b : Nat) (st : Sto) : oGe (.d (.int a)) (.d (.int b)) st = some (.d (.bool (decide (b ≤ a)))) := by
  rw [oGe_ii]
  congr 3
  rw [Bool.eq_iff_iff]
  simp
theorem fSortA_mup {st : Sto} {k : Nat} {qs : List Pr} (h : st[k]? = some (.lst (qs.map prD))) : fSortA [.mu k] st = some (.d (.list ((sortPr qs).map prD))) := by
  have e := fSortA_prs qs st
  have : fSortA [.mu k] st = fSortA [.d (.list (qs.map prD))] st := by
    simp only [fSortA, fSorted, h]
  rw [this, e]
def szF (m r : Nat) : Nat := m + r * r
def szO (m r : Nat) : Nat := szF m r * (szF m r - 1) / m
def sz1 (m r : Nat) : Bool := szF m r % r == 0
def sz2 (m r : Nat) : Bool := szF m r * (szF m r - 1) % m == 0
def sz3 (m r : Nat) : Bool := (szO m r - szF m r / r) % 2 == 0
/-- the friends are no more than the others -/
theorem sz_le {m r : Nat} (hm : 0 < m) (hr : 0 < r) : szF m r / r ≤ szO m r := by
  refine Nat.le_trans (Nat.div_le_self _ _) ?_
  unfold szO
  rw [Nat.le_div_iff_mul_le hm]
  refine Nat.mul_le_mul (Nat.le_refl _) ?_
  have : 0 < r * r := Nat.mul_pos hr hr
  unfold szF
  omega
def sizeC (m r : Nat) : Option Pr := if (sz1 m r && sz2 m r && sz3 m r) = true then some (szO m r + 1, szF m r) else none
def sizesP (m : Nat) : List Pr := sortPr ((List.range' 1 m).filterMap (sizeC m))
abbrev szB : SF := (sSeq (sSet 3 (eOp oAdd (eVar 0) (eOp oMul (eVar 2) (eVar 2)))) (sSeq (sIf (DL.tAnd (tVal (eOp oEq (eOp oMod (eVar 3) (eVar 2)) (eC (.int 0)))) (tVal (eOp oEq (eOp oMod (eOp oMul (eVar 3) (eOp oSub (eVar 3) (eC (.int 1)))) (eVar 0)) (eC (.int 0))))) (sSeq (sSet 4 (eOp oFdiv (eOp oMul (eVar 3) (eOp oSub (eVar 3) (eC (.int 1)))) (eVar 0))) (sSeq (sIf (DL.tAnd (tVal (eOp oGe (eVar 4) (eOp oFdiv (eVar 3) (eVar 2)))) (tVal (eOp oEq (eOp oMod (eOp oSub (eVar 4) (eOp oFdiv (eVar 3) (eVar 2))) (eC (.int 2))) (eC (.int 0))))) (sSeq (sExpr (eApp (eVar 1) (eTup (aCons (eOp oAdd (eVar 4) (eC (.int 1))) (aCons (eVar 3) (aNil)))))) (sNx)) (sNx)) (sNx))) (sNx)) (sNx)))
theorem sz_small {m r : Nat} (hm : m ≤ 1000) (hr : r ≤ 1000) : szF m r ≤ 1001000 := by
  have := Nat.mul_le_mul hr hr
  unfold szF
  omega
theorem sz_loop {st : Sto} {m : Nat} (hm : 0 < m) (hm2 : m ≤ 1000) : ∀ (l : List Nat) (acc : List Pr) (x2 x3 x4 : Option DV), (∀ r ∈ l, 0 < r ∧ r ≤ 1000) → acc.length + l.length ≤ 4000 →
    ∃ y2 y3 y4, forL (gV 2) szB (l.map fun (r : Nat) => .d (.int r)) [some (.d (.int m)), some (.mu st.length), x2, x3, x4] (st ++ [.lst (acc.map prD)]) = some (.fl .nx [some (.d (.int m)), some (.mu st.length), y2, y3, y4], st ++ [.lst ((acc ++ l.filterMap (sizeC m)).map prD)])
  | [], acc, x2, x3, x4, _, _ => ⟨x2, x3, x4, by rw [List.filterMap_nil, List.append_nil]; rfl⟩
  | r :: l, acc, x2, x3, x4, hr, hl => by
    obtain ⟨r0, r1⟩ := hr r List.mem_cons_self
    simp only [List.length_cons] at hl
    have fs := sz_small hm2 r1
    have fpos : 1 ≤ szF m r := by unfold szF; omega
    have ga : (st ++ [Ct.lst (acc.map prD)])[st.length]? = some (.lst (acc.map prD)) := by simp
    have la : (acc.map prD).length < sizeLine := by
      rw [List.length_map]
      exact Nat.lt_of_lt_of_le (by omega : acc.length < 4001) (by decide)
    generalize hst : st ++ [Ct.lst (acc.map prD)] = st' at ga
    have s3 : sSet 3 (eOp oAdd (eVar 0) (eOp oMul (eVar 2) (eVar 2))) [some (.d (.int m)), some (.mu st.length), some (.d (.int r)), x3, x4] st' = some (.fl .nx [some (.d (.int m)), some (.mu st.length), some (.d (.int r)), some (.d (.int (szF m r : Nat))), x4], st') :=
      ySet (xOp (xVar rfl) (xOp (xVar rfl) (xVar rfl) (oMul_nn (a := r) (b := r) (by omega) _)) (oAdd_nn m (r * r) _))
    have sub1 : ∀ st, oSub (.d (.int (szF m r : Nat))) (.d (.int 1)) st = some (.d (.int (szF m r - 1 : Nat))) := fun st => oSub_nn (b := 1) fpos st
    have mul1 : ∀ st, oMul (.d (.int (szF m r : Nat))) (.d (.int (szF m r - 1 : Nat))) st = some (.d (.int (szF m r * (szF m r - 1) : Nat))) := fun st => oMul_nn (by omega) st
    have z0 : ∀ (a : Nat) st, oEq (.d (.int a)) (.d (.int 0)) st = some (.d (.bool (a == 0))) := fun a st => eq_nats a 0 st
    have t1 : ∀ x4, tVal (eOp oEq (eOp oMod (eVar 3) (eVar 2)) (eC (.int 0))) [some (.d (.int m)), some (.mu st.length), some (.d (.int r)), some (.d (.int (szF m r : Nat))), x4] st' = some (.ok (sz1 m r), st') := fun x4 => xTVal (xOp (xOp (xVar rfl) (xVar rfl) (oMod_nn (by omega) _)) xC (z0 _ _))
    have t2 : ∀ x4, tVal (eOp oEq (eOp oMod (eOp oMul (eVar 3) (eOp oSub (eVar 3) (eC (.int 1)))) (eVar 0)) (eC (.int 0))) [some (.d (.int m)), some (.mu st.length), some (.d (.int r)), some (.d (.int (szF m r : Nat))), x4] st' = some (.ok (sz2 m r), st') := fun x4 => xTVal (xOp (xOp (xOp (xVar rfl) (xOp (xVar rfl) xC (sub1 _)) (mul1 _)) (xVar rfl) (oMod_nn (by omega) _)) xC (z0 _ _))
    have tt : ∀ x4, DL.tAnd (tVal (eOp oEq (eOp oMod (eVar 3) (eVar 2)) (eC (.int 0)))) (tVal (eOp oEq (eOp oMod (eOp oMul (eVar 3) (eOp oSub (eVar 3) (eC (.int 1)))) (eVar 0)) (eC (.int 0)))) [some (.d (.int m)), some (.mu st.length), some (.d (.int r)), some (.d (.int (szF m r : Nat))), x4] st' = some (.ok (sz1 m r && sz2 m r), st') := fun x4 => by
      have a := t1 x4
      cases h : sz1 m r with
      | true => rw [h] at a; exact xTAndT a (t2 x4)
      | false => rw [h] at a; exact xTAndF a
    have d4 : sSet 4 (eOp oFdiv (eOp oMul (eVar 3) (eOp oSub (eVar 3) (eC (.int 1)))) (eVar 0)) [some (.d (.int m)), some (.mu st.length), some (.d (.int r)), some (.d (.int (szF m r : Nat))), x4] st' = some (.fl .nx [some (.d (.int m)), some (.mu st.length), some (.d (.int r)), some (.d (.int (szF m r : Nat))), some (.d (.int (szO m r : Nat)))], st') :=
      ySet (xOp (xOp (xVar rfl) (xOp (xVar rfl) xC (sub1 _)) (mul1 _)) (xVar rfl) (oFdiv_nn (by omega) (by omega) _))
    have dv : ∀ st, oFdiv (.d (.int (szF m r : Nat))) (.d (.int r)) st = some (.d (.int (szF m r / r : Nat))) := fun st => oFdiv_nn (by omega) (by omega) st
    have t3 : tVal (eOp oGe (eVar 4) (eOp oFdiv (eVar 3) (eVar 2))) [some (.d (.int m)), some (.mu st.length), some (.d (.int r)), some (.d (.int (szF m r : Nat))), some (.d (.int (szO m r : Nat)))] st' = some (.ok true, st') := by
      have := xTVal (xOp (xVar (i := 4) (r := [some (.d (.int m)), some (.mu st.length), some (.d (.int r)), some (.d (.int (szF m r : Nat))), some (.d (.int (szO m r : Nat)))]) (st := st') rfl) (xOp (xVar (i := 3) rfl) (xVar (i := 2) rfl) (dv _)) (oGe_nn _ _ _))
      rw [decide_eq_true (sz_le hm r0)] at this
      exact this
    have t4 : tVal (eOp oEq (eOp oMod (eOp oSub (eVar 4) (eOp oFdiv (eVar 3) (eVar 2))) (eC (.int 2))) (eC (.int 0))) [some (.d (.int m)), some (.mu st.length), some (.d (.int r)), some (.d (.int (szF m r : Nat))), some (.d (.int (szO m r : Nat)))] st' = some (.ok (sz3 m r), st') :=
      xTVal (xOp (xOp (xOp (xVar rfl) (xOp (xVar rfl) (xVar rfl) (dv _)) (oSub_nn (sz_le hm r0) _)) xC (oMod_nn (b := 2) (by omega) _)) xC (z0 _ _))
    have body : ∃ y4, szB [some (.d (.int m)), some (.mu st.length), some (.d (.int r)), x3, x4] st' = some (.fl .nx [some (.d (.int m)), some (.mu st.length), some (.d (.int r)), some (.d (.int (szF m r : Nat))), y4], st ++ [.lst ((acc ++ (sizeC m r).toList).map prD)]) := by
      cases h12 : (sz1 m r && sz2 m r) with
      | false =>
        have a := tt x4
        rw [h12] at a
        have e : sizeC m r = none := by unfold sizeC; rw [h12]; rfl
        refine ⟨x4, ?_⟩
        rw [e, Option.toList_none, List.append_nil, hst]
        exact yNx s3 (yNx (yIfF a yEnd) yEnd)
      | true =>
        have a := tt x4
        rw [h12] at a
        cases h3 : sz3 m r with
        | false =>
          rw [h3] at t4
          have e : sizeC m r = none := by unfold sizeC; rw [h12, h3]; rfl
          refine ⟨some (.d (.int (szO m r : Nat))), ?_⟩
          rw [e, Option.toList_none, List.append_nil, hst]
          exact yNx s3 (yNx (yIfT a (yNx d4 (yNx (yIfF (xTAndT t3 t4) yEnd) yEnd))) yEnd)
        | true =>
          rw [h3] at t4
          have e : sizeC m r = some (szO m r + 1, szF m r) := by unfold sizeC; rw [h12, h3]; rfl
          refine ⟨some (.d (.int (szO m r : Nat))), ?_⟩
          have es : st'.set st.length (.lst (acc.map prD ++ [prD (szO m r + 1, szF m r)])) = st ++ [.lst ((acc ++ (sizeC m r).toList).map prD)] := by
            rw [← hst, List.set_append_right _ _ (Nat.le_refl _), Nat.sub_self, e, List.map_append]
            rfl
          rw [← es]
          exact yNx s3 (yNx (yIfT a (yNx d4 (yNx (yIfT (xTAndT t3 t4) (yNx (yExpr (xApp (xVar (i := 1) rfl) ga (xTup (xCons (xOp (xVar (i := 4) rfl) xC (oAdd_nn _ 1 _)) (xCons (xVar (i := 3) rfl) xNil)) rfl (by show 2 ≤ sizeLine; decide)) ga la)) yEnd)) yEnd))) yEnd)
    obtain ⟨y4, body⟩ := body
    have tl : (sizeC m r).toList.length ≤ 1 := by cases sizeC m r <;> simp
    obtain ⟨z2, z3, z4, f⟩ := sz_loop (st := st) hm hm2 l (acc ++ (sizeC m r).toList) (some (.d (.int r))) (some (.d (.int (szF m r : Nat)))) y4 (fun q hq => hr q (List.mem_cons_of_mem _ hq)) (by rw [List.length_append]; omega)
    refine ⟨z2, z3, z4, ?_⟩
    have ef : (sizeC m r).toList ++ l.filterMap (sizeC m) = (r :: l).filterMap (sizeC m) := by
      rw [List.filterMap_cons]
      cases sizeC m r <;> rfl
    rw [List.map_cons, forL_nx (r1 := [some (.d (.int m)), some (.mu st.length), some (.d (.int r)), x3, x4]) rfl body, f, List.append_assoc, ef]
theorem need_common_ok {m : Nat} (h : 2 ≤ m ∧ m ≤ 1000) (st : Sto) : F_need_common [.d (.int m)] st = some (.ok (.d .none), st) := by
  have e := is_number_int (m : Int) 2 1000 st
  have e2 : (decide ((2 : Int) ≤ m) && decide ((m : Int) ≤ 1000)) = true := by simp; omega
  rw [e2] at e
  exact fNx rfl (yNx (yIfF (xTNot (i := true) (xTTru (xCall (xCons (xVar (i := 0) rfl) (xCons xC (xCons xC xNil))) e) rfl)) yEnd) yEnd)
theorem sizes_ok {m : Nat} (h : 2 ≤ m ∧ m ≤ 1000) (st : Sto) : F_sizes [.d (.int m)] st = some (.ok (.d (.tuple ((sizesP m).map prD))), st) := by
  obtain ⟨y2, y3, y4, f⟩ := sz_loop (st := st) (by omega : 0 < m) h.2 (List.range' 1 m) [] none none none (fun r hr => by
    have := List.mem_range'_1.mp hr
    omega) (by rw [List.length_range', List.length_nil]; omega)
  rw [List.nil_append] at f
  have rg : (List.range' 1 m).map (fun (r : Nat) => DV.d (.int r)) = rng ((1 : Nat) : Int) (m + 1 - 1) := by
    unfold rng
    rw [List.range'_eq_map_range, List.map_map, Nat.add_sub_cancel]
    rfl
  rw [rg] at f
  have := fRtS (N := 5) (b := b_sizes) (xs := [.d (.int m)]) (st := st) rfl (yNx (yExpr (xCall (xCons (xVar (i := 0) rfl) xNil) (need_common_ok h _))) (yNx (ySet (i := 1) (xLstM xNil rfl (by show 0 ≤ sizeLine; decide))) (yNx (yFor (zRg2 (m := 1) (n := m + 1) xC (xOp (xVar (i := 0) rfl) xC (oAdd_nn _ 1 _)) (by omega) (by omega)) f) (yRt (yRet (xCall (xCons (xCall (xCons (xVar (i := 1) rfl) xNil) (xB (fSortA_mup (qs := (List.range' 1 m).filterMap (sizeC m)) (by simp)))) xNil) (xB (fTup_l _ _)))))))) rfl
  rw [List.take_left' rfl] at this
  exact this
end ML
end
section
/-! PL17: boards of any side, the windmill's hub, nets with one common number. -/
namespace ML
open PySem DL
def bdC (s : Nat) (p : Pr) : Bool := p.1 / s == p.2 / s || p.1 % s == p.2 % s
def bdP (s : Nat) : List Pr := (allP (s * s)).filter (bdC s)
theorem bd_net {s : Nat} (h1 : 1 ≤ s) (h2 : s * s ≤ 60) : Net (s * s) (bdP s) := ⟨Nat.mul_pos h1 h1, h2, fun p hp => mem_allP.mp (List.mem_filter.mp hp).1, (allP_srt _).filter _, Nat.le_trans (List.length_filter_le _ _) (Nat.le_trans (allP_big h2) (by omega))⟩
theorem bd_loop {st : Sto} {s : Nat} (h1 : 1 ≤ s) (h2 : s ≤ 60) : ∀ (l acc : List Pr) (x2 x3 : Option DV), acc.length + l.length ≤ 4000 →
    ∃ y2 y3, forL (gT (gConsF 2 (gConsF 3 (gNilF)))) bdB (l.map fun p => .d (prD p)) [some (.d (.int s)), some (.mu st.length), x2, x3] (st ++ [.lst (acc.map prD)]) = some (.fl .nx [some (.d (.int s)), some (.mu st.length), y2, y3], st ++ [.lst ((acc ++ l.filter (bdC s)).map prD)])
  | [], acc, x2, x3, _ => ⟨x2, x3, by rw [List.filter_nil, List.append_nil]; rfl⟩
  | p :: l, acc, x2, x3, hl => by
    simp only [List.length_cons] at hl
    have ga : (st ++ [Ct.lst (acc.map prD)])[st.length]? = some (.lst (acc.map prD)) := by simp
    have la : (acc.map prD).length < sizeLine := by
      rw [List.length_map]
      exact Nat.lt_of_lt_of_le (by omega : acc.length < 4001) (by decide)
    have tt : DL.tOr (tVal (eOp oEq (eOp oFdiv (eVar 2) (eVar 0)) (eOp oFdiv (eVar 3) (eVar 0)))) (tVal (eOp oEq (eOp oMod (eVar 2) (eVar 0)) (eOp oMod (eVar 3) (eVar 0)))) [some (.d (.int s)), some (.mu st.length), some (.d (.int p.1)), some (.d (.int p.2))] (st ++ [.lst (acc.map prD)]) = some (.ok (bdC s p), st ++ [.lst (acc.map prD)]) := by
      have t1 := xTVal (xOp (xOp (xVar (i := 2) (r := [some (.d (.int s)), some (.mu st.length), some (.d (.int p.1)), some (.d (.int p.2))]) (st := st ++ [Ct.lst (acc.map prD)]) rfl) (xVar (i := 0) rfl) (oFdiv_nn (by omega) (by omega) _)) (xOp (xVar (i := 3) rfl) (xVar (i := 0) rfl) (oFdiv_nn (by omega) (by omega) _)) (eq_nats _ _ _))
      have t2 := xTVal (xOp (xOp (xVar (i := 2) (r := [some (.d (.int s)), some (.mu st.length), some (.d (.int p.1)), some (.d (.int p.2))]) (st := st ++ [Ct.lst (acc.map prD)]) rfl) (xVar (i := 0) rfl) (oMod_nn (by omega) _)) (xOp (xVar (i := 3) rfl) (xVar (i := 0) rfl) (oMod_nn (by omega) _)) (eq_nats _ _ _))
      unfold bdC
      cases h : (p.1 / s == p.2 / s) with
      | true =>
        rw [h] at t1
        exact xTOrT t1
      | false =>
        rw [h] at t1
        rw [Bool.false_or]
        exact xTOrF t1 t2
    cases hb : bdC s p with
    | true =>
      rw [hb] at tt
      have body := yNx (s' := sNx) (yIfT (s' := sNx) tt (yNx (s' := sNx) (yExpr (xApp (xVar (i := 1) rfl) ga (xTup (xCons (xVar (i := 2) rfl) (xCons (xVar (i := 3) rfl) xNil)) rfl (by show 2 ≤ sizeLine; decide)) ga la)) yEnd)) yEnd
      have es : (st ++ [Ct.lst (acc.map prD)]).set st.length (.lst (acc.map prD ++ [prD p])) = st ++ [.lst ((acc ++ [p]).map prD)] := by
        rw [List.set_append_right _ _ (Nat.le_refl _), Nat.sub_self, List.map_append]
        rfl
      obtain ⟨y2, y3, f⟩ := bd_loop (st := st) h1 h2 l (acc ++ [p]) (some (.d (.int p.1))) (some (.d (.int p.2))) (by rw [List.length_append, List.length_singleton]; omega)
      refine ⟨y2, y3, ?_⟩
      rw [List.map_cons, forL_nx (r1 := [some (.d (.int s)), some (.mu st.length), some (.d (.int p.1)), some (.d (.int p.2))]) rfl body, List.filter_cons_of_pos hb]
      rw [List.append_assoc] at f
      refine Eq.trans ?_ f
      exact congrArg _ es
    | false =>
      rw [hb] at tt
      have body := yNx (s' := sNx) (yIfF (s := sSeq (sExpr (eApp (eVar 1) (eTup (aCons (eVar 2) (aCons (eVar 3) (aNil)))))) (sNx)) tt yEnd) yEnd
      obtain ⟨y2, y3, f⟩ := bd_loop (st := st) h1 h2 l acc (some (.d (.int p.1))) (some (.d (.int p.2))) (by omega)
      refine ⟨y2, y3, ?_⟩
      rw [List.map_cons, forL_nx (r1 := [some (.d (.int s)), some (.mu st.length), some (.d (.int p.1)), some (.d (.int p.2))]) rfl body, List.filter_cons_of_neg (by rw [hb]; decide)]
      exact f
theorem bd_ok {s : Nat} (h1 : 1 ≤ s) (h2 : s * s ≤ 60) (st : Sto) : F__law_board [.d (.int s)] st = some (.ok (.d (.tuple ((bdP s).map prD))), st) := by
  have hs : s ≤ 60 := Nat.le_trans (Nat.le_mul_of_pos_left s h1) h2
  obtain ⟨y2, y3, f⟩ := bd_loop (st := st) h1 hs (allP (s * s)) [] none none (Nat.le_trans (by simpa using allP_big h2) (by omega : 3600 ≤ 4000))
  rw [List.nil_append] at f
  have := fRtS (N := 4) (b := b__law_board) (xs := [.d (.int s)]) (st := st) rfl (yNx (ySet (i := 1) (xLstM xNil rfl (by show 0 ≤ sizeLine; decide))) (yNx (yFor (zSeq (xCall (xCons (xOp (xVar (i := 0) rfl) (xVar (i := 0) rfl) (oMul_nn (by omega) _)) xNil) (law_pairs_ok h2 _)) (by rw [itms_l, List.map_map]; rfl)) f) (yRt (yRet (xCall (xCons (xVar (i := 1) rfl) xNil) (xB (fTup_mu (ds := (bdP s).map prD) (by simp [bdP])))))))) rfl
  rw [List.take_left' rfl] at this
  exact this
/-! ### the windmill of seven -/
theorem wind_mem : ∀ a, a < 7 → a ≠ 0 → (0, a) ∈ windP := by decide
theorem six_of : ∀ v, v < 7 → ((List.range 7).filter fun j => decide (j ≠ v)).length = 6 := by decide
theorem windmill7 {st : Sto} {k : Nat} {s : List Int} {i : Nat} {e c : Int} (h : st[k]? = some (.lst (rowD s i e c))) :
    ∃ ps i' e' c', Net 7 ps ∧ (∃ v, v < 7 ∧ dg 7 ps v = 6) ∧ F__law_windmill [.mu k, .d (.int (7 : Nat))] st = some (.ok (.d (netD 7 ps)), st.set k (.lst (rowD s i' e' c'))) := by
  obtain ⟨t, i', e', c', tp, N, f⟩ := windmill_ok2 h
  have len : t.length = 7 := by rw [tp.length_eq, List.length_range]
  refine ⟨_, i', e', c', N, ⟨nm t 0, nm_lt tp (by omega), ?_⟩, f⟩
  have ad : ∀ j, j < 7 → adj (sortPr (windP.map (up t))) (nm t 0) j = decide (j ≠ nm t 0) := fun j hj => by
    by_cases e : j = nm t 0
    · subst e
      rw [adj_irr N]
      simp
    · rw [decide_eq_true e]
      obtain ⟨a, ha⟩ := List.mem_iff_getElem?.mp (tp.mem_iff.mpr (List.mem_range.mpr hj))
      have hal : a < t.length := (List.getElem?_eq_some_iff.mp ha).1
      have hj2 : j = nm t a := by
        have := nm_at hal
        rw [ha] at this
        exact Option.some.inj this
      have a0 : a ≠ 0 := fun z => e (by rw [hj2, z])
      have hw : (0, a) ∈ windP := wind_mem a (by omega) a0
      have hm : up t (0, a) ∈ sortPr (windP.map (up t)) := (sortPr_perm _).mem_iff.mpr (List.mem_map.mpr ⟨_, hw, rfl⟩)
      rw [adj_min N, hj2]
      exact decide_eq_true hm
  have hv := nm_lt tp (i := 0) (by omega)
  generalize nm t 0 = v at ad hv
  have : nbr 7 (sortPr (windP.map (up t))) v = (List.range 7).filter fun j => decide (j ≠ v) := List.filter_congr fun j hj => ad j (List.mem_range.mp hj)
  unfold dg
  rw [this]
  exact six_of v hv
/-! ### one common number -/
theorem one_int {l : List Int} {k : Int} (h : oneOf l = .int k) : l = [k] := by
  unfold oneOf at h
  split at h
  · cases h; rfl
  · cases h
theorem cnt_one {n : Nat} {ps : List Pr} {k : Nat} (N : Net n ps) (h : cmnL n ps = [(k : Int)]) : ∀ a b, a < n → b < n → a ≠ b → cnt n ps a b = k := by
  have key : ∀ a b, a < b → b < n → cnt n ps a b = k := fun a b hab hb => by
    have hm : (a, b) ∈ allP n := mem_allP.mpr ⟨hab, hb⟩
    have : ((cnt n ps a b : Nat) : Int) ∈ cmnL n ps := by
      unfold cmnL
      rw [usort_mem, List.mem_append, usort_mem, usort_mem]
      cases e : adj ps a b with
      | true => exact .inl (List.mem_map.mpr ⟨_, List.mem_map.mpr ⟨(a, b), List.mem_filter.mpr ⟨hm, e⟩, rfl⟩, rfl⟩)
      | false => exact .inr (List.mem_map.mpr ⟨_, List.mem_map.mpr ⟨(a, b), List.mem_filter.mpr ⟨hm, by simp [e]⟩, rfl⟩, rfl⟩)
    rw [h, List.mem_singleton] at this
    omega
  intro a b ha hb ne
  by_cases c : a < b
  · exact key a b c hb
  · rw [cnt_comm]
    exact key b a (by omega) ha
theorem cmn_two {n : Nat} {ps : List Pr} {k : Int} (h : cmnL n ps = [k]) : 2 ≤ n ∧ ∃ m : Nat, k = (m : Int) ∧ m ≤ n := by
  have hk : k ∈ cmnL n ps := by rw [h]; exact List.mem_singleton.mpr rfl
  have hk := (usort_mem k _).mp hk
  obtain ⟨m, hm, e⟩ := mem_jl hk
  refine ⟨?_, m, e, by omega⟩
  have : ∃ p, p ∈ allP n := by
    rcases List.mem_append.mp hk with h | h
    all_goals
      rw [usort_mem] at h
      obtain ⟨b, hb, rfl⟩ := List.mem_map.mp h
      obtain ⟨p, hp, _⟩ := List.mem_map.mp hb
      exact ⟨p, (List.mem_filter.mp hp).1⟩
  obtain ⟨p, hp⟩ := this
  have := mem_allP.mp hp
  omega
theorem sd_one {n d : Nat} {ps : List Pr} (pos : 1 ≤ n) (hr : ∀ a, a < n → dg n ps a = d) : sdL n ps = [(d : Int)] := by
  unfold sdL
  refine (usort_eq (l := [d]) (List.pairwise_singleton _ _) fun z => ?_).trans rfl
  unfold castL degL
  rw [List.map_map, List.mem_map]
  constructor
  · rintro ⟨a, ha, rfl⟩
    exact ⟨d, List.mem_singleton.mpr rfl, by rw [← hr a (List.mem_range.mp ha)]; rfl⟩
  · rintro ⟨b, hb, rfl⟩
    rw [List.mem_singleton.mp hb]
    exact ⟨0, List.mem_range.mpr pos, by rw [← hr 0 pos]; rfl⟩
def szMem (k n d : Nat) : Bool := decide ((n, d) ∈ (List.range' 1 k).filterMap (sizeC k))
theorem mem_sizes {k : Nat} {p : Pr} : p ∈ sizesP k ↔ p ∈ (List.range' 1 k).filterMap (sizeC k) := (sortPr_perm _).mem_iff
def finB : Bool := [2, 3, 4, 5, 6, 7, 10, 16].all fun n => (List.range n).all fun d => (List.range (n + 1)).all fun k => !(decide (2 ≤ k) && decide (d * d + k = k * n + d) && (decide (n ≠ 7) || decide (d = 6))) || szMem k n d
theorem finB_ok : finB = true := by decide +kernel
theorem fin_ok {n d k : Nat} (hn : n ∈ [2, 3, 4, 5, 6, 7, 10, 16]) (hd : d < n) (hk : k < n + 1) (h2 : 2 ≤ k) (e : d * d + k = k * n + d) (h7 : n = 7 → d = 6) : szMem k n d = true := by
  have h := finB_ok
  unfold finB at h
  have h := List.all_eq_true.mp (List.all_eq_true.mp (List.all_eq_true.mp h n hn) d (List.mem_range.mpr hd)) k (List.mem_range.mpr hk)
  rw [decide_eq_true h2, decide_eq_true e] at h
  have h3 : (decide (n ≠ 7) || decide (d = 6)) = true := by
    by_cases z : n = 7
    · rw [decide_eq_true (h7 z), Bool.or_true]
    · rw [decide_eq_true z, Bool.true_or]
  rw [h3] at h
  simpa using h
structure Fit (n : Nat) (ps : List Pr) : Prop where
  N : Net n ps
  n_ : n = 1 ∨ n ∈ [2, 3, 4, 5, 6, 7, 10, 16]
  seven : n = 7 → ∃ v, v < 7 ∧ dg 7 ps v = 6
theorem fit_sizes {n k : Nat} {ps : List Pr} (F : Fit n ps) (hk : 2 ≤ k) (h : cmnL n ps = [(k : Int)]) : ∃ d : Nat, sdL n ps = [(d : Int)] ∧ (n, d) ∈ sizesP k ∧ k ≤ n := by
  have N := F.N
  have c1 := cnt_one N h
  obtain ⟨h2, m, em, hm⟩ := cmn_two h
  have km : k = m := by omega
  have hr : ∀ a, a < n → dg n ps a = dg n ps 0 := fun a ha => reg_of hk c1 ha (by omega)
  have de := deg_eq (v := 0) N c1 hr (by omega)
  have dl : dg n ps 0 < n := by
    have : (nbr n ps 0).length ≤ ((List.range n).filter fun b => decide (b ≠ 0)).length := by
      unfold nbr
      refine List.Sublist.length_le ?_
      have : (List.range n).filter (adj ps 0) = ((List.range n).filter fun b => decide (b ≠ 0)).filter (adj ps 0) := by
        rw [List.filter_filter]
        refine List.filter_congr fun b _ => ?_
        by_cases hb : b = 0
        · subst hb
          rw [adj_irr N]
          rfl
        · simp [hb]
      rw [this]
      exact List.filter_sublist
    have h3 : ((List.range n).filter fun b => decide (b ≠ 0)).length < n := by
      have := List.length_filter_lt_length_iff_exists (l := List.range n) (p := fun b => decide (b ≠ 0))
      rw [List.length_range] at this
      exact this.mpr ⟨0, List.mem_range.mpr (by omega), by simp⟩
    unfold dg
    omega
  refine ⟨dg n ps 0, sd_one N.pos hr, ?_, by omega⟩
  rw [mem_sizes]
  have hin := F.n_.resolve_left (by omega)
  exact of_decide_eq_true (fin_ok hin dl (by omega) hk de fun e => by
    obtain ⟨v, hv, q⟩ := F.seven e
    subst e
    rw [← hr v hv]
    exact q)
end ML
end
section
/-! PL18: the law's own search for sizes. -/
namespace ML
open PySem DL
/-- halls that the law finds: an even split -/
def splC (m r : Nat) (f : Nat) : Bool := decide ((szF m r : Int) + (2 * (f : Int) - szO m r) * r = 0)
def spl (m r : Nat) : List Nat := (List.range (szO m r + 1)).filter (splC m r)
theorem spl_iff {m r : Nat} (hm : 0 < m) (hr : 0 < r) : (!(spl m r).isEmpty) = (sz1 m r && sz3 m r) := by
  have hle := sz_le hm hr
  rw [Bool.eq_iff_iff]
  unfold sz1 sz3
  simp only [Bool.and_eq_true, beq_iff_eq]
  have e : (!(spl m r).isEmpty) = true ↔ ∃ f, f ≤ szO m r ∧ (szF m r : Int) + (2 * (f : Int) - szO m r) * r = 0 := by
    unfold spl
    constructor
    · intro h
      cases hl : (List.range (szO m r + 1)).filter (splC m r) with
      | nil => rw [hl] at h; cases h
      | cons f l =>
        have : f ∈ (List.range (szO m r + 1)).filter (splC m r) := by rw [hl]; exact List.mem_cons_self
        obtain ⟨h1, h2⟩ := List.mem_filter.mp this
        have := List.mem_range.mp h1
        exact ⟨f, by omega, of_decide_eq_true h2⟩
    · rintro ⟨f, h1, h2⟩
      have : f ∈ (List.range (szO m r + 1)).filter (splC m r) := List.mem_filter.mpr ⟨List.mem_range.mpr (by omega), decide_eq_true h2⟩
      cases hl : (List.range (szO m r + 1)).filter (splC m r) with
      | nil => rw [hl] at this; cases this
      | cons f l => rfl
  rw [e]
  generalize szF m r = F at hle ⊢
  generalize szO m r = O at hle ⊢
  constructor
  · rintro ⟨f, h1, h2⟩
    have h3 : (F : Int) = ((O : Int) - 2 * f) * r := by
      have : ((2 * (f : Int) - O) * r) = -(((O : Int) - 2 * f) * r) := by rw [← Int.neg_mul]; congr 1; omega
      omega
    have h4 : 0 ≤ (O : Int) - 2 * f := by
      by_cases c : 0 ≤ (O : Int) - 2 * f
      · exact c
      · have : ((O : Int) - 2 * f) * r < 0 := Int.mul_neg_of_neg_of_pos (by omega) (by omega)
        omega
    obtain ⟨q, hq⟩ : ∃ q : Nat, (O : Int) - 2 * f = q := ⟨((O : Int) - 2 * f).toNat, by omega⟩
    rw [hq] at h3
    have h5 : F = q * r := by
      rw [← Int.natCast_mul] at h3
      omega
    rw [h5, Nat.mul_mod_left, Nat.mul_div_cancel _ hr]
    omega
  · rintro ⟨h1, h2⟩
    have h5 : F = F / r * r := (Nat.div_mul_cancel (Nat.dvd_of_mod_eq_zero h1)).symm
    generalize F / r = q at h2 h5 hle
    subst h5
    refine ⟨(O - q) / 2, by omega, ?_⟩
    have : 2 * (((O - q) / 2 : Nat) : Int) - O = -(q : Int) := by omega
    rw [this, Int.natCast_mul, Int.neg_mul]
    omega
theorem ne_nil (l : List Nat) (st : Sto) : oNe (.d (.list (intsD l))) (.d (.list [])) st = some (.d (.bool (!l.isEmpty))) := by
  have hs : (SeqAt.shaped (.list (intsD l)) && SeqAt.shaped (.list [])) = true := by rw [shaped_ints]; rfl
  show (if (SeqAt.shaped (.list (intsD l)) && SeqAt.shaped (.list [])) = true then some (DV.d (.bool (!PyData.eqv (.list (intsD l)) (.list [])))) else none) = _
  rw [if_pos hs]
  cases l with
  | nil => rfl
  | cons x l => simp [intsD, PyData.eqv, PyData.eqvAll]
theorem oLt_nn (a b : Nat) (st : Sto) : oLt (.d (.int a)) (.d (.int b)) st = some (.d (.bool (decide (a < b)))) := by
  rw [oLt_ii]
  congr 3
  rw [Bool.eq_iff_iff]
  simp
theorem rgD_nat (n : Nat) : rgD 0 (n : Int) = intsD (List.range n) := by
  unfold rgD intsD
  have : ((n : Int) - 0).toNat = n := by omega
  rw [this]
  refine List.map_congr_left fun j _ => ?_
  simp
theorem xLrgD {a : EF} {r : Rho} {st st1 : Sto} {n : Nat} (ha : a r st = some (.ok (.d (.int n)), st1)) (hn : n ≤ 16777216) : eLrgD a r st = some (.ok (.d (.list (intsD (List.range n)))), st1) := by
  have hb : (n : Int) ≤ 16777216 ∧ (-16777216 : Int) ≤ n := by omega
  unfold eLrgD
  simp only [bnd_at, ha, lft_at, res_d, if_pos hb, rgD_nat]
abbrev lsB : SF := (sSeq (sSet 15 (eOp oAdd (eVar 12) (eOp oMul (eVar 14) (eVar 14)))) (sSeq (sIf (tVal (eOp oEq (eOp oMod (eOp oMul (eVar 15) (eOp oSub (eVar 15) (eC (.int 1)))) (eVar 12)) (eC (.int 0)))) (sSeq (sSet 16 (eOp oFdiv (eOp oMul (eVar 15) (eOp oSub (eVar 15) (eC (.int 1)))) (eVar 12))) (sSeq (sSet 17 (eIf (tVal (eOp oLt (eVar 16) (eC (.int 3000)))) (eLrgD (eOp oAdd (eVar 16) (eC (.int 1)))) (eLst (aNil)))) (sSeq (sSet 18 (eLc (iSeq (eVar 17)) (gV 19) (tVal (eOp oEq (eOp oAdd (eVar 15) (eOp oMul (eOp oSub (eOp oMul (eC (.int 2)) (eVar 19)) (eVar 16)) (eVar 14))) (eC (.int 0)))) (eVar 19) [19])) (sSeq (sIf (DL.tAnd (tVal (eOp oGe (eVar 16) (eC (.int 3000)))) (DL.tAnd (tVal (eOp oEq (eOp oMod (eVar 15) (eVar 14)) (eC (.int 0)))) (tVal (eOp oEq (eOp oMod (eOp oSub (eVar 16) (eOp oFdiv (eVar 15) (eVar 14))) (eC (.int 2))) (eC (.int 0)))))) (sSeq (sSet 18 (eLst (aCons (eC (.int 0)) (aNil)))) (sNx)) (sNx)) (sSeq (sSet 13 (eOp oAdd (eVar 13) (eIf (tVal (eOp oNe (eVar 18) (eLst (aNil)))) (eLst (aCons (eTup (aCons (eOp oAdd (eVar 16) (eC (.int 1))) (aCons (eVar 15) (aNil)))) (aNil))) (eLst (aNil))))) (sNx)))))) (sNx)) (sNx)))
/-- the slots of the law while it searches -/
def lsR (pre : Fin 12 → Option DV) (m : Nat) (acc : List Pr) (a b c d e f g : Option DV) : Rho := [pre 0, pre 1, pre 2, pre 3, pre 4, pre 5, pre 6, pre 7, pre 8, pre 9, pre 10, pre 11, some (.d (.int m)), some (.d (.list (acc.map prD))), a, b, c, d, e, f, g]
theorem ls_loop {pre : Fin 12 → Option DV} {st : Sto} {m : Nat} (hm : 0 < m) (hm2 : m ≤ 41) : ∀ (l : List Nat) (acc : List Pr) (a b c d e f g : Option DV), (∀ r ∈ l, 0 < r ∧ r ≤ 41) → acc.length + l.length ≤ 4000 →
    ∃ a' b' c' d' e' f' g', forL (gV 14) lsB (l.map fun (r : Nat) => .d (.int r)) (lsR pre m acc a b c d e f g) st = some (.fl .nx (lsR pre m (acc ++ l.filterMap (sizeC m)) a' b' c' d' e' f' g'), st)
  | [], acc, a, b, c, d, e, f, g, _, _ => ⟨a, b, c, d, e, f, g, by rw [List.filterMap_nil, List.append_nil]; rfl⟩
  | r :: l, acc, a, b, c, d, e, f, g, hr, hl => by
    obtain ⟨r0, r1⟩ := hr r List.mem_cons_self
    simp only [List.length_cons] at hl
    have fs := sz_small (m := m) (r := r) (by omega) (by omega)
    have fpos : 1 ≤ szF m r := by unfold szF; omega
    have hle := sz_le hm r0
    have tl : (sizeC m r).toList.length ≤ 1 := by cases sizeC m r <;> simp
    have z0 : ∀ (a : Nat) st, oEq (.d (.int a)) (.d (.int 0)) st = some (.d (.bool (a == 0))) := fun a st => eq_nats a 0 st
    have sub1 : ∀ st, oSub (.d (.int (szF m r : Nat))) (.d (.int 1)) st = some (.d (.int (szF m r - 1 : Nat))) := fun st => oSub_nn (b := 1) fpos st
    have mul1 : ∀ st, oMul (.d (.int (szF m r : Nat))) (.d (.int (szF m r - 1 : Nat))) st = some (.d (.int (szF m r * (szF m r - 1) : Nat))) := fun st => oMul_nn (by omega) st
    have s15 : sSet 15 (eOp oAdd (eVar 12) (eOp oMul (eVar 14) (eVar 14))) (lsR pre m acc (some (.d (.int r))) b c d e f g) st = some (.fl .nx (lsR pre m acc (some (.d (.int r))) (some (.d (.int (szF m r : Nat)))) c d e f g), st) :=
      ySet (xOp (xVar rfl) (xOp (xVar rfl) (xVar rfl) (oMul_nn (a := r) (b := r) (by omega) _)) (oAdd_nn m (r * r) _))
    have t2 : tVal (eOp oEq (eOp oMod (eOp oMul (eVar 15) (eOp oSub (eVar 15) (eC (.int 1)))) (eVar 12)) (eC (.int 0))) (lsR pre m acc (some (.d (.int r))) (some (.d (.int (szF m r : Nat)))) c d e f g) st = some (.ok (sz2 m r), st) := xTVal (xOp (xOp (xOp (xVar rfl) (xOp (xVar rfl) xC (sub1 _)) (mul1 _)) (xVar rfl) (oMod_nn (by omega) _)) xC (z0 _ _))
    have body : ∃ c' d' e' f', lsB (lsR pre m acc (some (.d (.int r))) b c d e f g) st = some (.fl .nx (lsR pre m (acc ++ (sizeC m r).toList) (some (.d (.int r))) (some (.d (.int (szF m r : Nat)))) c' d' e' f' g), st) := by
      cases h2 : sz2 m r with
      | false =>
        rw [h2] at t2
        have ez : sizeC m r = none := by unfold sizeC; rw [h2, Bool.and_false]; rfl
        refine ⟨c, d, e, f, ?_⟩
        rw [ez, Option.toList_none, List.append_nil]
        exact yNx s15 (yNx (yIfF t2 yEnd) yEnd)
      | true =>
        rw [h2] at t2
        have s16 : sSet 16 (eOp oFdiv (eOp oMul (eVar 15) (eOp oSub (eVar 15) (eC (.int 1)))) (eVar 12)) (lsR pre m acc (some (.d (.int r))) (some (.d (.int (szF m r : Nat)))) c d e f g) st = some (.fl .nx (lsR pre m acc (some (.d (.int r))) (some (.d (.int (szF m r : Nat)))) (some (.d (.int (szO m r : Nat)))) d e f g), st) :=
          ySet (xOp (xOp (xVar rfl) (xOp (xVar rfl) xC (sub1 _)) (mul1 _)) (xVar rfl) (oFdiv_nn (by omega) (by omega) _))
        -- the list that is searched, what is found
        have s1718 : ∃ v17 l18, (!l18.isEmpty) = (sz1 m r && sz3 m r) ∧ ∀ s', sSeq (sSet 17 (eIf (tVal (eOp oLt (eVar 16) (eC (.int 3000)))) (eLrgD (eOp oAdd (eVar 16) (eC (.int 1)))) (eLst (aNil)))) (sSeq (sSet 18 (eLc (iSeq (eVar 17)) (gV 19) (tVal (eOp oEq (eOp oAdd (eVar 15) (eOp oMul (eOp oSub (eOp oMul (eC (.int 2)) (eVar 19)) (eVar 16)) (eVar 14))) (eC (.int 0)))) (eVar 19) [19])) (sSeq (sIf (DL.tAnd (tVal (eOp oGe (eVar 16) (eC (.int 3000)))) (DL.tAnd (tVal (eOp oEq (eOp oMod (eVar 15) (eVar 14)) (eC (.int 0)))) (tVal (eOp oEq (eOp oMod (eOp oSub (eVar 16) (eOp oFdiv (eVar 15) (eVar 14))) (eC (.int 2))) (eC (.int 0)))))) (sSeq (sSet 18 (eLst (aCons (eC (.int 0)) (aNil)))) (sNx)) (sNx)) s')) (lsR pre m acc (some (.d (.int r))) (some (.d (.int (szF m r : Nat)))) (some (.d (.int (szO m r : Nat)))) d e f g) st =
            s' (lsR pre m acc (some (.d (.int r))) (some (.d (.int (szF m r : Nat)))) (some (.d (.int (szO m r : Nat)))) (some v17) (some (.d (.list (intsD l18)))) f g) st := by
          have lt := oLt_nn (szO m r) 3000 st
          have ge := oGe_nn (szO m r) 3000 st
          by_cases hb : szO m r < 3000
          · rw [decide_eq_true hb] at lt
            rw [decide_eq_false (by omega : ¬ 3000 ≤ szO m r)] at ge
            refine ⟨.d (.list (intsD (List.range (szO m r + 1)))), spl m r, spl_iff hm r0, fun s' => ?_⟩
            have lc : eLc (iSeq (eVar 17)) (gV 19) (tVal (eOp oEq (eOp oAdd (eVar 15) (eOp oMul (eOp oSub (eOp oMul (eC (.int 2)) (eVar 19)) (eVar 16)) (eVar 14))) (eC (.int 0)))) (eVar 19) [19] (lsR pre m acc (some (.d (.int r))) (some (.d (.int (szF m r : Nat)))) (some (.d (.int (szO m r : Nat)))) (some (.d (.list (intsD (List.range (szO m r + 1)))))) e f g) st = some (.ok (.d (.list (intsD (spl m r)))), st) := by
              refine eLc_filt (List.range (szO m r + 1)) (fun (z : Nat) => .d (.int z)) (fun (z : Nat) => .int z) _ (zSeq (xVar rfl) (by rw [itms_l]; unfold intsD; rw [List.map_map]; rfl)) (by rw [List.length_range]; exact big (by omega)) fun z hz st => ?_
              have hz := List.mem_range.mp hz
              refine ⟨lsR pre m acc (some (.d (.int r))) (some (.d (.int (szF m r : Nat)))) (some (.d (.int (szO m r : Nat)))) (some (.d (.list (intsD (List.range (szO m r + 1)))))) e (some (.d (.int z))) g, rfl, ?_, xVar rfl⟩
              have q := xTVal (xOp (xOp (xVar (i := 15) (r := lsR pre m acc (some (.d (.int r))) (some (.d (.int (szF m r : Nat)))) (some (.d (.int (szO m r : Nat)))) (some (.d (.list (intsD (List.range (szO m r + 1)))))) e (some (.d (.int z))) g) (st := st) rfl) (xOp (xOp (xOp (xC (p := .int 2)) (xVar (i := 19) rfl) (oMul_ii _ (.inl ⟨by decide, by decide⟩))) (xVar (i := 16) rfl) (oSub_ii _ _ _)) (xVar (i := 14) rfl) (oMul_ii _ (.inr ⟨by omega, by omega⟩))) (oAdd_ii _ _ _)) (xC (p := .int 0)) (eq_ints _ _ _))
              refine q.trans ?_
              congr 3
            exact yNx (ySet (xIfT (xTVal (xOp (xVar rfl) xC lt)) (xLrgD (n := szO m r + 1) (xOp (xVar rfl) xC (oAdd_nn _ 1 _)) (by omega)))) (yNx (ySet lc) (yNx (yIfF (xTAndF (xTVal (xOp (xVar rfl) xC ge))) yEnd) rfl))
          · rw [decide_eq_false hb] at lt
            rw [decide_eq_true (by omega : 3000 ≤ szO m r)] at ge
            have lc : eLc (iSeq (eVar 17)) (gV 19) (tVal (eOp oEq (eOp oAdd (eVar 15) (eOp oMul (eOp oSub (eOp oMul (eC (.int 2)) (eVar 19)) (eVar 16)) (eVar 14))) (eC (.int 0)))) (eVar 19) [19] (lsR pre m acc (some (.d (.int r))) (some (.d (.int (szF m r : Nat)))) (some (.d (.int (szO m r : Nat)))) (some (.d (.list []))) e f g) st = some (.ok (.d (.list (intsD []))), st) :=
              eLc_filt ([] : List Nat) (fun (z : Nat) => .d (.int z)) (fun (z : Nat) => .int z) (fun _ => true) (zSeq (xVar rfl) rfl) (by show 0 ≤ sizeLine; decide) fun z hz => nomatch hz
            have t1 : tVal (eOp oEq (eOp oMod (eVar 15) (eVar 14)) (eC (.int 0))) (lsR pre m acc (some (.d (.int r))) (some (.d (.int (szF m r : Nat)))) (some (.d (.int (szO m r : Nat)))) (some (.d (.list []))) (some (.d (.list (intsD [])))) f g) st = some (.ok (sz1 m r), st) := xTVal (xOp (xOp (xVar rfl) (xVar rfl) (oMod_nn (by omega) _)) xC (z0 _ _))
            have t3 : tVal (eOp oEq (eOp oMod (eOp oSub (eVar 16) (eOp oFdiv (eVar 15) (eVar 14))) (eC (.int 2))) (eC (.int 0))) (lsR pre m acc (some (.d (.int r))) (some (.d (.int (szF m r : Nat)))) (some (.d (.int (szO m r : Nat)))) (some (.d (.list []))) (some (.d (.list (intsD [])))) f g) st = some (.ok (sz3 m r), st) := xTVal (xOp (xOp (xOp (xVar rfl) (xOp (xVar rfl) (xVar rfl) (oFdiv_nn (by omega) (by omega) _)) (oSub_nn hle _)) xC (oMod_nn (b := 2) (by omega) _)) xC (z0 _ _))
            have first : ∀ {k : SF}, sSet 17 (eIf (tVal (eOp oLt (eVar 16) (eC (.int 3000)))) (eLrgD (eOp oAdd (eVar 16) (eC (.int 1)))) (eLst (aNil))) (lsR pre m acc (some (.d (.int r))) (some (.d (.int (szF m r : Nat)))) (some (.d (.int (szO m r : Nat)))) d e f g) st = some (.fl .nx (lsR pre m acc (some (.d (.int r))) (some (.d (.int (szF m r : Nat)))) (some (.d (.int (szO m r : Nat)))) (some (.d (.list []))) e f g), st) := fun {k} => ySet (xIfF (xTVal (xOp (xVar rfl) xC lt)) (xLst xNil rfl (by show 0 ≤ sizeLine; decide)))
            cases h1 : sz1 m r with
            | false =>
              rw [h1] at t1
              exact ⟨.d (.list []), [], rfl, fun s' => yNx (first (k := s')) (yNx (ySet lc) (yNx (yIfF (xTAndT (xTVal (xOp (xVar rfl) xC ge)) (xTAndF t1)) yEnd) rfl))⟩
            | true =>
              rw [h1] at t1
              cases h3 : sz3 m r with
              | false =>
                rw [h3] at t3
                exact ⟨.d (.list []), [], rfl, fun s' => yNx (first (k := s')) (yNx (ySet lc) (yNx (yIfF (xTAndT (xTVal (xOp (xVar rfl) xC ge)) (xTAndT t1 t3)) yEnd) rfl))⟩
              | true =>
                rw [h3] at t3
                exact ⟨.d (.list []), [0], rfl, fun s' => yNx (first (k := s')) (yNx (ySet lc) (yNx (yIfT (xTAndT (xTVal (xOp (xVar rfl) xC ge)) (xTAndT t1 t3)) (yNx (ySet (xLst (xCons xC xNil) rfl (by show 1 ≤ sizeLine; decide))) yEnd)) rfl))⟩
        obtain ⟨v17, l18, hne, run⟩ := s1718
        refine ⟨some (.d (.int (szO m r : Nat))), some v17, some (.d (.list (intsD l18))), f, ?_⟩
        have ne := ne_nil l18 st
        rw [hne] at ne
        have al : ∀ (x : List PyData), x.length ≤ 1 → (acc.map prD).length + x.length ≤ sizeLine := fun x hx => by
          rw [List.length_map]
          exact big (by omega)
        refine yNx s15 (yNx (yIfT t2 (yNx s16 ((run _).trans (yNx (r1 := lsR pre m (acc ++ (sizeC m r).toList) (some (.d (.int r))) (some (.d (.int (szF m r : Nat)))) (some (.d (.int (szO m r : Nat)))) (some v17) (some (.d (.list (intsD l18)))) f g) ?_ yEnd)))) yEnd)
        cases h13 : (sz1 m r && sz3 m r) with
        | false =>
          rw [h13] at ne
          have ez : sizeC m r = none := by
            unfold sizeC
            rw [h2, Bool.and_true, h13]
            rfl
          rw [ez, Option.toList_none]
          have := ySet (i := 13) (xOp (f := oAdd) (xVar (i := 13) (r := lsR pre m acc (some (.d (.int r))) (some (.d (.int (szF m r : Nat)))) (some (.d (.int (szO m r : Nat)))) (some v17) (some (.d (.list (intsD l18)))) f g) (st := st) rfl) (xIfF (a := eLst (aCons (eTup (aCons (eOp oAdd (eVar 16) (eC (.int 1))) (aCons (eVar 15) (aNil)))) (aNil))) (xTVal (xOp (xVar (i := 18) rfl) (xLst xNil rfl (by show 0 ≤ sizeLine; decide)) ne)) (xLst xNil rfl (by show 0 ≤ sizeLine; decide))) (addL (al [] (by simp)) st))
          rw [List.append_nil] at this
          rw [List.append_nil]
          exact this
        | true =>
          rw [h13] at ne
          have ez : sizeC m r = some (szO m r + 1, szF m r) := by
            unfold sizeC
            rw [h2, Bool.and_true, h13]
            rfl
          rw [ez]
          have := ySet (i := 13) (xOp (f := oAdd) (xVar (i := 13) (r := lsR pre m acc (some (.d (.int r))) (some (.d (.int (szF m r : Nat)))) (some (.d (.int (szO m r : Nat)))) (some v17) (some (.d (.list (intsD l18)))) f g) (st := st) rfl) (xIfT (b := eLst (aNil)) (xTVal (xOp (xVar (i := 18) rfl) (xLst xNil rfl (by show 0 ≤ sizeLine; decide)) ne)) (xLst (xCons (xTup (xCons (xOp (xVar (i := 16) rfl) xC (oAdd_nn _ 1 _)) (xCons (xVar (i := 15) rfl) xNil)) rfl (by show 2 ≤ sizeLine; decide)) xNil) rfl (by show 1 ≤ sizeLine; decide))) (addL (al [_] (by simp)) st))
          rw [show acc.map prD ++ [PyData.tuple [.int ((szO m r + 1 : Nat) : Int), .int (szF m r : Nat)]] = (acc ++ [(szO m r + 1, szF m r)]).map prD by rw [List.map_append]; rfl] at this
          exact this
    obtain ⟨c', d', e', f', body⟩ := body
    obtain ⟨a2, b2, c2, d2, e2, f2, g2, fin⟩ := ls_loop (pre := pre) (st := st) hm hm2 l (acc ++ (sizeC m r).toList) (some (.d (.int r))) (some (.d (.int (szF m r : Nat)))) c' d' e' f' g (fun q hq => hr q (List.mem_cons_of_mem _ hq)) (by rw [List.length_append]; omega)
    refine ⟨a2, b2, c2, d2, e2, f2, g2, ?_⟩
    have ef : (sizeC m r).toList ++ l.filterMap (sizeC m) = (r :: l).filterMap (sizeC m) := by
      rw [List.filterMap_cons]
      cases sizeC m r <;> rfl
    rw [List.map_cons, forL_nx (r1 := lsR pre m acc (some (.d (.int r))) b c d e f g) rfl body, fin, List.append_assoc, ef]
end ML
end
section
/-! PL19: nets with just one friend in common for any two: windmills. -/
namespace ML
open PySem DL
section
variable {n : Nat} {ps : List Pr}
/-! ### the sum of the degrees -/
def hit (a : Nat) (p : Pr) : Bool := p.1 == a || p.2 == a
def oth (a : Nat) (p : Pr) : Nat := if p.1 = a then p.2 else p.1
theorem hit_iff {a : Nat} {p : Pr} : hit a p = true ↔ p.1 = a ∨ p.2 = a := by simp [hit]
theorem adj_iff {a b : Nat} : adj ps a b = true ↔ (a, b) ∈ ps ∨ (b, a) ∈ ps := by simp [adj]
theorem nbr_nd (n : Nat) (ps : List Pr) (a : Nat) : (nbr n ps a).Nodup := (nbr_lt n ps a).imp fun {a b} h e => by omega
theorem dg_hit (N : Net n ps) (a : Nat) : dg n ps a = (ps.filter (hit a)).length := by
  unfold dg
  rw [← List.length_map (f := oth a)]
  refine List.Perm.length_eq ((List.perm_ext_iff_of_nodup (nbr_nd n ps a) ?_).mpr fun b => ?_)
  · refine List.pairwise_map.mpr ?_
    refine List.Pairwise.imp_of_mem (R := ltPr) ?_ (N.srt.filter _)
    intro p q hp hq h e
    have h1 := hit_iff.mp (List.mem_filter.mp hp).2
    have h2 := hit_iff.mp (List.mem_filter.mp hq).2
    have o1 := N.ok p (List.mem_filter.mp hp).1
    have o2 := N.ok q (List.mem_filter.mp hq).1
    unfold oth at e
    unfold ltPr at h
    split at e <;> split at e <;> omega
  · rw [mem_nbr N, adj_iff, List.mem_map]
    constructor
    · rintro (h | h)
      · exact ⟨(a, b), List.mem_filter.mpr ⟨h, hit_iff.mpr (.inl rfl)⟩, by simp [oth]⟩
      · have := N.ok _ h
        exact ⟨(b, a), List.mem_filter.mpr ⟨h, hit_iff.mpr (.inr rfl)⟩, by
          unfold oth
          rw [if_neg (by simp only at this ⊢; omega)]⟩
    · rintro ⟨⟨x, y⟩, hp, e⟩
      obtain ⟨h1, h2⟩ := List.mem_filter.mp hp
      have h2 := hit_iff.mp h2
      unfold oth at e
      simp only at h2 e
      split at e
      · rename_i z
        subst z e
        exact .inl h1
      · rename_i z
        have z2 := h2.resolve_left z
        subst z2 e
        exact .inr h1
theorem one_at {n x : Nat} (h : x < n) : sumF (List.range n) (fun a => (x == a).toNat) = 1 := by
  have := sumF_at List.nodup_range (List.mem_range.mpr h) (fun a => (x == a).toNat) (fun _ => 0) fun y _ ne => by
    have : (x == y) = false := by simpa using fun e => ne e.symm
    show (x == y).toNat = 0
    rw [this]
    rfl
  rw [sumF_zero] at this
  simpa using this
theorem shake_go : ∀ qs : List Pr, (∀ p ∈ qs, p.1 < p.2 ∧ p.2 < n) → sumF (List.range n) (fun a => (qs.filter (hit a)).length) = 2 * qs.length
  | [], _ => by simp [sumF_zero]
  | p :: qs, h => by
    have ih := shake_go qs fun q hq => h q (List.mem_cons_of_mem _ hq)
    have hp := h p List.mem_cons_self
    have e : ∀ a, ((p :: qs).filter (hit a)).length = ((p.1 == a).toNat + (p.2 == a).toNat) + (qs.filter (hit a)).length := fun a => by
      rw [List.filter_cons]
      unfold hit
      by_cases h1 : p.1 = a
      · have h2 : (p.2 == a) = false := by
          rw [beq_eq_false_iff_ne]
          omega
        have h1' : (p.1 == a) = true := by simpa using h1
        rw [h1', h2]
        simp
        omega
      · have h1' : (p.1 == a) = false := by simpa using h1
        rw [h1']
        cases (p.2 == a) <;> simp <;> omega
    rw [sumF_congr fun a _ => e a, sumF_add, sumF_add, one_at (by omega), one_at hp.2, ih, List.length_cons]
    omega
/-- the degrees add up to twice the pairs -/
theorem shake (N : Net n ps) : sumF (List.range n) (dg n ps) = 2 * ps.length := by
  rw [sumF_congr fun a _ => dg_hit N a]
  exact shake_go ps N.ok
/-! ### hubs -/
theorem ne_len {n u : Nat} (h : u < n) : ((List.range n).filter fun b => !(u == b)).length = n - 1 := by
  rw [filter_sum]
  have := sumF_at List.nodup_range (List.mem_range.mpr h) (fun b => (!(u == b)).toNat) (fun _ => 1) fun y _ ne => by
    have : (u == y) = false := by simpa using fun e => ne e.symm
    show (!(u == y)).toNat = 1
    rw [this]
    rfl
  rw [sumF_const, List.length_range] at this
  simp at this
  omega
theorem full_dg {u : Nat} (N : Net n ps) (hu : u < n) (h : ∀ x, x < n → x ≠ u → adj ps u x = true) : dg n ps u = n - 1 := by
  unfold dg nbr
  rw [← ne_len hu]
  congr 1
  refine List.filter_congr fun b hb => ?_
  by_cases e : u = b
  · subst e
    rw [adj_irr N]
    simp
  · rw [h b (List.mem_range.mp hb) fun z => e z.symm]
    simpa using e
theorem dg_full {u x : Nat} (N : Net n ps) (hu : u < n) (h : dg n ps u = n - 1) (hx : x < n) (ne : x ≠ u) : adj ps u x = true := by
  cases e : adj ps u x with
  | true => rfl
  | false =>
    have key := sumF_at List.nodup_range (List.mem_range.mpr hx) (aN ps u) (fun c => if c = x then 1 else aN ps u c) fun y _ ney => by
      show _ = if y = x then 1 else _
      rw [if_neg ney]
    have z : aN ps u x = 0 := by unfold aN; rw [e]; rfl
    have z2 : (if x = x then 1 else aN ps u x) = 1 := if_pos rfl
    rw [z2, z, ← dg_sum, h] at key
    have key2 := sumF_at List.nodup_range (List.mem_range.mpr hu) (fun c => if c = x then 1 else aN ps u c) (fun c => if c = u then 0 else (if c = x then 1 else aN ps u c)) fun y _ ney => by
      show _ = if y = u then 0 else _
      rw [if_neg ney]
    have le : sumF (List.range n) (fun c => if c = u then 0 else (if c = x then 1 else aN ps u c)) ≤ n - 1 := by
      have k3 := sumF_at List.nodup_range (List.mem_range.mpr hu) (fun c => if c = u then 0 else 1) (fun _ => 1) fun y _ ney => by
        show (if y = u then 0 else 1) = 1
        rw [if_neg ney]
      rw [sumF_const, List.length_range] at k3
      simp only [if_true] at k3
      have mono : ∀ l : List Nat, sumF l (fun c => if c = u then 0 else (if c = x then 1 else aN ps u c)) ≤ sumF l (fun c => if c = u then 0 else 1) := fun l => by
        induction l with
        | nil => exact Nat.le_refl _
        | cons a l ih =>
          rw [sumF_cons, sumF_cons]
          refine Nat.add_le_add ?_ ih
          have := aN_le (ps := ps) u a
          by_cases h1 : a = u
          · rw [if_pos h1, if_pos h1]
            exact Nat.le_refl _
          · rw [if_neg h1, if_neg h1]
            split <;> omega
      have := mono (List.range n)
      omega
    have zu : (if u = x then 1 else aN ps u u) = 0 := by
      rw [if_neg fun z => ne z.symm]
      unfold aN
      rw [adj_irr N]
      rfl
    simp only [if_true] at key2
    rw [zu] at key2
    omega
/-- a hub's common friends -/
theorem hub_cnt {t v : Nat} (N : Net n ps) (ht : t < n) (h : ∀ x, x < n → x ≠ t → adj ps t x = true) (hv : v < n) (ne : v ≠ t) : cnt n ps t v + 1 = dg n ps v := by
  rw [cnt_sum, dg_sum]
  have key := sumF_at List.nodup_range (List.mem_range.mpr ht) (fun c => aN ps t c * aN ps v c) (aN ps v) fun y hy ney => by
    have : aN ps t y = 1 := by unfold aN; rw [h y (List.mem_range.mp hy) ney]; rfl
    rw [this, Nat.one_mul]
  have z1 : aN ps t t = 0 := by unfold aN; rw [adj_irr N]; rfl
  have z2 : aN ps v t = 1 := by rw [aN_comm]; unfold aN; rw [h v hv ne]; rfl
  rw [z1, z2, Nat.zero_mul] at key
  exact key
def all1 (n : Nat) (ps : List Pr) : Prop := ∀ a b, a < n → b < n → a ≠ b → cnt n ps a b = 1
theorem two_com {a b c d : Nat} (N : Net n ps) (h : cnt n ps a b = 1) (h1 : adj ps a c = true) (h2 : adj ps b c = true) (h3 : adj ps a d = true) (h4 : adj ps b d = true) : c = d := by
  unfold cnt at h
  obtain ⟨x, hx⟩ := List.length_eq_one_iff.mp h
  have e1 : c ∈ com n ps a b := (mem_com N).mpr ⟨h1, h2⟩
  have e2 : d ∈ com n ps a b := (mem_com N).mpr ⟨h3, h4⟩
  rw [hx] at e1 e2
  simp at e1 e2
  rw [e1, e2]
theorem deg_non {u v : Nat} (h : all1 n ps) (hu : u < n) (hv : v < n) (na : adj ps u v = false) : dg n ps u = dg n ps v := by
  have e1 := walk3_val (u := u) h hv
  have e2 := walk3_val (u := v) h hu
  rw [walk3] at e1
  rw [aN_comm v u] at e2
  have z : aN ps u v = 0 := by unfold aN; rw [na]; rfl
  rw [z] at e1 e2
  omega
theorem hub_of (N : Net n ps) (hn : n ≤ 12) (h : all1 n ps) : n = 1 ∨ ∃ t, t < n ∧ dg n ps t = n - 1 := by
  have pos := N.pos
  by_cases hd : ∃ u v, u < n ∧ v < n ∧ dg n ps u ≠ dg n ps v
  · obtain ⟨u, v, hu, hv, ne⟩ := hd
    have far : ∀ {x y}, x < n → y < n → dg n ps x ≠ dg n ps y → adj ps x y = true := fun {x y} hx hy ne => by
      cases e : adj ps x y with
      | true => rfl
      | false => exact absurd (deg_non h hx hy e) ne
    by_cases h1 : ∃ u', u' < n ∧ u' ≠ u ∧ dg n ps u' = dg n ps u
    · obtain ⟨u', hu', nu, eu⟩ := h1
      refine .inr ⟨v, hv, full_dg N hv fun y hy ny => ?_⟩
      by_cases h2 : dg n ps y = dg n ps u
      · exact far hv hy fun z => ne (by rw [z, h2])
      · exact absurd (two_com N (h u u' hu hu' fun z => nu z.symm) (far hu hy fun z => h2 z.symm) (far hu' hy fun z => h2 (by rw [← z, eu])) (far hu hv ne) (far hu' hv (by rw [eu]; exact ne))) ny
    · refine .inr ⟨u, hu, full_dg N hu fun x hx nx => far hu hx fun z => h1 ⟨x, hx, nx, z.symm⟩⟩
  · have reg : ∀ a, a < n → dg n ps a = dg n ps 0 := fun a ha => by
      by_cases e : dg n ps a = dg n ps 0
      · exact e
      · exact absurd ⟨a, 0, ha, pos, e⟩ hd
    have e := deg_eq N h reg pos
    have sh := shake N
    rw [sumF_congr fun a ha => reg a (List.mem_range.mp ha), sumF_const, List.length_range] at sh
    generalize hd0 : dg n ps 0 = d at e sh reg
    have d3 : d ≤ 3 := by
      rcases Nat.lt_or_ge 3 d with z | z
      · have : 4 * d ≤ d * d := Nat.mul_le_mul_right _ z
        omega
      · exact z
    have : d = 0 ∨ d = 1 ∨ d = 2 ∨ d = 3 := by omega
    rcases this with z | z | z | z
    · subst z
      exact .inl (by omega)
    · subst z
      exact .inl (by omega)
    · subst z
      exact .inr ⟨0, pos, by rw [hd0]; omega⟩
    · subst z
      omega
/-! ### the law's windmills -/
def topsL (n : Nat) (ps : List Pr) : List Nat := (List.range n).filter fun a => dg n ps a == n - 1
def topH (n : Nat) (ps : List Pr) : Nat := (topsL n ps).headD 0
def badL (n : Nat) (ps : List Pr) : List Nat := (List.range n).filter fun a => !(a == topH n ps) && !(dg n ps a == 2)
def isW (n : Nat) (ps : List Pr) : Bool := n == 1 || (!(topsL n ps).isEmpty && (badL n ps).isEmpty)
theorem tops_head (h : (topsL n ps).isEmpty = false) : topH n ps < n ∧ dg n ps (topH n ps) = n - 1 := by
  cases e : topsL n ps with
  | nil => rw [e] at h; cases h
  | cons t r =>
    have : t ∈ topsL n ps := by rw [e]; exact List.mem_cons_self
    obtain ⟨h1, h2⟩ := List.mem_filter.mp this
    have e2 : topH n ps = t := by unfold topH; rw [e]; rfl
    rw [e2]
    exact ⟨List.mem_range.mp h1, by simpa using h2⟩
/-- what a windmill's text says -/
theorem isW_hub (N : Net n ps) (h : isW n ps = true) (h1 : n ≠ 1) : (topsL n ps).isEmpty = false ∧ ∀ v, v < n → v ≠ topH n ps → dg n ps v = 2 := by
  unfold isW at h
  have : (n == 1) = false := by simpa using h1
  rw [this, Bool.false_or, Bool.and_eq_true] at h
  refine ⟨by simpa using h.1, fun v hv ne => ?_⟩
  by_cases z : dg n ps v = 2
  · exact z
  · have : v ∈ badL n ps := List.mem_filter.mpr ⟨List.mem_range.mpr hv, by simp [ne, z]⟩
    have h2 := h.2
    rw [List.isEmpty_iff] at h2
    rw [h2] at this
    cases this
theorem isW_all (N : Net n ps) (h : isW n ps = true) : all1 n ps := by
  intro a b ha hb ne
  by_cases h1 : n = 1
  · omega
  obtain ⟨e1, e2⟩ := isW_hub N h h1
  obtain ⟨ht, hd⟩ := tops_head e1
  generalize topH n ps = t at e2 ht hd
  have full : ∀ x, x < n → x ≠ t → adj ps t x = true := fun x hx nx => dg_full N ht hd hx nx
  by_cases ea : a = t
  · subst ea
    have := hub_cnt N ht full hb fun z => ne z.symm
    have := e2 b hb fun z => ne z.symm
    omega
  · by_cases eb : b = t
    · subst eb
      rw [cnt_comm]
      have := hub_cnt N ht full ha ea
      have := e2 a ha ea
      omega
    · rw [cnt_sum]
      have key := sumF_at List.nodup_range (List.mem_range.mpr ht) (fun c => aN ps a c * aN ps b c) (fun _ => 0) fun c hc nc => by
        show aN ps a c * aN ps b c = 0
        unfold aN
        cases z1 : adj ps a c with
        | false => exact Nat.zero_mul _
        | true =>
          cases z2 : adj ps b c with
          | false => exact Nat.mul_zero _
          | true =>
            have hc := List.mem_range.mp hc
            have q1 := hub_cnt N ht full hc nc
            have q2 := e2 c hc nc
            exact absurd (two_com N (a := t) (b := c) (by omega) (full a ha ea) (by rw [adj_comm]; exact z1) (full b hb eb) (by rw [adj_comm]; exact z2)) ne
      rw [sumF_zero] at key
      have z1 : aN ps a t = 1 := by rw [aN_comm]; unfold aN; rw [full a ha ea]; rfl
      have z2 : aN ps b t = 1 := by rw [aN_comm]; unfold aN; rw [full b hb eb]; rfl
      rw [z1, z2] at key
      omega
theorem all_isW (N : Net n ps) (hn : n ≤ 12) (h : all1 n ps) : isW n ps = true := by
  rcases hub_of N hn h with z | ⟨t, ht, hd⟩
  · unfold isW
    simp [z]
  · have e1 : (topsL n ps).isEmpty = false := by
      cases e : topsL n ps with
      | cons _ _ => rfl
      | nil =>
        have : t ∈ topsL n ps := List.mem_filter.mpr ⟨List.mem_range.mpr ht, by simpa using hd⟩
        rw [e] at this
        cases this
    obtain ⟨ht2, hd2⟩ := tops_head e1
    unfold isW
    rw [e1]
    have : (badL n ps).isEmpty = true := by
      rw [List.isEmpty_iff]
      refine List.filter_eq_nil_iff.mpr fun v hv z => ?_
      have hv := List.mem_range.mp hv
      simp at z
      have := hub_cnt N ht2 (fun x hx nx => dg_full N ht2 hd2 hx nx) hv z.1
      rw [h _ v ht2 hv fun e => z.1 e.symm] at this
      omega
    rw [this]
    simp
theorem isW_iff (N : Net n ps) (hn : n ≤ 12) : isW n ps = true ↔ all1 n ps := ⟨isW_all N, all_isW N hn⟩
theorem len_split {α : Type} (f : α → Bool) : ∀ l : List α, l.length = (l.filter f).length + (l.filter fun p => !f p).length
  | [] => rfl
  | x :: l => by
    have := len_split f l
    rw [List.filter_cons, List.filter_cons]
    cases f x <;> simp <;> omega
/-- the blades -/
theorem blades_len (N : Net n ps) (h : isW n ps = true) (h1 : n ≠ 1) : 2 * (ps.filter fun p => !hit (topH n ps) p).length = n - 1 := by
  obtain ⟨e1, e2⟩ := isW_hub N h h1
  obtain ⟨ht, hd⟩ := tops_head e1
  generalize topH n ps = t at e2 ht hd
  have key := sumF_at List.nodup_range (List.mem_range.mpr ht) (dg n ps) (fun _ => 2) fun v hv nv => e2 v (List.mem_range.mp hv) nv
  rw [shake N, sumF_const, List.length_range, hd] at key
  have h2 := dg_hit N t
  have h3 : ps.length = (ps.filter (hit t)).length + (ps.filter fun p => !hit t p).length := by
    exact len_split _ _
  have := N.pos
  omega
end
end ML
end
section
/-! PL20: what the windmills' defs compute. -/
namespace ML
open PySem DL
section
variable {n : Nat} {ps : List Pr}
theorem fLen_intsD (l : List Nat) (st : Sto) : fLen [.d (.list (intsD l))] st = some (.d (.int (l.length : Nat))) := by
  rw [fLen_l]
  unfold intsD
  rw [List.length_map]
theorem fLen_prs (l : List Pr) (st : Sto) : fLen [.d (.tuple (l.map prD))] st = some (.d (.int (l.length : Nat))) := by
  rw [fLen_t, List.length_map]
theorem ne_nats (a b : Nat) (st : Sto) : oNe (.d (.int a)) (.d (.int b)) st = some (.d (.bool (!(a == b)))) := by
  rw [ne_ints]
  congr 4
  rw [Bool.eq_iff_iff]
  simp
  omega
theorem ix_head {l : List Nat} (h : l.isEmpty = false) (st : Sto) : oIx (.d (.list (intsD l))) (.d (.int 0)) st = some (.d (.int (l.headD 0 : Nat))) := by
  cases l with
  | nil => cases h
  | cons a r => exact oIx_l _ (atI_nat' (i := 0) rfl)
/-- [hall for hall in range(halls) if len(near[hall]) == halls - 1] -/
theorem tops_lc (N : Net n ps) {r : Rho} {i2 i3 : Nat} {hv : EF} {b : EF} (hvr : ∀ st, (iRg1 b) r st = some (.ok (rng 0 n), st)) (r2 : r[i2]? = some (some (.d (nearD n ps)))) (n2 : i3 ≠ i2) (hl : i3 < r.length)
    (hh : ∀ a st, hv ((r.set i3 none).set i3 (some (DV.d (.int ((a : Nat) : Int))))) st = some (.ok (.d (.int n)), st)) (st : Sto) :
    eLc (iRg1 b) (gV i3) (tVal (eOp oEq (eCall (fB fLen) (aCons (eOp oIx (eVar i2) (eVar i3)) aNil)) (eOp oSub hv (eC (.int 1))))) (eVar i3) [i3] r st = some (.ok (.d (.list (intsD (topsL n ps)))), st) := by
  have hn := N.le
  have hp := N.pos
  unfold topsL
  refine eLc_filt (List.range n) (fun (a : Nat) => .d (.int a)) (fun (a : Nat) => .int a) (fun a => dg n ps a == n - 1) ((hvr st).trans ?_) (by rw [List.length_range]; exact big (by omega)) fun a ha st => ?_
  · unfold rng
    simp
  · have w0 : ((r.set i3 none).set i3 (some (DV.d (.int (a : Int)))))[i2]? = some (some (.d (nearD n ps))) := by
      rw [List.getElem?_set_ne n2, List.getElem?_set_ne n2]
      exact r2
    have wv : ((r.set i3 none).set i3 (some (DV.d (.int (a : Int)))))[i3]? = some (some (.d (.int a))) := by
      rw [List.getElem?_set_self (by simpa using hl)]
    exact ⟨_, rfl, xTVal (xOp (xCall (xCons (xOp (xVar w0) (xVar wv) (ix_near (List.mem_range.mp ha) _)) xNil) (xB (fLen_intsD _ _))) (xOp (hh a st) xC (oSub_nn (b := 1) hp _)) (eq_nats (dg n ps a) (n - 1) _)), xVar wv⟩
theorem is_windmill_ok (N : Net n ps) (st : Sto) : F__law_is_windmill [.d (netD n ps)] st = some (.ok (.d (.bool (isW n ps))), st) := by
  have hn := N.le
  have hp := N.pos
  have near := near_at3 N (r := [some (.d (netD n ps)), none, none, none, none]) (i0 := 0) (iv := 3) rfl (by decide) (by show 3 < 5; decide) st
  have e1 := eq_nats n 1 st
  by_cases h1 : n = 1
  · subst h1
    exact fRt rfl (yNx (yPar (i := 1) (j := 2) (xCons (xOp (xVar rfl) xC (ix0 _ _ _)) (xCons near xNil))) (yRt (yIfT (xTVal (xOp (xVar (i := 1) rfl) xC e1)) (yRt (yRet xC))))) rfl
  have z1 : (n == 1) = false := by simpa using h1
  rw [z1] at e1
  have tops := tops_lc N (r := [some (.d (netD n ps)), some (.d (.int n)), some (.d (nearD n ps)), none, none]) (i2 := 2) (i3 := 3) (hv := eVar 1) (b := eVar 1) (fun st => zRg1 (xVar rfl) (by omega)) rfl (by decide) (by show 3 < 5; decide) (fun a st => xVar rfl) st
  have key : eAnd (eOp oNe (eVar 4) (eLst (aNil))) (eOp oEq (eLc (iRg1 (eVar 1)) (gV 3) (DL.tAnd (tVal (eOp oNe (eVar 3) (eOp oIx (eVar 4) (eC (.int 0))))) (tVal (eOp oNe (eCall (fB fLen) (aCons (eOp oIx (eVar 2) (eVar 3)) aNil)) (eC (.int 2))))) (eVar 3) [3]) (eLst (aNil)))
      [some (.d (netD n ps)), some (.d (.int n)), some (.d (nearD n ps)), none, some (.d (.list (intsD (topsL n ps))))] st = some (.ok (.d (.bool (isW n ps))), st) := by
    have a1 := xOp (xVar (i := 4) (r := [some (.d (netD n ps)), some (.d (.int n)), some (.d (nearD n ps)), none, some (.d (.list (intsD (topsL n ps))))]) (st := st) rfl) (xLst xNil rfl (Nat.zero_le _)) (ne_nil (topsL n ps) st)
    cases e : (topsL n ps).isEmpty with
    | true =>
      rw [e] at a1
      unfold isW
      rw [z1, e]
      exact xAndF a1
    | false =>
      rw [e] at a1
      have lc : eLc (iRg1 (eVar 1)) (gV 3) (DL.tAnd (tVal (eOp oNe (eVar 3) (eOp oIx (eVar 4) (eC (.int 0))))) (tVal (eOp oNe (eCall (fB fLen) (aCons (eOp oIx (eVar 2) (eVar 3)) aNil)) (eC (.int 2))))) (eVar 3) [3]
          [some (.d (netD n ps)), some (.d (.int n)), some (.d (nearD n ps)), none, some (.d (.list (intsD (topsL n ps))))] st = some (.ok (.d (.list (intsD (badL n ps)))), st) := by
        unfold badL
        refine eLc_filt (List.range n) (fun (a : Nat) => .d (.int a)) (fun (a : Nat) => .int a) (fun a => !(a == topH n ps) && !(dg n ps a == 2)) ((zRg1 (n := n) (xVar rfl) (by omega)).trans ?_) (by rw [List.length_range]; exact big (by omega)) fun a ha st => ?_
        · unfold rng
          simp
        · refine ⟨[some (.d (netD n ps)), some (.d (.int n)), some (.d (nearD n ps)), some (.d (.int a)), some (.d (.list (intsD (topsL n ps))))], rfl, ?_, rfl⟩
          have b1 := xTVal (xOp (xVar (i := 3) (r := [some (.d (netD n ps)), some (.d (.int n)), some (.d (nearD n ps)), some (.d (.int a)), some (.d (.list (intsD (topsL n ps))))]) (st := st) rfl) (xOp (xVar (i := 4) rfl) xC (ix_head e _)) (ne_nats a (topH n ps) _))
          cases z : (a == topH n ps) with
          | true =>
            rw [z] at b1
            exact xTAndF b1
          | false =>
            rw [z] at b1
            exact xTAndT b1 (xTVal (xOp (xCall (xCons (xOp (xVar (i := 2) rfl) (xVar (i := 3) rfl) (ix_near (List.mem_range.mp ha) _)) xNil) (xB (fLen_intsD _ _))) xC (ne_nats (dg n ps a) 2 _)))
      have a2 := xOp lc (xLst xNil rfl (Nat.zero_le _)) (eq_nil (badL n ps) st)
      unfold isW
      rw [z1, e]
      exact xAndT a1 a2
  exact fRt rfl (yNx (yPar (i := 1) (j := 2) (xCons (xOp (xVar rfl) xC (ix0 _ _ _)) (xCons near xNil))) (yNx (yIfF (xTVal (xOp (xVar (i := 1) rfl) xC e1)) yEnd) (yNx (ySet (i := 4) tops) (yRt (yRet key))))) rfl
/-! ### one friend -/
def cntL (n : Nat) (ps : List Pr) : List Int := usort (castL (jl n ps)) ++ usort (castL (al n ps))
def oneF (n : Nat) (ps : List Pr) : Bool := (cntL n ps).all fun z => z == 1
theorem mem_cntL {z : Int} : z ∈ cntL n ps ↔ ∃ p ∈ allP n, z = (cnt n ps p.1 p.2 : Nat) := by
  unfold cntL castL jl al
  rw [List.mem_append, usort_mem, usort_mem]
  simp only [List.mem_map, List.mem_filter]
  constructor
  · rintro (⟨a, ⟨p, ⟨h1, _⟩, rfl⟩, rfl⟩ | ⟨a, ⟨p, ⟨h1, _⟩, rfl⟩, rfl⟩) <;> exact ⟨p, h1, rfl⟩
  · rintro ⟨p, h, rfl⟩
    cases e : adj ps p.1 p.2 with
    | true => exact .inl ⟨_, ⟨p, ⟨h, e⟩, rfl⟩, rfl⟩
    | false => exact .inr ⟨_, ⟨p, ⟨h, by rw [e]; rfl⟩, rfl⟩, rfl⟩
theorem cntL_nat {z : Int} (h : z ∈ cntL n ps) : ∃ b : Nat, b ≤ n ∧ z = (b : Int) := by
  obtain ⟨p, _, rfl⟩ := mem_cntL.mp h
  exact ⟨_, Nat.le_of_lt_succ (cnt_le n ps p.1 p.2), rfl⟩
theorem oneF_iff : oneF n ps = true ↔ all1 n ps := by
  unfold oneF all1
  rw [List.all_eq_true]
  constructor
  · intro h a b ha hb ne
    have key : ∀ x y, x < y → y < n → cnt n ps x y = 1 := fun x y h1 h2 => by
      have := h _ (mem_cntL.mpr ⟨(x, y), mem_allP.mpr ⟨h1, h2⟩, rfl⟩)
      simp at this
      omega
    rcases Nat.lt_or_gt_of_ne ne with z | z
    · exact key a b z hb
    · rw [cnt_comm]
      exact key b a z ha
  · intro h z hz
    obtain ⟨p, hp, rfl⟩ := mem_cntL.mp hz
    have := mem_allP.mp hp
    rw [h p.1 p.2 (by omega) this.2 (by omega)]
    rfl
theorem oneF_isW (N : Net n ps) (hn : n ≤ 12) : oneF n ps = isW n ps := by
  rw [Bool.eq_iff_iff, oneF_iff, isW_iff N hn]
theorem cntL_len (hn : n ≤ 60) : (cntL n ps).length ≤ 200 := by
  have lj := us_j (n := n) (ps := ps)
  have la := us_a (n := n) (ps := ps)
  unfold cntL
  rw [List.length_append]
  omega
theorem cnt_add (hn : n ≤ 60) (st : Sto) : oAdd (.d (.list ((usort (castL (jl n ps))).map .int))) (.d (.list ((usort (castL (al n ps))).map .int))) st = some (.d (.list ((cntL n ps).map .int))) := by
  have hl := cntL_len (ps := ps) hn
  unfold cntL at hl ⊢
  rw [List.length_append] at hl
  rw [List.map_append]
  exact addL (by
    rw [List.length_map, List.length_map]
    exact big (by omega)) st
def is1 : DV → Bool
  | .d (.int z) => z == 1
  | _ => false
theorem all_one {r : Rho} {i : Nat} {it : IF} {l : List Int} {st : Sto} (hi : it r st = some (.ok ((l.map PyData.int).map .d), st)) (h : i < r.length) : eAll it (gV i) (eOp oEq (eVar i) (eC (.int 1))) [i] r st = some (.ok (.d (.bool (l.all fun z => z == 1))), st) := by
  have := eAll_pure (it := it) (g := gV i) (e := eOp oEq (eVar i) (eC (.int 1))) (vs := [i]) (r := r) (st := st) (xs := (l.map PyData.int).map .d) is1 hi (fun x hx => by
        obtain ⟨y, hy, rfl⟩ := List.mem_map.mp hx
        obtain ⟨z, _, rfl⟩ := List.mem_map.mp hy
        refine ⟨_, rfl, xOp (xVar ?_) xC (eq_ints z 1 _)⟩
        rw [List.getElem?_set_self (by simpa [wipeR] using h)])
  rw [this, List.all_map, List.all_map]
  rfl
theorem is_one_friend_of_ok (N : Net n ps) (st : Sto) : F_is_one_friend_of [.d (netD n ps)] st = some (.ok (.d (.bool (oneF n ps))), st) := by
  have al := all_one (r := [some (.d (netD n ps)), some (.d (.list ((usort (castL (jl n ps))).map .int))), some (.d (.list ((usort (castL (al n ps))).map .int))), none]) (i := 3) (it := iSeq (eOp oAdd (eVar 1) (eVar 2))) (st := st) (l := cntL n ps) (zSeq (xOp (xVar rfl) (xVar rfl) (cnt_add N.le _)) (itms_l _ _)) (by show 3 < 4; decide)
  exact fRt rfl (yNx (yAsg (xCall (xCons (xVar rfl) xNil) (counts_of_ok N st)) rfl) (yRt (yRet al))) rfl
theorem is_one_friend_ok (N : Net n ps) (st : Sto) : F_is_one_friend [.d (netD n ps)] st = some (.ok (.d (.bool (oneF n ps))), st) :=
  fRt rfl (yNx (yExpr (xCall (xCons (xVar rfl) xNil) (need_net_ok N _))) (yRt (yRet (xCall (xCons (xVar rfl) xNil) (is_one_friend_of_ok N _))))) rfl
/-! ### hubs -/
theorem zEnum {a : EF} {r : Rho} {st st1 : Sto} {ds : List PyData} (ha : a r st = some (.ok (.d (.list ds)), st1)) : iEnumD a r st = some (.ok (enD ds), st1) := by
  show bnd (a r) _ st = _
  rw [bnd_at, ha]
  simp only [lft_at]
theorem hubs_ok (N : Net n ps) (st : Sto) : F_hubs [.d (netD n ps)] st = some (.ok (.d (.tuple (intsD (topsL n ps)))), st) := by
  have hn := N.le
  have hp := N.pos
  have en : enD (intsD (degL n ps)) = (List.range n).map fun (a : Nat) => .d (.tuple [.int a, .int (dg n ps a : Nat)]) := by
    unfold enD intsD degL
    refine List.ext_getElem? fun i => ?_
    rw [List.getElem?_map, List.getElem?_zipIdx, List.getElem?_map, List.getElem?_map, List.getElem?_map, Nat.zero_add]
    by_cases h : i < n
    · rw [List.getElem?_range h]
      rfl
    · rw [List.getElem?_eq_none (by simpa using h)]
      rfl
  have lc : eLc (iEnumD (eCall F_degrees_of (aCons (eVar 0) (aNil)))) (gT (gConsF 1 (gConsF 2 (gNilF)))) (tVal (eOp oEq (eVar 2) (eOp oSub (eOp oIx (eVar 0) (eC (.int 0))) (eC (.int 1))))) (eVar 1) [1, 2] [some (.d (netD n ps)), none, none] st = some (.ok (.d (.list (intsD (topsL n ps)))), st) := by
    unfold topsL
    refine eLc_filt (List.range n) (fun (a : Nat) => .d (.tuple [.int a, .int (dg n ps a : Nat)])) (fun (a : Nat) => .int a) (fun a => dg n ps a == n - 1) ?_ (by rw [List.length_range]; exact big (by omega)) fun a ha st => ?_
    · exact (zEnum (xCall (xCons (xVar rfl) xNil) (degrees_of_ok N st))).trans (by rw [en])
    · exact ⟨[some (.d (netD n ps)), some (.d (.int a)), some (.d (.int (dg n ps a : Nat)))], rfl, xTVal (xOp (xVar rfl) (xOp (xOp (xVar rfl) xC (ix0 _ _ _)) xC (oSub_nn (b := 1) hp _)) (eq_nats _ _ _)), xVar rfl⟩
  exact fRt rfl (yNx (yExpr (xCall (xCons (xVar rfl) xNil) (need_net_ok N _))) (yRt (yRet (xCall (xCons lc xNil) (xB (fTup_l _ _)))))) rfl
end
end ML
end
section
/-! PL21: windmills made by the program and by the law. -/
namespace ML
open PySem DL
/-- the windmill of 2 k + 1 halls -/
def mA (k : Nat) : List Pr := (List.range (2 * k)).map fun i => (0, 1 + i)
def mB (k : Nat) : List Pr := (List.range k).map fun i => (1 + 2 * i, 2 + 2 * i)
def millP (k : Nat) : List Pr := mA k ++ mB k
theorem mem_mill {k : Nat} {p : Pr} : p ∈ millP k ↔ (p.1 = 0 ∧ 1 ≤ p.2 ∧ p.2 < 2 * k + 1) ∨ (p.1 % 2 = 1 ∧ p.2 = p.1 + 1 ∧ p.2 < 2 * k + 1) := by
  unfold millP mA mB
  rw [List.mem_append, List.mem_map, List.mem_map]
  obtain ⟨x, y⟩ := p
  constructor
  · rintro (⟨i, hi, e⟩ | ⟨i, hi, e⟩)
    · have := List.mem_range.mp hi
      cases e
      exact .inl ⟨rfl, by simp only; omega, by simp only; omega⟩
    · have := List.mem_range.mp hi
      cases e
      exact .inr ⟨by simp only; omega, by simp only; omega, by simp only; omega⟩
  · rintro (⟨h1, h2, h3⟩ | ⟨h1, h2, h3⟩)
    · simp only at h1 h2 h3
      exact .inl ⟨y - 1, List.mem_range.mpr (by omega), by rw [h1, show 1 + (y - 1) = y by omega]⟩
    · simp only at h1 h2 h3
      exact .inr ⟨x / 2, List.mem_range.mpr (by omega), by rw [show 1 + 2 * (x / 2) = x by omega, show 2 + 2 * (x / 2) = y by omega]⟩
theorem mill_ok {k : Nat} : ∀ p ∈ millP k, p.1 < p.2 ∧ p.2 < 2 * k + 1 := fun p hp => by
  rcases mem_mill.mp hp with h | h <;> omega
theorem mill_nd (k : Nat) : (millP k).Nodup := by
  unfold millP
  rw [List.nodup_append]
  refine ⟨?_, ?_, fun a ha b hb e => ?_⟩
  · unfold mA
    exact List.pairwise_map.mpr (List.nodup_range.imp fun {a b} h e => h (by
      have := congrArg Prod.snd e
      simp only at this
      omega))
  · unfold mB
    exact List.pairwise_map.mpr (List.nodup_range.imp fun {a b} h e => h (by
      have := congrArg Prod.snd e
      simp only at this
      omega))
  · subst e
    obtain ⟨i, _, e1⟩ := List.mem_map.mp ha
    obtain ⟨j, _, e2⟩ := List.mem_map.mp hb
    have := congrArg Prod.fst (e1.trans e2.symm)
    simp only at this
    omega
theorem mill_len (k : Nat) : (millP k).length = 3 * k := by
  unfold millP mA mB
  rw [List.length_append, List.length_map, List.length_map, List.length_range, List.length_range]
  omega
def millN (k : Nat) : List Pr := sortPr (millP k)
theorem mill_net {k : Nat} (hk : k ≤ 29) : Net (2 * k + 1) (millN k) := sort_net (by omega) (by omega) mill_ok (mill_nd k) (by rw [mill_len]; omega)
theorem mem_millN {k : Nat} {p : Pr} : p ∈ millN k ↔ p ∈ millP k := (sortPr_perm _).mem_iff
def mate (v : Nat) : Nat := if v % 2 = 1 then v + 1 else v - 1
theorem mill_isW {k : Nat} (hk : k ≤ 29) : isW (2 * k + 1) (millN k) = true := by
  have N := mill_net hk
  by_cases h0 : k = 0
  · subst h0
    unfold isW
    rfl
  have full : dg (2 * k + 1) (millN k) 0 = 2 * k + 1 - 1 := full_dg N (by omega) fun x hx nx => adj_iff.mpr (.inl (mem_millN.mpr (mem_mill.mpr (.inl ⟨rfl, by simp only; omega, by simp only; omega⟩))))
  have two : ∀ v, v < 2 * k + 1 → v ≠ 0 → dg (2 * k + 1) (millN k) v = 2 := fun v hv nv => by
    have : (nbr (2 * k + 1) (millN k) v).Perm [0, mate v] := by
      refine (List.perm_ext_iff_of_nodup (nbr_nd _ _ _) (by
        simp only [List.nodup_cons, List.mem_singleton, List.not_mem_nil, not_false_eq_true, List.nodup_nil, and_true]
        unfold mate
        split <;> omega)).mpr fun b => ?_
      rw [mem_nbr N, adj_iff, mem_millN, mem_millN, mem_mill, mem_mill]
      simp only [List.mem_cons, List.not_mem_nil, or_false]
      unfold mate
      split <;> omega
    unfold dg
    rw [this.length_eq]
    rfl
  have e1 : (topsL (2 * k + 1) (millN k)).isEmpty = false := by
    cases e : topsL (2 * k + 1) (millN k) with
    | cons _ _ => rfl
    | nil =>
      have : 0 ∈ topsL (2 * k + 1) (millN k) := List.mem_filter.mpr ⟨List.mem_range.mpr (by omega), by simpa using full⟩
      rw [e] at this
      cases this
  have h0' : topH (2 * k + 1) (millN k) = 0 := by
    unfold topH topsL
    rw [List.range_succ_eq_map, List.filter_cons, if_pos (by simpa using full)]
    rfl
  unfold isW
  rw [e1]
  have : (badL (2 * k + 1) (millN k)).isEmpty = true := by
    rw [List.isEmpty_iff]
    refine List.filter_eq_nil_iff.mpr fun v hv z => ?_
    rw [h0'] at z
    simp at z
    exact z.2 (two v (List.mem_range.mp hv) z.1)
  rw [this]
  simp
/-! ### ranges by twos -/
theorem rg_p : ∀ k, k < 30 → (Builtin.Range.rangeSize 1 (2 * (k : Nat) + 1 : Nat) 2 = k ∧ Builtin.Range.small 1 (2 * (k : Nat) + 1 : Nat) 2 = true) := by decide +kernel
theorem rg_l : ∀ k, k < 30 → (Builtin.Range.rangeSize 1 (2 * (k : Nat) : Nat) 2 = k ∧ Builtin.Range.small 1 (2 * (k : Nat) : Nat) 2 = true) := by decide +kernel
theorem two_small : (2 : Int) ≠ 0 ∧ (2 : Int).natAbs < 1073741824 := by decide
theorem zRg3 {a b c : EF} {r : Rho} {st : Sto} {j : Int} {k : Nat} (ha : a r st = some (.ok (.d (.int 1)), st)) (hb : b r st = some (.ok (.d (.int j)), st)) (hc : c r st = some (.ok (.d (.int 2)), st)) (h1 : Builtin.Range.rangeSize 1 j 2 = (k : Nat)) (h2 : Builtin.Range.small 1 j 2 = true) :
    iRg3 a b c r st = some (.ok ((List.range k).map fun (i : Nat) => .d (.int (1 + 2 * i : Nat))), st) := by
  have hp := And.intro two_small.1 (And.intro two_small.2 (And.intro h2 (show 0 ≤ Builtin.Range.rangeSize 1 j 2 by rw [h1]; omega)))
  unfold iRg3
  simp only [bnd_at, ha, hb, hc, lft_at, res_d, if_pos hp]
  congr 3
  unfold rng3
  rw [h1, Int.toNat_natCast]
  refine List.map_congr_left fun i _ => ?_
  congr 2
  omega
section
variable {k : Nat}
theorem mA_map {α : Type} (f : Pr → α) (k : Nat) : (List.range (2 * k)).map (fun i => f (0, 1 + i)) = (mA k).map f := by
  unfold mA
  rw [List.map_map]
  rfl
theorem mB_map {α : Type} (f : Pr → α) (k : Nat) : (List.range k).map (fun i => f (1 + 2 * i, 1 + 2 * i + 1)) = (mB k).map f := by
  unfold mB
  rw [List.map_map]
  refine List.map_congr_left fun i _ => ?_
  show f _ = f _
  rw [show 1 + 2 * i + 1 = 2 + 2 * i by omega]
/-! ### the program's -/
theorem need_halls_ok {m : Nat} (h1 : 1 ≤ m) (h2 : m ≤ 60) (st : Sto) : F_need_halls [.d (.int m)] st = some (.ok (.d .none), st) := by
  have n := is_number_int m 1 60 st
  rw [decide_eq_true (show (1 : Int) ≤ (m : Int) by omega), decide_eq_true (show (m : Int) ≤ 60 by omega)] at n
  exact fNx rfl (yNx (yIfF (xTNot (i := true) (xTTru (xCall (xCons (xVar rfl) (xCons xC (xCons xC xNil))) n) rfl)) yEnd) yEnd)
theorem windmill_even {m : Nat} (h1 : 1 ≤ m) (h2 : m ≤ 60) (he : m % 2 = 0) (st : Sto) : F_windmill [.d (.int m)] st = some (.ok (.d .none), st) := by
  have e := eq_nats (m % 2) 0 st
  rw [he] at e
  have md := oMod_nn (a := m) (b := 2) (by omega) st
  rw [he] at md
  exact fRt rfl (yNx (yExpr (xCall (xCons (xVar rfl) xNil) (need_halls_ok h1 h2 _))) (yRt (yIfT (xTVal (xOp (xOp (xVar rfl) xC md) xC e)) (yRt (yRet xC))))) rfl
theorem windmill_odd (hk : k ≤ 29) (st : Sto) : F_windmill [.d (.int (2 * k + 1 : Nat))] st = some (.ok (.d (netD (2 * k + 1) (millN k))), st) := by
  have e := eq_nats ((2 * k + 1) % 2) 0 st
  have md := oMod_nn (a := 2 * k + 1) (b := 2) (by omega) st
  rw [show (2 * k + 1) % 2 = 1 by omega] at e md
  obtain ⟨g1, g2⟩ := rg_p k (by omega)
  have l1 : eLc (iRg2 (eC (.int 1)) (eVar 0)) (gV 2) (tYesF) (eTup (aCons (eC (.int 0)) (aCons (eVar 2) (aNil)))) [2] [some (.d (.int (2 * k + 1 : Nat))), none, none] st = some (.ok (.d (.list ((mA k).map prD))), st) := by
    have := eLc_map (t := tYesF) (e := eTup (aCons (eC (.int 0)) (aCons (eVar 2) (aNil)))) (g := gV 2) (vs := [2]) (r := [some (.d (.int (2 * k + 1 : Nat))), none, none]) (st := st) (it := iRg2 (eC (.int 1)) (eVar 0)) (List.range (2 * k)) (fun (i : Nat) => .d (.int (1 + i : Nat))) (fun i => prD (0, 1 + i)) (by
      refine (zRg2 (m := 1) (n := 2 * k + 1) xC (xVar rfl) (by omega) (by omega)).trans ?_
      rw [show 2 * k + 1 - 1 = 2 * k by omega]
      rfl) (by rw [List.length_range]; exact big (by omega)) fun i hi st => ⟨[some (.d (.int (2 * k + 1 : Nat))), none, some (.d (.int (1 + i : Nat)))], rfl, rfl, xTup (xCons (xC (p := .int 0)) (xCons (xVar rfl) xNil)) rfl (by show 2 ≤ sizeLine; decide)⟩
    rw [this, mA_map prD]
  have l2 : eLc (iRg3 (eC (.int 1)) (eVar 0) (eC (.int 2))) (gV 2) (tYesF) (eTup (aCons (eVar 2) (aCons (eOp oAdd (eVar 2) (eC (.int 1))) (aNil)))) [2] [some (.d (.int (2 * k + 1 : Nat))), none, none] st = some (.ok (.d (.list ((mB k).map prD))), st) := by
    have := eLc_map (t := tYesF) (e := eTup (aCons (eVar 2) (aCons (eOp oAdd (eVar 2) (eC (.int 1))) (aNil)))) (g := gV 2) (vs := [2]) (r := [some (.d (.int (2 * k + 1 : Nat))), none, none]) (st := st) (it := iRg3 (eC (.int 1)) (eVar 0) (eC (.int 2))) (List.range k) (fun (i : Nat) => .d (.int (1 + 2 * i : Nat))) (fun i => prD (1 + 2 * i, 1 + 2 * i + 1)) (zRg3 xC (xVar rfl) xC g1 g2) (by rw [List.length_range]; exact big (by omega)) fun i hi st => ⟨[some (.d (.int (2 * k + 1 : Nat))), none, some (.d (.int (1 + 2 * i : Nat)))], rfl, rfl, xTup (xCons (xVar rfl) (xCons (xOp (xVar rfl) xC (oAdd_nn _ 1 _)) xNil)) rfl (by show 2 ≤ sizeLine; decide)⟩
    rw [this, mB_map prD]
  have ad := addL (a := (mA k).map prD) (b := (mB k).map prD) (by
    have := mill_len k
    unfold millP at this
    rw [List.length_append] at this
    rw [List.length_map, List.length_map]
    exact big (by omega)) st
  rw [← List.map_append] at ad
  exact fRt rfl (yNx (yExpr (xCall (xCons (xVar rfl) xNil) (need_halls_ok (by omega) (by omega) _))) (yNx (yIfF (xTVal (xOp (xOp (xVar rfl) xC md) xC e)) yEnd) (yNx (ySet (i := 1) (xOp l1 l2 ad)) (yRt (yRet (xTup (xCons (xVar (i := 0) rfl) (xCons (xCall (xCons (xCall (xCons (xVar (i := 1) rfl) xNil) (xB (fSortA_prs (millP k) _))) xNil) (xB (fTup_l _ _))) xNil)) rfl (by show 2 ≤ sizeLine; decide))))))) rfl
/-! ### the law's -/
theorem law_windmill_ok {st : Sto} {j : Nat} {s : List Int} {i : Nat} {e c : Int} (hk : k ≤ 29) (h : st[j]? = some (.lst (rowD s i e c))) :
    ∃ ps i' e' c', Net (2 * k + 1) ps ∧ F__law_windmill [.mu j, .d (.int (2 * k + 1 : Nat))] st = some (.ok (.d (netD (2 * k + 1) ps)), st.set j (.lst (rowD s i' e' c'))) := by
  obtain ⟨t, i', e', c', tp, ht⟩ := turn_ok (n := 2 * k + 1) h (by omega)
  have len : t.length = 2 * k + 1 := by rw [tp.length_eq, List.length_range]
  refine ⟨_, i', e', c', up_net tp (by omega) (by omega) (mill_ok (k := k)) (mill_nd k) (by rw [mill_len]; omega), ?_⟩
  obtain ⟨g1, g2⟩ := rg_l k (by omega)
  have q1 : ∀ st, eLc (iRg2 (eC (.int 1)) (eVar 1)) (gV 4) (tYesF) (eTup (aCons (eOp oIx (eVar 2) (eC (.int 0))) (aCons (eOp oIx (eVar 2) (eVar 4)) (aNil)))) [4] [some (.mu j), some (.d (.int (2 * k + 1 : Nat))), some (.d (.tuple (intsD t))), none, none, none] st = some (.ok (.d (.list ((mA k).map (tw t)))), st) := fun st => by
    have := eLc_map (t := tYesF) (e := eTup (aCons (eOp oIx (eVar 2) (eC (.int 0))) (aCons (eOp oIx (eVar 2) (eVar 4)) (aNil)))) (g := gV 4) (vs := [4]) (r := [some (.mu j), some (.d (.int (2 * k + 1 : Nat))), some (.d (.tuple (intsD t))), none, none, none]) (st := st) (it := iRg2 (eC (.int 1)) (eVar 1)) (List.range (2 * k)) (fun (i : Nat) => .d (.int (1 + i : Nat))) (fun i => tw t (0, 1 + i)) (by
      refine (zRg2 (m := 1) (n := 2 * k + 1) xC (xVar rfl) (by omega) (by omega)).trans ?_
      rw [show 2 * k + 1 - 1 = 2 * k by omega]
      rfl) (by rw [List.length_range]; exact big (by omega)) fun i hi st => ⟨[some (.mu j), some (.d (.int (2 * k + 1 : Nat))), some (.d (.tuple (intsD t))), none, some (.d (.int (1 + i : Nat))), none], rfl, rfl, xTup (xCons (xOp (xVar rfl) xC (ix_nm (i := 0) (by omega) _)) (xCons (xOp (xVar rfl) (xVar rfl) (ix_nm (i := 1 + i) (by
        have := List.mem_range.mp hi
        omega) _)) xNil)) rfl (by show 2 ≤ sizeLine; decide)⟩
    rw [this, mA_map (tw t)]
  have sb : ∀ st, oSub (.d (.int (2 * k + 1 : Nat))) (.d (.int 1)) st = some (.d (.int (2 * k : Nat))) := fun st => oSub_nn (a := 2 * k + 1) (b := 1) (by omega) st
  have q2 : ∀ v3 st, eLc (iRg3 (eC (.int 1)) (eOp oSub (eVar 1) (eC (.int 1))) (eC (.int 2))) (gV 4) (tYesF) (eTup (aCons (eOp oIx (eVar 2) (eVar 4)) (aCons (eOp oIx (eVar 2) (eOp oAdd (eVar 4) (eC (.int 1)))) (aNil)))) [4] [some (.mu j), some (.d (.int (2 * k + 1 : Nat))), some (.d (.tuple (intsD t))), v3, none, none] st = some (.ok (.d (.list ((mB k).map (tw t)))), st) := fun v3 st => by
    have := eLc_map (t := tYesF) (e := eTup (aCons (eOp oIx (eVar 2) (eVar 4)) (aCons (eOp oIx (eVar 2) (eOp oAdd (eVar 4) (eC (.int 1)))) (aNil)))) (g := gV 4) (vs := [4]) (r := [some (.mu j), some (.d (.int (2 * k + 1 : Nat))), some (.d (.tuple (intsD t))), v3, none, none]) (st := st) (it := iRg3 (eC (.int 1)) (eOp oSub (eVar 1) (eC (.int 1))) (eC (.int 2))) (List.range k) (fun (i : Nat) => .d (.int (1 + 2 * i : Nat))) (fun i => tw t (1 + 2 * i, 1 + 2 * i + 1)) (zRg3 xC (xOp (xVar rfl) xC (sb _)) xC g1 g2) (by rw [List.length_range]; exact big (by omega)) fun i hi st => ⟨[some (.mu j), some (.d (.int (2 * k + 1 : Nat))), some (.d (.tuple (intsD t))), v3, some (.d (.int (1 + 2 * i : Nat))), none], rfl, rfl, by
        have := List.mem_range.mp hi
        exact xTup (xCons (xOp (xVar rfl) (xVar rfl) (ix_nm (i := 1 + 2 * i) (by omega) _)) (xCons (xOp (xVar rfl) (xOp (xVar rfl) xC (oAdd_nn _ 1 _)) (ix_nm (i := 1 + 2 * i + 1) (by omega) _)) xNil)) rfl (by show 2 ≤ sizeLine; decide)⟩
    rw [this, mB_map (tw t)]
  have q3 : ∀ st, eLc (iSeq (eVar 3)) (gV 5) (tYesF) (eCall (fB fTup) (aCons (eCall (fB fSortA) (aCons (eVar 5) aNil)) aNil)) [5] [some (.mu j), some (.d (.int (2 * k + 1 : Nat))), some (.d (.tuple (intsD t))), some (.d (.list ((millP k).map (tw t)))), none, none] st = some (.ok (.d (.list ((millP k).map fun p => prD (up t p)))), st) := fun st => by
    refine eLc_map (millP k) (fun p => .d (tw t p)) _ (zSeq (xVar rfl) (by rw [itms_l, List.map_map]; rfl)) (by rw [mill_len]; exact big (by omega)) fun p hp st => ?_
    refine ⟨[some (.mu j), some (.d (.int (2 * k + 1 : Nat))), some (.d (.tuple (intsD t))), some (.d (.list ((millP k).map (tw t)))), none, some (.d (tw t p))], rfl, rfl, ?_⟩
    exact xCall (xCons (xCall (xCons (xVar rfl) xNil) (xB (sort2_t _ _ _))) xNil) (xB (fTup_l _ _))
  have e9 : ((millP k).map fun p => prD (up t p)) = ((millP k).map (up t)).map prD := by rw [List.map_map]; rfl
  rw [e9] at q3
  have ad := fun st => addL (a := (mA k).map (tw t)) (b := (mB k).map (tw t)) (by
    have := mill_len k
    unfold millP at this
    rw [List.length_append] at this
    rw [List.length_map, List.length_map]
    exact big (by omega)) st
  rw [← List.map_append] at ad
  have := fRtS (N := 6) (b := b__law_windmill) (xs := [.mu j, .d (.int (2 * k + 1 : Nat))]) (st := st) rfl (yNx (ySet (i := 2) (xCall (xCons (xVar (i := 0) rfl) (xCons (xVar (i := 1) rfl) xNil)) ht)) (yNx (ySet (i := 3) (q1 _)) (yNx (ySet (i := 3) (xOp (xVar (i := 3) rfl) (q2 _ _) (ad _))) (yRt (yRet (xTup (xCons (xVar (i := 1) rfl) (xCons (xCall (xCons (xCall (xCons (q3 _) xNil) (xB (fSortA_prs _ _))) xNil) (xB (fTup_l _ _))) xNil)) rfl (by show 2 ≤ sizeLine; decide))))))) rfl
  rw [List.take_of_length_le (by simp)] at this
  exact this
end
end ML
end
section
/-! PL22: values that are no nets; blades; shows_windmill; all lots of pairs; how many windmills. -/
namespace ML
open PySem DL
/-! ### no nets -/
theorem wrong_ty {x : DV} {u : Ty} (h : ∀ st, tyN st x = some u) (hu : u.sub .tuple = false) (st : Sto) : F_wrong_net [x] st = some (.ok (.d (.str "whole")), st) :=
  fRt rfl (yRt (yIfT (xTOrT (xTNot (i := false) (xTTru (xIsi (xVar rfl) (h _)) (by rw [hu]; rfl)))) (yRt (yRet xC)))) rfl
theorem wrong_len {ds : List PyData} (h : ds.length ≠ 2) (st : Sto) : F_wrong_net [.d (.tuple ds)] st = some (.ok (.d (.str "whole")), st) := by
  have e := ne_nats ds.length 2 st
  rw [show (ds.length == 2) = false by simpa using h] at e
  exact fRt rfl (yRt (yIfT (xTOrF (xTNot (i := true) (xTTru (xIsi (xVar rfl) rfl) rfl)) (xTVal (xOp (xCall (xCons (xVar rfl) xNil) (xB (fLen_t _ _))) xC e))) (yRt (yRet xC)))) rfl
theorem wrong_halls {a b : PyData} (h : ∀ st, F_is_number [.d a, .d (.int 1), .d (.int 60)] st = some (.ok (.d (.bool false)), st)) (st : Sto) : F_wrong_net [.d (.tuple [a, b])] st = some (.ok (.d (.str "halls")), st) := by
  have e := ne_nats 2 2 st
  exact fRt rfl (yNx (yIfF (xTOrF (xTNot (i := true) (xTTru (xIsi (xVar rfl) rfl) rfl)) (xTVal (xOp (xCall (xCons (xVar rfl) xNil) (xB (len2 _ _ _))) xC e))) yEnd) (yNx (yAsg (xVar (i := 0) rfl) rfl) (yRt (yIfT (xTNot (i := false) (xTTru (xCall (xCons (xVar (i := 1) rfl) (xCons xC (xCons xC xNil))) (h _)) rfl)) (yRt (yRet xC)))))) rfl
theorem wrong_pty {a b : PyData} (h : ∀ st, F_is_number [.d a, .d (.int 1), .d (.int 60)] st = some (.ok (.d (.bool true)), st)) (hb : (tyP b).sub .tuple = false) (st : Sto) : F_wrong_net [.d (.tuple [a, b])] st = some (.ok (.d (.str "pairs")), st) := by
  have e := ne_nats 2 2 st
  exact fRt rfl (yNx (yIfF (xTOrF (xTNot (i := true) (xTTru (xIsi (xVar rfl) rfl) rfl)) (xTVal (xOp (xCall (xCons (xVar rfl) xNil) (xB (len2 _ _ _))) xC e))) yEnd) (yNx (yAsg (xVar (i := 0) rfl) rfl) (yNx (yIfF (xTNot (i := true) (xTTru (xCall (xCons (xVar (i := 1) rfl) (xCons xC (xCons xC xNil))) (h _)) rfl)) yEnd) (yRt (yIfT (xTOrT (xTNot (i := false) (xTTru (xIsi (xVar (i := 2) rfl) rfl) (by rw [hb]; rfl)))) (yRt (yRet xC))))))) rfl
theorem is_net_no {x : DV} {s : Str} (h : ∀ st, F_wrong_net [x] st = some (.ok (.d (.str s)), st)) (st : Sto) : F_is_net [x] st = some (.ok (.d (.bool false)), st) :=
  fRt rfl (yRt (yRet (xOp (xCall (xCons (xVar rfl) xNil) (h _)) xC rfl))) rfl
theorem num_ok {v lo hi : Int} (h1 : lo ≤ v) (h2 : v ≤ hi) (st : Sto) : F_is_number [.d (.int v), .d (.int lo), .d (.int hi)] st = some (.ok (.d (.bool true)), st) := by
  rw [is_number_int, decide_eq_true h1, decide_eq_true h2]
  rfl
theorem num_lo {v lo hi : Int} (h1 : v < lo) (st : Sto) : F_is_number [.d (.int v), .d (.int lo), .d (.int hi)] st = some (.ok (.d (.bool false)), st) := by
  rw [is_number_int, decide_eq_false (by omega)]
  rfl
theorem num_hi {v lo hi : Int} (h1 : hi < v) (st : Sto) : F_is_number [.d (.int v), .d (.int lo), .d (.int hi)] st = some (.ok (.d (.bool false)), st) := by
  rw [is_number_int, decide_eq_false (show ¬ v ≤ hi by omega), Bool.and_false]
theorem num_ty {p : PyData} {lo hi : Int} (h : ((tyP p).sub .int && !(tyP p).sub .bool) = false) (st : Sto) : F_is_number [.d p, .d (.int lo), .d (.int hi)] st = some (.ok (.d (.bool false)), st) := by
  cases h1 : (tyP p).sub .int with
  | false =>
    refine fRt rfl (yRt (yRet (xAndF ?_))) rfl
    rw [← h1]
    exact xIsi (xVar rfl) rfl
  | true =>
    rw [h1] at h
    have h2 : (tyP p).sub .bool = true := by simpa using h
    refine fRt rfl (yRt (yRet (xAndT (st1 := st) ?_ (xAndF ?_)))) rfl
    · rw [← h1]
      exact xIsi (xVar rfl) rfl
    · have := xNot (xIsi (v := .bool) (xVar (i := 0) (r := [some (DV.d p), some (.d (.int lo)), some (.d (.int hi))]) (st := st) rfl) (rfl : tyN st (.d p) = some (tyP p)))
      rw [h2] at this
      exact this
section
variable {n : Nat} {ps : List Pr}
/-! ### shows_windmill -/
theorem shows_net {m : Nat} (N : Net n ps) (h1 : 1 ≤ m) (h2 : m ≤ 60) (st : Sto) : F_shows_windmill [.d (.int m), .d (netD n ps)] st = some (.ok (.d (.bool (n == m && oneF n ps))), st) := by
  have e := eq_nats n m st
  refine fRt rfl (yNx (yExpr (xCall (xCons (xVar rfl) xNil) (need_halls_ok h1 h2 _))) (yNx (yIfF (xTVal (xOp (xVar (i := 1) rfl) xC rfl)) yEnd) (yRt (yRet (xAndT (xCall (xCons (xVar rfl) xNil) (is_net_ok N _)) ?_))))) rfl
  exact xAnd (xOp (xOp (xVar rfl) xC (ix0 _ _ _)) (xVar rfl) e) (xCall (xCons (xVar rfl) xNil) (is_one_friend_of_ok N _))
theorem shows_none {m : Nat} (h1 : 1 ≤ m) (h2 : m ≤ 60) (st : Sto) : F_shows_windmill [.d (.int m), .d .none] st = some (.ok (.d (.bool (m % 2 == 0))), st) :=
  fRt rfl (yNx (yExpr (xCall (xCons (xVar rfl) xNil) (need_halls_ok h1 h2 _))) (yRt (yIfT (xTVal (xOp (xVar (i := 1) rfl) xC rfl)) (yRt (yRet (xOp (xOp (xVar rfl) xC (oMod_nn (b := 2) (by omega) _)) xC (eq_nats _ 0 _))))))) rfl
theorem shows_no {m : Nat} {x : DV} (h1 : 1 ≤ m) (h2 : m ≤ 60) (hn : isNon x = false) (h : ∀ st, F_is_net [x] st = some (.ok (.d (.bool false)), st)) (st : Sto) : F_shows_windmill [.d (.int m), x] st = some (.ok (.d (.bool false)), st) := by
  have hz : ∀ st, fz st st.length x = some x → True := fun _ _ => trivial
  refine fRt (r := [some (.d (.int m)), some x]) rfl (yNx (yExpr (xCall (xCons (xVar rfl) xNil) (need_halls_ok h1 h2 _))) (yNx (yIfF (xTVal (i := false) (xOp (xVar (i := 1) rfl) xC ?_)) yEnd) (yRt (yRet (xAndF (xCall (xCons (xVar rfl) xNil) (h _))))))) rfl
  show some (DV.d (.bool (isNon x))) = _
  rw [hn]
/-- what windmill makes -/
def madeD (m : Nat) : PyData := if m % 2 = 0 then .none else netD m (millN (m / 2))
theorem made_ok {m : Nat} (h1 : 1 ≤ m) (h2 : m ≤ 60) (st : Sto) : F_windmill [.d (.int m)] st = some (.ok (.d (madeD m)), st) := by
  unfold madeD
  by_cases h : m % 2 = 0
  · rw [if_pos h]
    exact windmill_even h1 h2 h st
  · rw [if_neg h]
    have e : m = 2 * (m / 2) + 1 := by omega
    have := windmill_odd (k := m / 2) (by omega) st
    rw [← e] at this
    exact this
theorem made_net {m : Nat} (h2 : m ≤ 60) (h : m % 2 ≠ 0) : Net m (millN (m / 2)) ∧ isW m (millN (m / 2)) = true := by
  have e : m = 2 * (m / 2) + 1 := by omega
  have a := mill_net (k := m / 2) (by omega)
  have b := mill_isW (k := m / 2) (by omega)
  rw [← e] at a b
  exact ⟨a, b⟩
theorem shows_made {m : Nat} (h1 : 1 ≤ m) (h2 : m ≤ 60) (st : Sto) : F_shows_windmill [.d (.int m), .d (madeD m)] st = some (.ok (.d (.bool true)), st) := by
  unfold madeD
  by_cases h : m % 2 = 0
  · rw [if_pos h, shows_none h1 h2, h]
    rfl
  · rw [if_neg h]
    obtain ⟨N, w⟩ := made_net h2 h
    rw [shows_net N h1 h2, oneF_iff.mpr (isW_all N w)]
    simp
/-! ### blades -/
def bladeP (n : Nat) (ps : List Pr) : List Pr := ps.filter fun p => !hit (topH n ps) p
theorem oNotIn_pr (z : Nat) (p : Pr) (st : Sto) : oNotIn (.d (.int z)) (.d (prD p)) st = some (.d (.bool (!hit z p))) := by
  have := in_pr z p st
  unfold oIn at this
  unfold oNotIn
  obtain ⟨b, e1, e2⟩ := Option.map_eq_some_iff.mp this
  rw [e1]
  cases e2
  rfl
/-- [pair for pair in pairs if hub not in pair] -/
theorem blade_lc (N : Net n ps) {r : Rho} {iv z : Nat} {net : EF} {hub : EF} {st : Sto} (h1 : ∀ st, net r st = some (.ok (.d (.tuple (ps.map prD))), st)) (hv : iv < r.length)
    (hh : ∀ p st, hub ((r.set iv none).set iv (some (DV.d (prD p)))) st = some (.ok (.d (.int z)), st)) :
    eLc (iSeq net) (gV iv) (tVal (eOp oNotIn hub (eVar iv))) (eVar iv) [iv] r st = some (.ok (.d (.list ((ps.filter fun p => !hit z p).map prD))), st) := by
  refine eLc_filt ps (fun p => .d (prD p)) prD (fun p => !hit z p) (zSeq (h1 st) (by show some ((ps.map prD).map DV.d) = _; rw [List.map_map]; rfl)) (by have := N.few; exact big this) fun p hp st => ?_
  have wv : ((r.set iv none).set iv (some (DV.d (prD p))))[iv]? = some (some (.d (prD p))) := by
    rw [List.getElem?_set_self (by simpa using hv)]
  exact ⟨_, rfl, xTVal (xOp (hh p st) (xVar wv) (oNotIn_pr z p _)), xVar wv⟩
theorem lists_tops (N : Net n ps) {kss : List (List Int)} (T : Tells n ps kss) {v : Option DV} (st : Sto) :
    eLc (iRg1 (eOp oIx (eVar 0) (eC (.int 0)))) (gV 3) (tVal (eOp oEq (eCall (fB fLen) (aCons (eOp oIx (eVar 1) (eVar 3)) aNil)) (eOp oSub (eOp oIx (eVar 0) (eC (.int 0))) (eC (.int 1))))) (eVar 3) [3] [some (.d (netD n ps)), some (.dl kss), none, none, none] st = some (.ok (.d (.list (intsD (topsL n ps)))), st) := by
  have hn := N.le
  have hp := N.pos
  unfold topsL
  refine eLc_filt (List.range n) (fun (a : Nat) => .d (.int a)) (fun (a : Nat) => .int a) (fun a => dg n ps a == n - 1) ((zRg1 (n := n) (xOp (xVar rfl) xC (ix0 _ _ _)) (by omega)).trans ?_) (by rw [List.length_range]; exact big (by omega)) fun a ha st => ?_
  · unfold rng
    simp
  · obtain ⟨ks, k1, k2, k3, k4, k5⟩ := T.at_ a (List.mem_range.mp ha)
    have kl : ks.length = dg n ps a := by
      have := (isort_perm ltI ks).length_eq
      rw [k4, List.length_map] at this
      unfold dg
      omega
    have ln : fLen [.dk ks] st = some (.d (.int (dg n ps a : Nat))) := by
      rw [← kl]
      rfl
    exact ⟨[some (.d (netD n ps)), some (.dl kss), none, some (.d (.int a)), none], rfl, xTVal (xOp (xCall (xCons (xOp (xVar rfl) (xVar rfl) (oIx_dl k1 _)) xNil) (xB ln)) (xOp (xOp (xVar rfl) xC (ix0 _ _ _)) xC (oSub_nn (b := 1) hp _)) (eq_nats _ _ _)), xVar rfl⟩
theorem tops_ne (N : Net n ps) (h : isW n ps = true) : (topsL n ps).isEmpty = false := by
  by_cases h1 : n = 1
  · have e : ps = [] := by
      cases ps with
      | nil => rfl
      | cons p r =>
        have := N.ok p List.mem_cons_self
        omega
    subst e h1
    rfl
  · exact (isW_hub N h h1).1
theorem blades_ok (N : Net n ps) (h : isW n ps = true) (st : Sto) : F_blades [.d (netD n ps)] st = some (.ok (.d (.tuple ((bladeP n ps).map prD))), st) := by
  obtain ⟨kss, T, fe⟩ := friend_lists_ok N
  have one := is_one_friend_of_ok N st
  rw [oneF_iff.mpr (isW_all N h)] at one
  have lt := lists_tops N T (v := none) st
  have bl := blade_lc N (r := [some (.d (netD n ps)), some (.dl kss), some (.d (.int (topH n ps : Nat))), none, none]) (iv := 4) (z := topH n ps) (net := eOp oIx (eVar 0) (eC (.int 1))) (hub := eVar 2) (st := st) (fun st => xOp (xVar rfl) xC (ix1 _ _ _)) (by show 4 < 5; decide) (fun p st => xVar rfl)
  exact fRt rfl (yNx (yExpr (xCall (xCons (xVar rfl) xNil) (need_net_ok N _))) (yNx (yIfF (xTNot (i := true) (xTTru (xCall (xCons (xVar rfl) xNil) one) rfl)) yEnd) (yNx (ySet (i := 1) (xCall (xCons (xVar rfl) xNil) (fe _))) (yNx (ySet (i := 2) (xOp lt xC (ix_head (tops_ne N h) _))) (yRt (yRet (xCall (xCons bl xNil) (xB (fTup_l _ _))))))))) rfl
theorem fEr {N : Nat} {b : SF} {xs : List DV} {st : Sto} {e : Xn} {r' : Rho} {r : Rho} (hr : startR N xs = r) (h : b r st = some (.er e r', st)) : runB N b xs st = some (.er e, st) := by
  unfold runB
  rw [hr, h]
  simp
theorem yExprE {a : EF} {r : Rho} {st st1 : Sto} {e : Xn} (h : a r st = some (.er e, st1)) : sExpr a r st = some (.er e r, st1) := by
  rw [sExpr_at, sBind_at, h]
theorem ySetE {i : Nat} {a : EF} {r : Rho} {st st1 : Sto} {e : Xn} (h : a r st = some (.er e, st1)) : sSet i a r st = some (.er e r, st1) := by
  rw [sSet_at, sBind_at, h]
theorem tryNx {b s : SF} {c : Str} {i : Nat} {r r1 : Rho} {st st1 : Sto} (h : b r st = some (.fl .nx r1, st1)) : sTry b c i s r st = some (.fl .nx r1, st1) := by
  unfold sTry
  rw [h]
theorem tryRt {b s : SF} {c : Str} {i : Nat} {r r1 : Rho} {v : DV} {st st1 : Sto} (h : b r st = some (.fl (.rt v) r1, st1)) : sTry b c i s r st = some (.fl (.rt v) r1, st1) := by
  unfold sTry
  rw [h]
theorem tryEr {b s : SF} {c : Str} {fs : List (Str × PyData)} {i : Nat} {r r1 r2 : Rho} {st st1 st2 : Sto} (h : b r st = some (.er ⟨c, fs⟩ r1, st1)) (k : s (r1.set i none) st1 = some (.fl .nx r2, st2)) : sTry b c i s r st = some (.fl .nx (r2.set i none), st2) := by
  unfold sTry
  rw [h]
  show (if c = c then _ else _) = _
  rw [if_pos rfl, k]
theorem tryErRt {b s : SF} {c : Str} {fs : List (Str × PyData)} {i : Nat} {r r1 r2 : Rho} {v : DV} {st st1 st2 : Sto} (h : b r st = some (.er ⟨c, fs⟩ r1, st1)) (k : s (r1.set i none) st1 = some (.fl (.rt v) r2, st2)) : sTry b c i s r st = some (.fl (.rt v) r2, st2) := by
  unfold sTry
  rw [h]
  show (if c = c then _ else _) = _
  rw [if_pos rfl, k]
theorem blades_no (N : Net n ps) (h : oneF n ps = false) (st : Sto) : F_blades [.d (netD n ps)] st = some (.er ⟨"NotOne", []⟩, st) := by
  have one := is_one_friend_of_ok N st
  rw [h] at one
  exact fEr rfl (yNx (yExpr (xCall (xCons (xVar rfl) xNil) (need_net_ok N _))) (yEr (yIfT (xTNot (i := false) (xTTru (xCall (xCons (xVar rfl) xNil) one) rfl)) (yEr rfl))))
theorem blade_two (N : Net n ps) (h : isW n ps = true) : 2 * (bladeP n ps).length = n - 1 := by
  by_cases h1 : n = 1
  · have e : ps = [] := by
      cases ps with
      | nil => rfl
      | cons p r =>
        have := N.ok p List.mem_cons_self
        omega
    subst e h1
    rfl
  · exact blades_len N h h1
end
/-! ### all lots -/
def lotsG : List (List Pr) → List Pr → List (List Pr)
  | acc, [] => acc
  | acc, p :: l => lotsG (acc ++ acc.map fun q => q ++ [p]) l
def lotD (q : List Pr) : PyData := .tuple (q.map prD)
theorem lots_sub : ∀ (l : List Pr) (acc : List (List Pr)) (q : List Pr), q ∈ lotsG acc l → ∃ a ∈ acc, ∃ s : List Pr, s.Sublist l ∧ q = a ++ s
  | [], acc, q, h => ⟨q, h, [], .slnil, by simp⟩
  | p :: l, acc, q, h => by
    obtain ⟨a, ha, s, hs, e⟩ := lots_sub l _ q h
    rcases List.mem_append.mp ha with ha | ha
    · exact ⟨a, ha, s, hs.cons p, e⟩
    · obtain ⟨b, hb, rfl⟩ := List.mem_map.mp ha
      exact ⟨b, hb, p :: s, hs.cons₂ p, by rw [e]; simp⟩
theorem lots_len : ∀ (l : List Pr) (acc : List (List Pr)), (lotsG acc l).length = acc.length * 2 ^ l.length
  | [], acc => by simp [lotsG]
  | p :: l, acc => by
    rw [lotsG, lots_len l, List.length_append, List.length_map, List.length_cons, Nat.pow_succ, ← Nat.two_mul]
    rw [Nat.mul_comm 2, Nat.mul_assoc, Nat.mul_comm 2]
abbrev loB : SF := sSeq (sSet 1 (eOp oAdd (eVar 1) (eLc (iSeq (eVar 1)) (gV 3) (tYesF) (eOp oAdd (eVar 3) (eTup (aCons (eVar 2) (aNil)))) [3]))) (sNx)
theorem lots_loop {st : Sto} {v0 : Option DV} : ∀ (l : List Pr) (acc : List (List Pr)) (x2 x3 : Option DV), acc.length * 2 ^ l.length ≤ 4000 → (∀ q ∈ acc, q.length + l.length ≤ 4000) →
    ∃ y2 y3, forL (gV 2) loB (l.map fun p => .d (prD p)) [v0, some (.d (.list (acc.map lotD))), x2, x3] st = some (.fl .nx [v0, some (.d (.list ((lotsG acc l).map lotD))), y2, y3], st)
  | [], acc, x2, x3, _, _ => ⟨x2, x3, rfl⟩
  | p :: l, acc, x2, x3, h1, h2 => by
    have hp : 1 ≤ 2 ^ l.length := Nat.one_le_two_pow
    have e1 : acc.length * 2 ^ (l.length + 1) = (acc.length + acc.length) * 2 ^ l.length := by
      rw [Nat.pow_succ, Nat.add_mul, ← Nat.mul_assoc]
      omega
    rw [List.length_cons, e1] at h1
    have ha : acc.length + acc.length ≤ 4000 := Nat.le_trans (Nat.le_mul_of_pos_right _ hp) h1
    have lc : eLc (iSeq (eVar 1)) (gV 3) (tYesF) (eOp oAdd (eVar 3) (eTup (aCons (eVar 2) (aNil)))) [3] [v0, some (.d (.list (acc.map lotD))), some (.d (prD p)), x3] st = some (.ok (.d (.list ((acc.map fun q => q ++ [p]).map lotD))), st) := by
      have := eLc_map (t := tYesF) (e := eOp oAdd (eVar 3) (eTup (aCons (eVar 2) (aNil)))) (g := gV 3) (vs := [3]) (r := [v0, some (.d (.list (acc.map lotD))), some (.d (prD p)), x3]) (st := st) (it := iSeq (eVar 1)) acc (fun q => .d (lotD q)) (fun q => lotD (q ++ [p])) (zSeq (xVar rfl) (by rw [itms_l, List.map_map]; rfl)) (big (by omega)) fun q hq st => by
        refine ⟨[v0, some (.d (.list (acc.map lotD))), some (.d (prD p)), some (.d (lotD q))], rfl, rfl, ?_⟩
        have ad := addT (a := q.map prD) (b := [prD p]) (by
          have := h2 q hq
          rw [List.length_map, List.length_cons] at *
          exact big (by simp; omega)) st
        have e3 : lotD (q ++ [p]) = .tuple (q.map prD ++ [prD p]) := by unfold lotD; rw [List.map_append]; rfl
        rw [e3]
        exact xOp (xVar rfl) (xTup (xCons (xVar rfl) xNil) rfl (by show 1 ≤ sizeLine; decide)) ad
      rw [this, List.map_map]
      rfl
    have ad := addL (a := acc.map lotD) (b := (acc.map fun q => q ++ [p]).map lotD) (by
      rw [List.length_map, List.length_map, List.length_map]
      exact big ha) st
    rw [← List.map_append] at ad
    obtain ⟨y2, y3, ih⟩ := lots_loop (st := st) (v0 := v0) l (acc ++ acc.map fun q => q ++ [p]) (some (.d (prD p))) x3 (by rw [List.length_append, List.length_map]; exact h1) (fun q hq => by
      rcases List.mem_append.mp hq with hq | hq
      · have := h2 q hq
        rw [List.length_cons] at this
        omega
      · obtain ⟨a, ha, rfl⟩ := List.mem_map.mp hq
        have := h2 a ha
        rw [List.length_cons] at this
        rw [List.length_append]
        simp
        omega)
    refine ⟨y2, y3, ?_⟩
    rw [List.map_cons]
    exact (forL_nx (r1 := [v0, some (.d (.list (acc.map lotD))), some (.d (prD p)), x3]) rfl (yNx (ySet (i := 1) (xOp (xVar (i := 1) rfl) lc ad)) yEnd)).trans ih
theorem lots_ok {l : List Pr} (h : l.length ≤ 10) (st : Sto) : F__law_lots [.d (.list (l.map prD))] st = some (.ok (.d (.list ((lotsG [[]] l).map lotD))), st) := by
  have h2 : 2 ^ l.length ≤ 2 ^ 10 := Nat.pow_le_pow_right (by omega) h
  obtain ⟨y2, y3, lp⟩ := lots_loop (st := st) (v0 := some (.d (.list (l.map prD)))) l [[]] none none (by simp only [List.length_cons, List.length_nil]; omega) (fun q hq => by
    simp at hq
    subst hq
    simp
    omega)
  exact fRt rfl (yNx (ySet (i := 1) (xLst (xCons (xTup xNil rfl (Nat.zero_le _)) xNil) rfl (by show 1 ≤ sizeLine; decide))) (yNx (yFor (zSeq (xVar rfl) (by rw [itms_l, List.map_map]; rfl)) lp) (yRt (yRet (xVar rfl))))) rfl
/-- how many windmills of few halls -/
def goodL (n : Nat) : List (List Pr) := (lotsG [[]] (allP n)).filter (isW n)
theorem good1 : (goodL 1).length = 1 := by decide +kernel
theorem good2 : (goodL 2).length = 0 := by decide +kernel
theorem good3 : (goodL 3).length = 1 := by decide +kernel
theorem good4 : (goodL 4).length = 0 := by decide +kernel
theorem good5 : (goodL 5).length = 15 := by decide +kernel
end ML
end
section
/-! PL23: sparse nets and stars. -/
namespace ML
open PySem DL
section
variable {n : Nat} {ps : List Pr}
def sparse (n : Nat) (ps : List Pr) : Prop := ∀ a b, a < n → b < n → a ≠ b → cnt n ps a b = if adj ps a b = true then 0 else 1
theorem sp_adj {a b : Nat} (S : sparse n ps) (N : Net n ps) (h : adj ps a b = true) : cnt n ps a b = 0 := by
  have l := adj_lt N h
  have ne : a ≠ b := fun e => by
    rw [e, adj_irr N] at h
    cases h
  rw [S a b l.1 l.2 ne, if_pos h]
theorem sp_far {a b : Nat} (S : sparse n ps) (ha : a < n) (hb : b < n) (ne : a ≠ b) (h : adj ps a b = false) : cnt n ps a b = 1 := by
  rw [S a b ha hb ne, if_neg (by rw [h]; exact Bool.false_ne_true)]
theorem no_com {a b c : Nat} (N : Net n ps) (h : cnt n ps a b = 0) (h1 : adj ps a c = true) (h2 : adj ps b c = true) : False := by
  have : c ∈ com n ps a b := (mem_com N).mpr ⟨h1, h2⟩
  unfold cnt at h
  rw [List.length_eq_zero_iff.mp h] at this
  cases this
theorem aN_zero {a b : Nat} (h : adj ps a b = false) : aN ps a b = 0 := by unfold aN; rw [h]; rfl
theorem aN_one {a b : Nat} (h : adj ps a b = true) : aN ps a b = 1 := by unfold aN; rw [h]; rfl
/-- walks of three steps in a sparse net, between two that aren't joined -/
theorem sp_walk {u v : Nat} (S : sparse n ps) (N : Net n ps) (hu : u < n) (hv : v < n) (ne : u ≠ v) (na : adj ps u v = false) : sumF (List.range n) (fun w => aN ps u w * cnt n ps w v) + 1 = dg n ps u := by
  have e : sumF (List.range n) (fun w => aN ps u w * cnt n ps w v) + sumF (List.range n) (fun w => aN ps u w * aN ps v w) = sumF (List.range n) (aN ps u) := by
    rw [← sumF_add]
    refine sumF_congr fun w hw => ?_
    have hw := List.mem_range.mp hw
    cases h1 : adj ps u w with
    | false => rw [aN_zero h1, Nat.zero_mul, Nat.zero_mul]
    | true =>
      rw [aN_one h1, Nat.one_mul, Nat.one_mul]
      have nw : w ≠ v := fun z => by
        rw [z, na] at h1
        cases h1
      cases h2 : adj ps v w with
      | true => rw [aN_one h2, sp_adj S N (by rw [adj_comm]; exact h2)]
      | false => rw [aN_zero h2, sp_far S hw hv nw (by rw [adj_comm]; exact h2)]
  rw [← cnt_sum, ← dg_sum, sp_far S hu hv ne na] at e
  exact e
theorem sp_non {u v : Nat} (S : sparse n ps) (N : Net n ps) (hu : u < n) (hv : v < n) (ne : u ≠ v) (na : adj ps u v = false) : dg n ps u = dg n ps v := by
  rw [← sp_walk S N hu hv ne na, ← sp_walk S N hv hu (fun z => ne z.symm) (by rw [adj_comm]; exact na), walk3]
/-! ### stars -/
def allHit (n : Nat) (ps : List Pr) : List Nat := (List.range n).filter fun a => (ps.filter fun p => !hit a p).isEmpty
def starF (n : Nat) (ps : List Pr) : Bool := !(allHit n ps).isEmpty && ps.length == n - 1
theorem star_iff (N : Net n ps) : starF n ps = true ↔ ∃ a, a < n ∧ (∀ p ∈ ps, hit a p = true) ∧ ps.length = n - 1 := by
  unfold starF
  rw [Bool.and_eq_true, beq_iff_eq]
  constructor
  · rintro ⟨h1, h2⟩
    cases e : allHit n ps with
    | nil => rw [e] at h1; cases h1
    | cons a r =>
      have : a ∈ allHit n ps := by rw [e]; exact List.mem_cons_self
      obtain ⟨k1, k2⟩ := List.mem_filter.mp this
      refine ⟨a, List.mem_range.mp k1, fun p hp => ?_, h2⟩
      rw [List.isEmpty_iff, List.filter_eq_nil_iff] at k2
      have := k2 p hp
      simpa using this
  · rintro ⟨a, ha, h, h2⟩
    refine ⟨?_, h2⟩
    have : a ∈ allHit n ps := List.mem_filter.mpr ⟨List.mem_range.mpr ha, by
      rw [List.isEmpty_iff, List.filter_eq_nil_iff]
      intro p hp
      rw [h p hp]
      simp⟩
    cases e : allHit n ps with
    | nil => rw [e] at this; cases this
    | cons _ _ => rfl
theorem filter_all {α : Type} {f : α → Bool} : ∀ {l : List α}, (∀ x ∈ l, f x = true) → l.filter f = l
  | [], _ => rfl
  | x :: l, h => by rw [List.filter_cons, if_pos (h x List.mem_cons_self), filter_all fun y hy => h y (List.mem_cons_of_mem _ hy)]
theorem star_dg {a : Nat} (N : Net n ps) (h : ∀ p ∈ ps, hit a p = true) : dg n ps a = ps.length := by rw [dg_hit N, filter_all h]
theorem dg_le (N : Net n ps) {a : Nat} (ha : a < n) : dg n ps a ≤ n - 1 := by
  unfold dg nbr
  rw [← ne_len ha, ← List.countP_eq_length_filter, ← List.countP_eq_length_filter]
  refine List.countP_mono_left fun b _ h => ?_
  cases e : (a == b) with
  | false => rfl
  | true =>
    have e : a = b := by simpa using e
    rw [e, adj_irr N] at h
    cases h
theorem dg_len (N : Net n ps) (a : Nat) : dg n ps a ≤ ps.length := by
  rw [dg_hit N]
  exact List.length_filter_le _ _
theorem hit_of {a b : Nat} (N : Net n ps) (h : adj ps a b = true) {c : Nat} (k : ∀ p ∈ ps, hit c p = true) : a = c ∨ b = c := by
  rcases adj_iff.mp h with h | h
  · exact hit_iff.mp (k _ h)
  · exact (hit_iff.mp (k _ h)).symm
theorem star_sparse (N : Net n ps) (h : starF n ps = true) : sparse n ps := by
  obtain ⟨t, ht, hh, hl⟩ := (star_iff N).mp h
  have hd : dg n ps t = n - 1 := by rw [star_dg N hh, hl]
  have full : ∀ x, x < n → x ≠ t → adj ps t x = true := fun x hx nx => dg_full N ht hd hx nx
  have zero : ∀ x y, adj ps x y = true → cnt n ps x y = 0 := fun x y h => by
    unfold cnt
    rw [List.length_eq_zero_iff]
    refine List.eq_nil_iff_forall_not_mem.mpr fun c hc => ?_
    obtain ⟨h1, h2⟩ := (mem_com N).mp hc
    have k1 := hit_of N h hh
    have k2 := hit_of N h1 hh
    have k3 := hit_of N h2 hh
    have n1 : x ≠ y := fun e => by rw [e, adj_irr N] at h; cases h
    have n2 : x ≠ c := fun e => by rw [e, adj_irr N] at h1; cases h1
    have n3 : y ≠ c := fun e => by rw [e, adj_irr N] at h2; cases h2
    omega
  intro a b ha hb ne
  cases e : adj ps a b with
  | true => rw [if_pos rfl]; exact zero a b e
  | false =>
    rw [if_neg Bool.false_ne_true]
    have na : a ≠ t := fun z => by
      rw [z, full b hb fun q => ne (by rw [z, q])] at e
      cases e
    have nb : b ≠ t := fun z => by
      rw [z, adj_comm, full a ha na] at e
      cases e
    unfold cnt
    have : (com n ps a b).Perm [t] := by
      refine (List.perm_ext_iff_of_nodup ((com_lt n ps a b).imp fun {a b} h e => by omega) (by simp)).mpr fun c => ?_
      rw [mem_com N, List.mem_singleton]
      constructor
      · rintro ⟨h1, h2⟩
        have k2 := hit_of N h1 hh
        have k3 := hit_of N h2 hh
        omega
      · rintro rfl
        exact ⟨by rw [adj_comm]; exact full a ha na, by rw [adj_comm]; exact full b hb nb⟩
    rw [this.length_eq]
    rfl
/-- a hub in a sparse net makes it a star -/
theorem sp_hub {t : Nat} (S : sparse n ps) (N : Net n ps) (ht : t < n) (full : ∀ x, x < n → x ≠ t → adj ps t x = true) : starF n ps = true := by
  have hh : ∀ p ∈ ps, hit t p = true := fun p hp => by
    have o := N.ok p hp
    have ad : adj ps p.1 p.2 = true := adj_iff.mpr (.inl hp)
    rw [hit_iff]
    by_cases h1 : p.1 = t
    · exact .inl h1
    · by_cases h2 : p.2 = t
      · exact .inr h2
      · exact (no_com N (sp_adj S N ad) (c := t) (by rw [adj_comm]; exact full p.1 (by omega) h1) (by rw [adj_comm]; exact full p.2 o.2 h2)).elim
  exact (star_iff N).mpr ⟨t, ht, hh, by rw [← star_dg N hh]; exact full_dg N ht full⟩
theorem sp_reg (S : sparse n ps) (N : Net n ps) (ns : starF n ps = false) : ∀ a, a < n → dg n ps a = dg n ps 0 := by
  have pos := N.pos
  by_cases hd : ∃ u v, u < n ∧ v < n ∧ dg n ps u ≠ dg n ps v
  · exfalso
    obtain ⟨u, v, hu, hv, ne⟩ := hd
    have far : ∀ {x y}, x < n → y < n → dg n ps x ≠ dg n ps y → adj ps x y = true := fun {x y} hx hy ne => by
      cases e : adj ps x y with
      | true => rfl
      | false => exact absurd (sp_non S N hx hy (fun z => ne (by rw [z])) e) ne
    have star : starF n ps = true := by
      by_cases h1 : ∃ u', u' < n ∧ u' ≠ u ∧ dg n ps u' = dg n ps u
      · obtain ⟨u', hu', nu, eu⟩ := h1
        refine sp_hub S N hv fun y hy ny => ?_
        by_cases h2 : dg n ps y = dg n ps u
        · exact far hv hy fun z => ne (by rw [z, h2])
        · have a1 := far hu hv ne
          have a2 := far hu' hv (by rw [eu]; exact ne)
          have na : adj ps u u' = false := by
            cases e : adj ps u u' with
            | false => rfl
            | true => exact (no_com N (sp_adj S N e) a1 a2).elim
          exact absurd (two_com N (sp_far S hu hu' (fun z => nu z.symm) na) (far hu hy fun z => h2 z.symm) (far hu' hy fun z => h2 (by rw [← z, eu])) a1 a2) ny
      · exact sp_hub S N hu fun x hx nx => far hu hx fun z => h1 ⟨x, hx, nx, z.symm⟩
    rw [star] at ns
    cases ns
  · intro a ha
    by_cases e : dg n ps a = dg n ps 0
    · exact e
    · exact absurd ⟨a, 0, ha, pos, e⟩ hd
theorem sp_eq {d : Nat} (S : sparse n ps) (N : Net n ps) (hr : ∀ a, a < n → dg n ps a = d) : n = d * d + 1 := by
  have pos := N.pos
  have e : sumF (List.range n) (fun w => sumF (List.range n) (fun u => aN ps 0 w * aN ps u w)) = d * d := by
    have : sumF (List.range n) (fun w => sumF (List.range n) (fun u => aN ps 0 w * aN ps u w)) = sumF (List.range n) (fun w => d * aN ps 0 w) := sumF_congr fun w hw => by
      rw [sumF_mul, sumF_congr (g := aN ps w) (fun u _ => aN_comm u w), ← dg_sum, hr w (List.mem_range.mp hw), Nat.mul_comm]
    rw [this, sumF_mul, ← dg_sum, hr 0 pos]
  rw [sumF_swap] at e
  have e2 : sumF (List.range n) (cnt n ps 0) = d * d := by
    rw [← e]
    exact sumF_congr fun u _ => cnt_sum 0 u
  have e3 : sumF (List.range n) (cnt n ps 0) + sumF (List.range n) (aN ps 0) + 1 = n + d := by
    have := sumF_at List.nodup_range (List.mem_range.mpr pos) (fun u => cnt n ps 0 u + aN ps 0 u) (fun _ => 1) fun u hu ne => by
      have hu := List.mem_range.mp hu
      show cnt n ps 0 u + aN ps 0 u = 1
      cases q : adj ps 0 u with
      | true => rw [aN_one q, sp_adj S N q]
      | false => rw [aN_zero q, sp_far S pos hu (fun z => ne z.symm) q]
    have z : aN ps 0 0 = 0 := aN_zero (adj_irr N 0)
    rw [sumF_add, sumF_const, List.length_range, cnt_self, hr 0 pos, z] at this
    have eta : sumF (List.range n) (fun u => cnt n ps 0 u) = sumF (List.range n) (cnt n ps 0) := rfl
    have eta2 : sumF (List.range n) (fun u => aN ps 0 u) = sumF (List.range n) (aN ps 0) := rfl
    omega
  rw [e2, ← dg_sum, hr 0 pos] at e3
  omega
/-- a small sparse net that is no star -/
theorem sp_small (S : sparse n ps) (N : Net n ps) (hn : n ≤ 10) (ns : starF n ps = false) : ∃ d, (d = 2 ∨ d = 3) ∧ n = d * d + 1 ∧ ∀ a, a < n → dg n ps a = d := by
  have pos := N.pos
  have reg := sp_reg S N ns
  have e := sp_eq S N reg
  have sh := shake N
  rw [sumF_congr fun a ha => reg a (List.mem_range.mp ha), sumF_const, List.length_range] at sh
  generalize hd0 : dg n ps 0 = d at e sh reg
  have d3 : d ≤ 3 := by
    rcases Nat.lt_or_ge 3 d with z | z
    · have : 4 * 4 ≤ d * d := Nat.mul_le_mul z z
      omega
    · exact z
  have star : ∀ t, t < n → dg n ps t = n - 1 → False := fun t ht h => by
    rw [sp_hub S N ht fun x hx nx => dg_full N ht h hx nx] at ns
    cases ns
  have : d = 0 ∨ d = 1 ∨ d = 2 ∨ d = 3 := by omega
  rcases this with z | z | z | z
  · subst z
    exact (star 0 pos (by rw [hd0]; omega)).elim
  · subst z
    exact (star 0 pos (by rw [hd0]; omega)).elim
  · subst z
    exact ⟨2, .inl rfl, e, reg⟩
  · subst z
    exact ⟨3, .inr rfl, e, reg⟩
/-! ### by the counts -/
def spF (n : Nat) (ps : List Pr) : Bool := (usort (castL (jl n ps))).all (fun z => z == 0) && (usort (castL (al n ps))).all (fun z => z == 1)
theorem spF_iff (N : Net n ps) : spF n ps = true ↔ sparse n ps := by
  unfold spF sparse
  rw [Bool.and_eq_true, List.all_eq_true, List.all_eq_true]
  have mj : ∀ z, z ∈ usort (castL (jl n ps)) ↔ ∃ p, p ∈ allP n ∧ adj ps p.1 p.2 = true ∧ z = (cnt n ps p.1 p.2 : Nat) := fun z => by
    rw [usort_mem]
    unfold castL jl
    simp only [List.mem_map, List.mem_filter]
    constructor
    · rintro ⟨a, ⟨p, ⟨h1, h2⟩, rfl⟩, rfl⟩
      exact ⟨p, h1, h2, rfl⟩
    · rintro ⟨p, h1, h2, rfl⟩
      exact ⟨_, ⟨p, ⟨h1, h2⟩, rfl⟩, rfl⟩
  have ma : ∀ z, z ∈ usort (castL (al n ps)) ↔ ∃ p, p ∈ allP n ∧ adj ps p.1 p.2 = false ∧ z = (cnt n ps p.1 p.2 : Nat) := fun z => by
    rw [usort_mem]
    unfold castL al
    simp only [List.mem_map, List.mem_filter]
    constructor
    · rintro ⟨a, ⟨p, ⟨h1, h2⟩, rfl⟩, rfl⟩
      exact ⟨p, h1, by simpa using h2, rfl⟩
    · rintro ⟨p, h1, h2, rfl⟩
      exact ⟨_, ⟨p, ⟨h1, by simpa using h2⟩, rfl⟩, rfl⟩
  constructor
  · rintro ⟨h1, h2⟩ a b ha hb ne
    have key : ∀ x y, x < y → y < n → cnt n ps x y = if adj ps x y = true then 0 else 1 := fun x y l1 l2 => by
      cases e : adj ps x y with
      | true =>
        have := h1 _ ((mj _).mpr ⟨(x, y), mem_allP.mpr ⟨l1, l2⟩, e, rfl⟩)
        simp at this ⊢
        omega
      | false =>
        have := h2 _ ((ma _).mpr ⟨(x, y), mem_allP.mpr ⟨l1, l2⟩, e, rfl⟩)
        simp at this ⊢
        omega
    rcases Nat.lt_or_gt_of_ne ne with z | z
    · exact key a b z hb
    · rw [cnt_comm, adj_comm]
      exact key b a z ha
  · intro h
    refine ⟨fun z hz => ?_, fun z hz => ?_⟩
    · obtain ⟨p, hp, hd, rfl⟩ := (mj z).mp hz
      have := mem_allP.mp hp
      rw [h p.1 p.2 (by omega) this.2 (by omega), if_pos hd]
      rfl
    · obtain ⟨p, hp, hd, rfl⟩ := (ma z).mp hz
      have := mem_allP.mp hp
      rw [h p.1 p.2 (by omega) this.2 (by omega), if_neg (by rw [hd]; exact Bool.false_ne_true)]
      rfl
/-! ### all degrees alike -/
def allD (n : Nat) (ps : List Pr) (f : Nat) : Bool := (degL n ps).all fun d => d == f
theorem allD_iff {f : Nat} : allD n ps f = true ↔ ∀ a, a < n → dg n ps a = f := by
  unfold allD degL
  rw [List.all_eq_true]
  constructor
  · intro h a ha
    have := h _ (List.mem_map.mpr ⟨a, List.mem_range.mpr ha, rfl⟩)
    unfold dg
    simpa using this
  · intro h d hd
    obtain ⟨a, ha, rfl⟩ := List.mem_map.mp hd
    have := h a (List.mem_range.mp ha)
    unfold dg at this
    simpa using this
theorem allD_sd {f : Nat} (N : Net n ps) : allD n ps f = decide (sdL n ps = [(f : Int)]) := by
  rw [Bool.eq_iff_iff, allD_iff, decide_eq_true_eq]
  constructor
  · exact fun h => sd_one N.pos h
  · intro h a ha
    have : ((dg n ps a : Nat) : Int) ∈ sdL n ps := by
      unfold sdL castL
      rw [usort_mem, List.mem_map]
      exact ⟨_, List.mem_map.mpr ⟨a, List.mem_range.mpr ha, rfl⟩, rfl⟩
    rw [h] at this
    simp at this
    omega
/-- a net with one pair less -/
theorem tail_D {p : Pr} {f : Nat} (N : Net n (p :: ps)) (M : Net n ps) (h : allD n (p :: ps) f = true) : allD n ps f = false := by
  cases e : allD n ps f with
  | false => rfl
  | true =>
    have s1 := shake N
    have s2 := shake M
    rw [sumF_congr fun a ha => allD_iff.mp h a (List.mem_range.mp ha), sumF_const] at s1
    rw [sumF_congr fun a ha => allD_iff.mp e a (List.mem_range.mp ha), sumF_const] at s2
    rw [List.length_cons] at s1
    omega
end
end ML
end
section
/-! PL24: what the sparse nets' defs compute. -/
namespace ML
open PySem DL
section
variable {n : Nat} {ps : List Pr}
theorem xChainT {o o' : DV → DV → Sto → Option DV} {a b c : EF} {r : Rho} {st st1 st2 st3 : Sto} {x y z w : DV} (ha : a r st = some (.ok x, st1)) (hb : b r st1 = some (.ok y, st2)) (h1 : o x y st2 = some (.d (.bool true))) (hc : c r st2 = some (.ok w, st3)) (h2 : o' y w st3 = some z) : eChain o o' a b c r st = some (.ok z, st3) := by
  unfold eChain
  simp only [bnd_at, ha, hb, lft_at, h1, bool?, hc, h2]
theorem xChainF {o o' : DV → DV → Sto → Option DV} {a b c : EF} {r : Rho} {st st1 st2 : Sto} {x y : DV} (ha : a r st = some (.ok x, st1)) (hb : b r st1 = some (.ok y, st2)) (h1 : o x y st2 = some (.d (.bool false))) : eChain o o' a b c r st = some (.ok (.d (.bool false)), st2) := by
  unfold eChain
  simp only [bnd_at, ha, hb, lft_at, h1, bool?]
  rfl
def isc (c : Int) : DV → Bool
  | .d (.int z) => z == c
  | _ => false
theorem all_c {c : Int} {r : Rho} {i : Nat} {it : IF} {ce : EF} {l : List Int} {st : Sto} (hi : it r st = some (.ok ((l.map PyData.int).map .d), st)) (h : i < r.length) (hc : ∀ v st, ce ((r.set i none).set i v) st = some (.ok (.d (.int c)), st)) : eAll it (gV i) (eOp oEq (eVar i) ce) [i] r st = some (.ok (.d (.bool (l.all fun z => z == c))), st) := by
  have := eAll_pure (it := it) (g := gV i) (e := eOp oEq (eVar i) ce) (vs := [i]) (r := r) (st := st) (xs := (l.map PyData.int).map .d) (isc c) hi (fun x hx => by
        obtain ⟨y, hy, rfl⟩ := List.mem_map.mp hx
        obtain ⟨z, _, rfl⟩ := List.mem_map.mp hy
        refine ⟨_, rfl, xOp (xVar ?_) (hc _ _) (eq_ints z c _)⟩
        rw [List.getElem?_set_self (by simpa [wipeR] using h)])
  rw [this, List.all_map, List.all_map]
  rfl
theorem is_sparse_of_ok (N : Net n ps) (st : Sto) : F_is_sparse_of [.d (netD n ps)] st = some (.ok (.d (.bool (spF n ps))), st) := by
  have a1 := all_c (c := 0) (r := [some (.d (netD n ps)), some (.d (.list ((usort (castL (jl n ps))).map .int))), some (.d (.list ((usort (castL (al n ps))).map .int))), none]) (i := 3) (it := iSeq (eVar 1)) (ce := eC (.int 0)) (st := st) (l := usort (castL (jl n ps))) (zSeq (xVar rfl) (itms_l _ _)) (by show 3 < 4; decide) (fun _ _ => xC)
  have a2 := all_c (c := 1) (r := [some (.d (netD n ps)), some (.d (.list ((usort (castL (jl n ps))).map .int))), some (.d (.list ((usort (castL (al n ps))).map .int))), none]) (i := 3) (it := iSeq (eVar 2)) (ce := eC (.int 1)) (st := st) (l := usort (castL (al n ps))) (zSeq (xVar rfl) (itms_l _ _)) (by show 3 < 4; decide) (fun _ _ => xC)
  exact fRt rfl (yNx (yAsg (xCall (xCons (xVar rfl) xNil) (counts_of_ok N st)) rfl) (yRt (yRet (xAnd a1 a2)))) rfl
theorem is_sparse_ok (N : Net n ps) (st : Sto) : F_is_sparse [.d (netD n ps)] st = some (.ok (.d (.bool (spF n ps))), st) :=
  fRt rfl (yNx (yExpr (xCall (xCons (xVar rfl) xNil) (need_net_ok N _))) (yRt (yRet (xCall (xCons (xVar rfl) xNil) (is_sparse_of_ok N _))))) rfl
/-! ### stars -/
theorem max_nats {a : Nat} {l : List Nat} : ∃ m : Nat, maxI (castL l) (a : Int) = (m : Int) ∧ m ∈ a :: l ∧ ∀ x ∈ a :: l, x ≤ m := by
  obtain ⟨h1, h2, h3⟩ := maxI_spec (castL l) (a : Int)
  have : ∃ m : Nat, maxI (castL l) (a : Int) = (m : Int) ∧ m ∈ a :: l := by
    rcases h1 with h1 | h1
    · exact ⟨a, h1, List.mem_cons_self⟩
    · obtain ⟨m, hm, e⟩ := List.mem_map.mp h1
      exact ⟨m, e.symm, List.mem_cons_of_mem _ hm⟩
  obtain ⟨m, e, hm⟩ := this
  refine ⟨m, e, hm, fun x hx => ?_⟩
  rcases List.mem_cons.mp hx with z | z
  · subst z
    rw [e] at h2
    omega
  · have := h3 x (List.mem_map.mpr ⟨x, z, rfl⟩)
    rw [e] at this
    omega
theorem degL_mem {d : Nat} : d ∈ degL n ps ↔ ∃ a, a < n ∧ d = dg n ps a := by
  unfold degL
  rw [List.mem_map]
  constructor
  · rintro ⟨a, h, rfl⟩
    exact ⟨a, List.mem_range.mp h, rfl⟩
  · rintro ⟨a, h, rfl⟩
    exact ⟨a, List.mem_range.mpr h, rfl⟩
theorem max_deg (N : Net n ps) : ∃ m : Nat, (∀ st, fMaxA [.d (.list (intsD (degL n ps)))] st = some (.d (.int m))) ∧ (∃ a, a < n ∧ m = dg n ps a) ∧ ∀ a, a < n → dg n ps a ≤ m := by
  have pos := N.pos
  have hl : (degL n ps).length = n := deg_len
  cases e : degL n ps with
  | nil =>
    rw [e] at hl
    simp at hl
    omega
  | cons d r =>
    obtain ⟨m, h1, h2, h3⟩ := max_nats (a := d) (l := r)
    refine ⟨m, fun st => ?_, degL_mem.mp (by rw [e]; exact h2), fun a ha => h3 _ (by rw [← e]; exact degL_mem.mpr ⟨a, ha, rfl⟩)⟩
    have : seqI? st (.d (.list (intsD (d :: r)))) = some ((d : Int) :: castL r) := ints_intsD (d :: r)
    unfold fMaxA
    simp only [this, h1]
theorem is_star_ok (N : Net n ps) (st : Sto) : F_is_star [.d (netD n ps)] st = some (.ok (.d (.bool (starF n ps))), st) := by
  obtain ⟨m, h1, ⟨a, ha, h2⟩, h3⟩ := max_deg N
  have pos := N.pos
  have e1 := eq_nats m ps.length st
  have e2 := eq_nats ps.length (n - 1) st
  have mx := xCall (xCons (xCall (F := F_degrees_of) (xCons (xVar (i := 0) (r := [some (DV.d (netD n ps))]) (st := st) rfl) xNil) (degrees_of_ok N st)) xNil) (xB (h1 st))
  have ln := xCall (F := fB fLen) (xCons (xOp (xVar (i := 0) (r := [some (DV.d (netD n ps))]) (st := st) rfl) (xC (p := .int 1)) (ix1 _ _ _)) xNil) (xB (fLen_prs ps st))
  refine fRt rfl (yNx (yExpr (xCall (xCons (xVar rfl) xNil) (need_net_ok N _))) (yRt (yRet ?_))) rfl
  cases z : (m == ps.length) with
  | false =>
    have : starF n ps = false := by
      cases s : starF n ps with
      | false => rfl
      | true =>
        obtain ⟨t, ht, hh, hl⟩ := (star_iff N).mp s
        have q1 := h3 t ht
        rw [star_dg N hh] at q1
        have q2 := dg_len N a
        rw [← h2] at q2
        rw [show (m == ps.length) = true by simp; omega] at z
        cases z
    rw [z] at e1
    rw [this]
    exact xChainF mx ln e1
  | true =>
    rw [z] at e1
    have z : m = ps.length := by simpa using z
    have : starF n ps = (ps.length == n - 1) := by
      cases s : (ps.length == n - 1) with
      | false =>
        unfold starF
        rw [s, Bool.and_false]
      | true =>
        refine (star_iff N).mpr ⟨a, ha, fun p hp => ?_, by simpa using s⟩
        have q := dg_hit N a
        rw [← h2, z] at q
        have sp := len_split (hit a) ps
        have q3 : (ps.filter fun p => !hit a p) = [] := List.length_eq_zero_iff.mp (by omega)
        have := List.filter_eq_nil_iff.mp q3 p hp
        simpa using this
    rw [this]
    exact xChainT mx ln e1 (xOp (xOp (xVar rfl) xC (ix0 _ _ _)) xC (oSub_nn (b := 1) pos _)) e2
/-! ### what may be shown -/
def known (f : Nat) : Bool := f == 2 || f == 3 || f == 7
theorem nat_beq (a b : Nat) : PyData.eqv (.int (a : Int)) (.int (b : Int)) = (a == b) := by
  rw [Bool.eq_iff_iff]
  simp [PyData.eqv]
  omega
theorem notKnown_t (f : Nat) (st : Sto) : oNotIn (.d (.int f)) (.d (.tuple [.int 2, .int 3, .int 7])) st = some (.d (.bool (!known f))) := by
  show some (DV.d (.bool (!(PyData.eqv (.int (2 : Nat)) (.int f) || (PyData.eqv (.int (3 : Nat)) (.int f) || (PyData.eqv (.int (7 : Nat)) (.int f) || false)))))) = _
  rw [nat_beq, nat_beq, nat_beq]
  congr 4
  unfold known
  rw [Bool.eq_iff_iff]
  simp
  omega
theorem notKnown_l (f : Nat) (st : Sto) : oNotIn (.d (.int f)) (.d (.list [.int 2, .int 3, .int 7])) st = some (.d (.bool (!known f))) := by
  show some (DV.d (.bool (!(PyData.eqv (.int (2 : Nat)) (.int f) || (PyData.eqv (.int (3 : Nat)) (.int f) || (PyData.eqv (.int (7 : Nat)) (.int f) || false)))))) = _
  rw [nat_beq, nat_beq, nat_beq]
  congr 4
  unfold known
  rw [Bool.eq_iff_iff]
  simp
  omega
abbrev spB1 : SF := sIf (DL.tNot (tTru (eCall F_is_number (aCons (eVar 0) (aCons (eC (.int 0)) (aCons (eC (.int 100)) (aNil))))))) (sSeq (sRaise "BadNumber") (sNx)) (sNx)
theorem sp_head {f : Nat} (hf : f ≤ 100) {r : Rho} (h0 : r[(0 : Nat)]? = some (some (.d (.int f)))) (st : Sto) : spB1 r st = some (.fl .nx r, st) :=
  yIfF (xTNot (i := true) (xTTru (xCall (xCons (xVar h0) (xCons xC (xCons xC xNil))) (num_ok (by omega) (by omega) _)) rfl)) yEnd
theorem shows_sp {f : Nat} (hf : f ≤ 100) (N : Net n ps) (st : Sto) : F_shows_sparse [.d (.int f), .d (netD n ps)] st = some (.ok (.d (.bool (known f && (spF n ps && allD n ps f)))), st) := by
  have nk := notKnown_t f st
  have sp := is_sparse_of_ok N st
  have hd := sp_head hf (r := [some (.d (.int f)), some (.d (netD n ps)), none]) rfl st
  have t1 : DL.tNot (tTru (eCall F_is_net (aCons (eVar 1) (aNil)))) [some (.d (.int f)), some (.d (netD n ps)), none] st = some (.ok false, st) := xTNot (i := true) (xTTru (xCall (xCons (xVar rfl) xNil) (is_net_ok N _)) rfl)
  cases k : known f with
  | false =>
    rw [k] at nk
    exact fRt rfl (yNx hd (yNx (yIfF (xTVal (xOp (xVar (i := 1) rfl) xC rfl)) yEnd) (yRt (yIfT (xTOrF t1 (xTOrT (xTVal (xOp (xVar rfl) xC nk)))) (yRt (yRet xC)))))) rfl
  | true =>
    rw [k] at nk
    cases s : spF n ps with
    | false =>
      rw [s] at sp
      exact fRt rfl (yNx hd (yNx (yIfF (xTVal (xOp (xVar (i := 1) rfl) xC rfl)) yEnd) (yRt (yIfT (xTOrF t1 (xTOrF (xTVal (xOp (xVar rfl) xC nk)) (xTNot (i := false) (xTTru (xCall (xCons (xVar rfl) xNil) sp) rfl)))) (yRt (yRet xC)))))) rfl
    | true =>
      rw [s] at sp
      have ac := all_c (c := (f : Int)) (r := [some (.d (.int f)), some (.d (netD n ps)), none]) (i := 2) (it := iSeq (eCall F_degrees_of (aCons (eVar 1) (aNil)))) (ce := eVar 0) (st := st) (l := castL (degL n ps)) (zSeq (xCall (xCons (xVar rfl) xNil) (degrees_of_ok N _)) (by
        rw [itms_l]
        unfold castL intsD
        rw [List.map_map, List.map_map, List.map_map]
        rfl)) (by show 2 < 3; decide) (fun _ _ => xVar rfl)
      have e : ((castL (degL n ps)).all fun z => z == (f : Int)) = allD n ps f := by
        unfold castL allD
        rw [List.all_map]
        refine congrArg (fun g => (degL n ps).all g) (funext fun d => ?_)
        rw [Bool.eq_iff_iff]
        simp
        omega
      rw [e] at ac
      exact fRt rfl (yNx hd (yNx (yIfF (xTVal (xOp (xVar (i := 1) rfl) xC rfl)) yEnd) (yNx (yIfF (xTOrF t1 (xTOrF (xTVal (xOp (xVar rfl) xC nk)) (xTNot (i := true) (xTTru (xCall (xCons (xVar rfl) xNil) sp) rfl)))) yEnd) (yRt (yRet ac))))) rfl
theorem shows_spN {f : Nat} (hf : f ≤ 100) (st : Sto) : F_shows_sparse [.d (.int f), .d .none] st = some (.ok (.d (.bool (!known f))), st) :=
  fRt rfl (yNx (sp_head hf rfl st) (yRt (yIfT (xTVal (xOp (xVar (i := 1) rfl) xC rfl)) (yRt (yRet (xOp (xVar rfl) xC (notKnown_t f _))))))) rfl
theorem shows_spX {f : Nat} (hf : f ≤ 100) {x : DV} (hn : isNon x = false) (h : ∀ st, F_is_net [x] st = some (.ok (.d (.bool false)), st)) (st : Sto) : F_shows_sparse [.d (.int f), x] st = some (.ok (.d (.bool false)), st) := by
  have e : oIsN x (.d .none) st = some (.d (.bool false)) := by
    show some (DV.d (.bool (isNon x))) = _
    rw [hn]
  exact fRt (r := [some (.d (.int f)), some x, none]) rfl (yNx (sp_head hf rfl st) (yNx (yIfF (xTVal (i := false) (xOp (xVar (i := 1) rfl) xC e)) yEnd) (yRt (yIfT (xTOrT (xTNot (i := false) (xTTru (xCall (xCons (xVar rfl) xNil) (h _)) rfl))) (yRt (yRet xC)))))) rfl
/-! ### told -/
def toldD (n : Nat) (ps : List Pr) : PyData := match usort (castL (jl n ps)), usort (castL (al n ps)), sdL n ps with
  | [j], [a], [d] => .tuple [.int n, .int d, .int j, .int a]
  | _, _, _ => .none
theorem one_or {l : List Int} : (∃ x, l = [x]) ∨ (l.length == 1) = false := by
  match l with
  | [] => exact .inr rfl
  | [x] => exact .inl ⟨x, rfl⟩
  | x :: y :: r => exact .inr (by simp)
theorem ix_one (x : Int) (st : Sto) : oIx (.d (.list ([x].map .int))) (.d (.int 0)) st = some (.d (.int x)) := rfl
theorem ix_oneT (x : Int) (st : Sto) : oIx (.d (.tuple ([x].map .int))) (.d (.int 0)) st = some (.d (.int x)) := rfl
theorem fLen_tI (l : List Int) (st : Sto) : fLen [.d (.tuple (l.map .int))] st = some (.d (.int (l.length : Nat))) := by rw [fLen_t, List.length_map]
theorem fLen_lI (l : List Int) (st : Sto) : fLen [.d (.list (l.map .int))] st = some (.d (.int (l.length : Nat))) := by rw [fLen_l, List.length_map]
theorem sd_lc (N : Net n ps) {r : Rho} {i0 iv : Nat} (r0 : r[i0]? = some (some (.d (netD n ps)))) (h0 : iv ≠ i0) (hv : iv < r.length) (st : Sto) :
    eSortSet (eLc (iRg1 (eOp oIx (eVar i0) (eC (.int 0)))) (gV iv) (tYesF) (eCall (fB fLen) (aCons (eCall F__law_friends (aCons (eVar i0) (aCons (eVar iv) (aNil)))) aNil)) [iv]) r st = some (.ok (.d (.list ((sdL n ps).map .int))), st) := by
  have hn := N.le
  have ls := sd_len (n := n) (ps := ps)
  have lc := eLc_map (t := tYesF) (e := eCall (fB fLen) (aCons (eCall F__law_friends (aCons (eVar i0) (aCons (eVar iv) (aNil)))) aNil)) (g := gV iv) (vs := [iv]) (r := r) (st := st) (it := iRg1 (eOp oIx (eVar i0) (eC (.int 0)))) (List.range n) (fun (a : Nat) => .d (.int a)) (fun a => .int (dg n ps a : Nat)) (by
      refine (zRg1 (n := n) (xOp (xVar r0) xC (ix0 _ _ _)) (by omega)).trans ?_
      unfold rng
      simp) (by rw [List.length_range]; exact big (by omega)) fun a ha st => by
        have w0 : ((r.set iv none).set iv (some (DV.d (.int (a : Int)))))[i0]? = some (some (.d (netD n ps))) := by
          rw [List.getElem?_set_ne h0, List.getElem?_set_ne h0]
          exact r0
        have wv : ((r.set iv none).set iv (some (DV.d (.int (a : Int)))))[iv]? = some (some (.d (.int a))) := by
          rw [List.getElem?_set_self (by simpa using hv)]
        exact ⟨(r.set iv none).set iv (some (DV.d (.int (a : Int)))), rfl, rfl, xCall (xCons (xCall (xCons (xVar w0) (xCons (xVar wv) xNil)) (law_friends_ok N _)) xNil) (xB (fLen_intsD _ _))⟩
  have e : ((List.range n).map fun a => PyData.int (dg n ps a : Nat)) = intsD (degL n ps) := by
    unfold intsD degL
    rw [List.map_map]
    rfl
  rw [e] at lc
  exact xSortSet lc rfl (ints_intsD _) (by show (castL (degL n ps)).length < 4000; unfold castL; rw [List.length_map, deg_len]; omega) (by show (sdL n ps).length < 64; omega)
theorem law_told_ok (N : Net n ps) (st : Sto) : F__law_told [.d (netD n ps)] st = some (.ok (.d (toldD n ps)), st) := by
  have hn := N.le
  have sd := sd_lc N (r := [some (.d (netD n ps)), some (.d (.tuple ((usort (castL (jl n ps))).map .int))), some (.d (.tuple ((usort (castL (al n ps))).map .int))), none, none]) (i0 := 0) (iv := 4) rfl (by decide) (by show 4 < 5; decide) st
  have c := law_counts_ok N hn st
  have q1 := fun l => fLen_tI l st
  have q2 := fun (l : List Int) => ne_nats l.length 1 st
  unfold toldD
  unfold cntsD at c
  generalize usort (castL (jl n ps)) = J at c sd ⊢
  generalize usort (castL (al n ps)) = A at c sd ⊢
  generalize sdL n ps = D at sd ⊢
  have body : ∀ {o}, sSeq (sIf (DL.tOr (tVal (eOp oNe (eCall (fB fLen) (aCons (eVar 1) aNil)) (eC (.int 1)))) (DL.tOr (tVal (eOp oNe (eCall (fB fLen) (aCons (eVar 2) aNil)) (eC (.int 1)))) (tVal (eOp oNe (eCall (fB fLen) (aCons (eVar 3) aNil)) (eC (.int 1)))))) (sSeq (sRet (eC .none)) (sNx)) (sNx)) (sSeq (sRet (eTup (aCons (eOp oIx (eVar 0) (eC (.int 0))) (aCons (eOp oIx (eVar 3) (eC (.int 0))) (aCons (eOp oIx (eVar 1) (eC (.int 0))) (aCons (eOp oIx (eVar 2) (eC (.int 0))) (aNil))))))) (sNx))
      [some (.d (netD n ps)), some (.d (.tuple (J.map .int))), some (.d (.tuple (A.map .int))), some (.d (.list (D.map .int))), none] st = some (.fl (.rt (.d o)) [some (.d (netD n ps)), some (.d (.tuple (J.map .int))), some (.d (.tuple (A.map .int))), some (.d (.list (D.map .int))), none], st) → F__law_told [.d (netD n ps)] st = some (.ok (.d o), st) := fun {o} h =>
    fRt rfl (yNx (yAsg (xCall (xCons (xVar rfl) xNil) c) rfl) (yNx (ySet (i := 3) sd) h)) rfl
  have no : ∀ b1 b2 b3, (J.length == 1) = b1 → (A.length == 1) = b2 → (D.length == 1) = b3 → (b1 && b2 && b3) = false → F__law_told [.d (netD n ps)] st = some (.ok (.d .none), st) := fun b1 b2 b3 h1 h2 h3 h => by
    have j1 := q2 J
    have a1 := q2 A
    have d1 := q2 D
    rw [h1] at j1
    rw [h2] at a1
    rw [h3] at d1
    refine body (yRt (yIfT ?_ (yRt (yRet xC))))
    cases b1 with
    | false => exact xTOrT (xTVal (xOp (xCall (xCons (xVar (i := 1) rfl) xNil) (xB (q1 _))) xC j1))
    | true =>
      refine xTOrF (xTVal (xOp (xCall (xCons (xVar (i := 1) rfl) xNil) (xB (q1 _))) xC j1)) ?_
      cases b2 with
      | false => exact xTOrT (xTVal (xOp (xCall (xCons (xVar (i := 2) rfl) xNil) (xB (q1 _))) xC a1))
      | true =>
        refine xTOrF (xTVal (xOp (xCall (xCons (xVar (i := 2) rfl) xNil) (xB (q1 _))) xC a1)) ?_
        cases b3 with
        | false => exact xTVal (xOp (xCall (xCons (xVar (i := 3) rfl) xNil) (xB (fLen_lI _ _))) xC d1)
        | true => cases h
  rcases one_or (l := J) with ⟨j, rfl⟩ | hj
  · rcases one_or (l := A) with ⟨a, rfl⟩ | ha
    · rcases one_or (l := D) with ⟨d, rfl⟩ | hd
      · exact body (yNx (yIfF (xTOrF (xTVal (xOp (xCall (xCons (xVar (i := 1) rfl) xNil) (xB (q1 _))) xC (q2 _))) (xTOrF (xTVal (xOp (xCall (xCons (xVar (i := 2) rfl) xNil) (xB (q1 _))) xC (q2 _))) (xTVal (xOp (xCall (xCons (xVar (i := 3) rfl) xNil) (xB (fLen_lI _ _))) xC (q2 _))))) yEnd) (yRt (yRet (xTup (xCons (xOp (xVar rfl) xC (ix0 _ _ _)) (xCons (xOp (xVar (i := 3) rfl) xC (ix_one d _)) (xCons (xOp (xVar (i := 1) rfl) xC (ix_oneT j _)) (xCons (xOp (xVar (i := 2) rfl) xC (ix_oneT a _)) xNil)))) rfl (by show 4 ≤ sizeLine; decide)))))
      · rw [no true true false rfl rfl hd rfl]
        split
        · simp at hd
        · rfl
    · rw [no true false _ rfl ha rfl rfl]
      split
      · simp at ha
      · rfl
  · rw [no false _ _ hj rfl rfl rfl]
    split
    · simp at hj
    · rfl
end
end ML
end
section
/-! PL25: the sparse nets that are made. -/
namespace ML
open PySem DL
def mk2 : List Pr := (List.range 5).map fun h => (h, (h + 1) % 5)
def mk3 : List Pr := mk2 ++ ((List.range 5).map fun h => (5 + h, 5 + (h + 2) % 5)) ++ ((List.range 5).map fun h => (h, h + 5))
def blk7 (p s : Nat) : List Pr := [(5 * p + s, 5 * p + (s + 1) % 5), (25 + 5 * p + s, 25 + 5 * p + (s + 2) % 5)] ++ (List.range 5).map fun o => (5 * p + s, 25 + 5 * o + (p * o + s) % 5)
def row7 (p : Nat) : List Pr := (List.range 5).flatMap (blk7 p)
def mk7 : List Pr := (List.range 5).flatMap row7
def mkP (f : Nat) : List Pr := if f = 2 then mk2 else if f = 3 then mk3 else mk7
def srt (p : Pr) : Pr := (min p.1 p.2, max p.1 p.2)
def spP (f : Nat) : List Pr := sortPr ((mkP f).map srt)
theorem made2 (m : Nat) (st : Sto) : F_made_pairs_n (m + 1) [.d (.int 2)] st = some (.ok (.d (.list (mk2.map prD))), st) := by
  have lc := eLc_map (t := tYesF) (e := eTup (aCons (eVar 1) (aCons (eOp oMod (eOp oAdd (eVar 1) (eC (.int 1))) (eC (.int 5))) (aNil)))) (g := gV 1) (vs := [1]) (r := [some (.d (.int 2)), none, none, none, none, none, none]) (st := st) (it := iRg1 (eC (.int 5))) (List.range 5) (fun (h : Nat) => .d (.int h)) (fun h => prD (h, (h + 1) % 5)) (by
      refine (zRg1 (n := 5) xC (by omega)).trans ?_
      unfold rng
      simp) (by show 5 ≤ sizeLine; decide) fun h _ st => ⟨[some (.d (.int 2)), some (.d (.int h)), none, none, none, none, none], rfl, rfl, xTup (xCons (xVar rfl) (xCons (xOp (xOp (xVar rfl) xC (oAdd_nn h 1 _)) xC (oMod_nn (b := 5) (by omega) _)) xNil)) rfl (by show 2 ≤ sizeLine; decide)⟩
  have e : ((List.range 5).map fun h => prD (h, (h + 1) % 5)) = mk2.map prD := by
    unfold mk2
    rw [List.map_map]
    rfl
  rw [e] at lc
  exact fRt rfl (yRt (yIfT (xTVal (xOp (xVar rfl) xC (eq_nats 2 2 _))) (yRt (yRet lc)))) rfl
theorem made3 (m : Nat) (st : Sto) : F_made_pairs_n (m + 2) [.d (.int 3)] st = some (.ok (.d (.list (mk3.map prD))), st) := by
  have l1 := eLc_map (t := tYesF) (e := eTup (aCons (eOp oAdd (eC (.int 5)) (eVar 1)) (aCons (eOp oAdd (eC (.int 5)) (eOp oMod (eOp oAdd (eVar 1) (eC (.int 2))) (eC (.int 5)))) (aNil)))) (g := gV 1) (vs := [1]) (r := [some (.d (.int 3)), none, none, none, none, none, none]) (st := st) (it := iRg1 (eC (.int 5))) (List.range 5) (fun (h : Nat) => .d (.int h)) (fun h => prD (5 + h, 5 + (h + 2) % 5)) (by
      refine (zRg1 (n := 5) xC (by omega)).trans ?_
      unfold rng
      simp) (by show 5 ≤ sizeLine; decide) fun h _ st => ⟨[some (.d (.int 3)), some (.d (.int h)), none, none, none, none, none], rfl, rfl, xTup (xCons (xOp xC (xVar rfl) (oAdd_nn 5 h _)) (xCons (xOp xC (xOp (xOp (xVar rfl) xC (oAdd_nn h 2 _)) xC (oMod_nn (b := 5) (by omega) _)) (oAdd_nn 5 _ _)) xNil)) rfl (by show 2 ≤ sizeLine; decide)⟩
  have l2 := fun v2 => eLc_map (t := tYesF) (e := eTup (aCons (eVar 1) (aCons (eOp oAdd (eVar 1) (eC (.int 5))) (aNil)))) (g := gV 1) (vs := [1]) (r := [some (.d (.int 3)), none, v2, none, none, none, none]) (st := st) (it := iRg1 (eC (.int 5))) (List.range 5) (fun (h : Nat) => .d (.int h)) (fun h => prD (h, h + 5)) (by
      refine (zRg1 (n := 5) xC (by omega)).trans ?_
      unfold rng
      simp) (by show 5 ≤ sizeLine; decide) fun h _ st => ⟨[some (.d (.int 3)), some (.d (.int h)), v2, none, none, none, none], rfl, rfl, xTup (xCons (xVar rfl) (xCons (xOp (xVar rfl) xC (oAdd_nn h 5 _)) xNil)) rfl (by show 2 ≤ sizeLine; decide)⟩
  have a1 := fun (b : List PyData) (hb : b.length = 5) => addL (a := mk2.map prD) (b := b) (by rw [hb]; show 10 ≤ sizeLine; decide) st
  have a2 := fun (b c : List PyData) (hb : b.length = 5) (hc : c.length = 5) => addL (a := mk2.map prD ++ b) (b := c) (by rw [List.length_append, hb, hc]; show 15 ≤ sizeLine; decide) st
  have e : mk2.map prD ++ ((List.range 5).map fun h => prD (5 + h, 5 + (h + 2) % 5)) ++ ((List.range 5).map fun h => prD (h, h + 5)) = mk3.map prD := by
    unfold mk3
    rw [List.map_append, List.map_append, List.map_map, List.map_map]
    rfl
  have a3 := a2 ((List.range 5).map fun h => prD (5 + h, 5 + (h + 2) % 5)) ((List.range 5).map fun h => prD (h, h + 5)) rfl rfl
  rw [e] at a3
  exact fRt rfl (yNx (yIfF (xTVal (xOp (xVar rfl) xC (eq_nats 3 2 _))) yEnd) (yRt (yIfT (xTVal (xOp (xVar rfl) xC (eq_nats 3 3 _))) (yNx (ySet (i := 2) l1) (yRt (yRet (xOp (xOp (xCall (xCons xC xNil) (made2 m _)) (xVar (i := 2) rfl) (a1 _ rfl)) (l2 _) a3))))))) rfl
abbrev inB7 : SF := (sSeq (sExpr (eApp (eVar 3) (eTup (aCons (eOp oAdd (eOp oMul (eC (.int 5)) (eVar 4)) (eVar 5)) (aCons (eOp oAdd (eOp oMul (eC (.int 5)) (eVar 4)) (eOp oMod (eOp oAdd (eVar 5) (eC (.int 1))) (eC (.int 5)))) (aNil)))))) (sSeq (sExpr (eApp (eVar 3) (eTup (aCons (eOp oAdd (eOp oAdd (eC (.int 25)) (eOp oMul (eC (.int 5)) (eVar 4))) (eVar 5)) (aCons (eOp oAdd (eOp oAdd (eC (.int 25)) (eOp oMul (eC (.int 5)) (eVar 4))) (eOp oMod (eOp oAdd (eVar 5) (eC (.int 2))) (eC (.int 5)))) (aNil)))))) (sSeq (sExpr (eExt (eVar 3) (eLc (iRg1 (eC (.int 5))) (gV 6) (tYesF) (eTup (aCons (eOp oAdd (eOp oMul (eC (.int 5)) (eVar 4)) (eVar 5)) (aCons (eOp oAdd (eOp oAdd (eC (.int 25)) (eOp oMul (eC (.int 5)) (eVar 6))) (eOp oMod (eOp oAdd (eOp oMul (eVar 4) (eVar 6)) (eVar 5)) (eC (.int 5)))) (aNil)))) [6]))) (sNx))))
theorem xExt {a b : EF} {r : Rho} {st st1 st2 : Sto} {k : Nat} {ds1 ds es : List PyData} (ha : a r st = some (.ok (.mu k), st1)) (h1 : st1[k]? = some (.lst ds1)) (hb : b r st1 = some (.ok (.d (.list es)), st2)) (h2 : st2[k]? = some (.lst ds)) (hl : ds.length + es.length ≤ sizeLine) : eExt a b r st = some (.ok (.d .none), st2.set k (.lst (ds ++ es))) := by
  have e : isLM st1 (.mu k) = some k := by unfold isLM; simp [h1]
  unfold eExt
  simp only [bnd_at, ha, lft_at, e, hb, h2, res_d, if_pos hl]
theorem set_top {st : Sto} {c d : Ct} : (st ++ [c]).set st.length d = st ++ [d] := by
  rw [List.set_append_right _ _ (Nat.le_refl _), Nat.sub_self]
  rfl
theorem get_top {st : Sto} {c : Ct} : (st ++ [c])[st.length]? = some c := by simp
theorem in7 {st : Sto} {p : Nat} {v0 v1 v2 : Option DV} (hp : p < 5) : ∀ (ss : List Nat) (acc : List Pr) (x5 x6 : Option DV), (∀ s ∈ ss, s < 5) → acc.length + 7 * ss.length ≤ 4000 →
    ∃ y5, forL (gV 5) inB7 (ss.map fun (s : Nat) => .d (.int s)) [v0, v1, v2, some (.mu st.length), some (.d (.int p)), x5, x6] (st ++ [.lst (acc.map prD)]) = some (.fl .nx [v0, v1, v2, some (.mu st.length), some (.d (.int p)), y5, x6], st ++ [.lst ((acc ++ ss.flatMap (blk7 p)).map prD)])
  | [], acc, x5, x6, _, _ => ⟨x5, by rw [List.flatMap_nil, List.append_nil]; rfl⟩
  | s :: ss, acc, x5, x6, hs, hl => by
    have s5 := hs s List.mem_cons_self
    rw [List.length_cons] at hl
    obtain ⟨y5, ih⟩ := in7 (st := st) (v0 := v0) (v1 := v1) (v2 := v2) hp ss (acc ++ blk7 p s) (some (.d (.int s))) x6 (fun x hx => hs x (List.mem_cons_of_mem _ hx)) (by
      rw [List.length_append]
      show acc.length + 7 + 7 * ss.length ≤ 4000
      omega)
    have hb1 : acc.length < sizeLine := Nat.lt_of_lt_of_le (by omega : acc.length < 4000) (by decide)
    have two : 2 ≤ sizeLine := by decide
    have A1 := xApp (a := eVar 3) (b := eTup (aCons (eOp oAdd (eOp oMul (eC (.int 5)) (eVar 4)) (eVar 5)) (aCons (eOp oAdd (eOp oMul (eC (.int 5)) (eVar 4)) (eOp oMod (eOp oAdd (eVar 5) (eC (.int 1))) (eC (.int 5)))) (aNil)))) (r := [v0, v1, v2, some (.mu st.length), some (.d (.int p)), some (.d (.int s)), x6]) (st := st ++ [.lst (acc.map prD)]) (p := prD (5 * p + s, 5 * p + (s + 1) % 5)) (xVar rfl) get_top
      (xTup (xCons (xOp (xOp xC (xVar rfl) (oMul_nn (a := 5) (by omega) _)) (xVar rfl) (oAdd_nn _ s _)) (xCons (xOp (xOp xC (xVar rfl) (oMul_nn (a := 5) (by omega) _)) (xOp (xOp (xVar rfl) xC (oAdd_nn s 1 _)) xC (oMod_nn (b := 5) (by omega) _)) (oAdd_nn _ _ _)) xNil)) rfl two) get_top (by rw [List.length_map]; exact hb1)
    rw [set_top] at A1
    have A2 := xApp (a := eVar 3) (b := eTup (aCons (eOp oAdd (eOp oAdd (eC (.int 25)) (eOp oMul (eC (.int 5)) (eVar 4))) (eVar 5)) (aCons (eOp oAdd (eOp oAdd (eC (.int 25)) (eOp oMul (eC (.int 5)) (eVar 4))) (eOp oMod (eOp oAdd (eVar 5) (eC (.int 2))) (eC (.int 5)))) (aNil)))) (r := [v0, v1, v2, some (.mu st.length), some (.d (.int p)), some (.d (.int s)), x6]) (st := st ++ [.lst (acc.map prD ++ [prD (5 * p + s, 5 * p + (s + 1) % 5)])]) (p := prD (25 + 5 * p + s, 25 + 5 * p + (s + 2) % 5)) (xVar rfl) get_top
      (xTup (xCons (xOp (xOp xC (xOp xC (xVar rfl) (oMul_nn (a := 5) (by omega) _)) (oAdd_nn 25 _ _)) (xVar rfl) (oAdd_nn _ s _)) (xCons (xOp (xOp xC (xOp xC (xVar rfl) (oMul_nn (a := 5) (by omega) _)) (oAdd_nn 25 _ _)) (xOp (xOp (xVar rfl) xC (oAdd_nn s 2 _)) xC (oMod_nn (b := 5) (by omega) _)) (oAdd_nn _ _ _)) xNil)) rfl two) get_top (by
        rw [List.length_append, List.length_map, List.length_cons, List.length_nil]
        exact Nat.lt_of_lt_of_le (by omega : acc.length + 1 < 4000) (by decide))
    rw [set_top] at A2
    have lc := fun (st' : Sto) => eLc_map (t := tYesF) (e := eTup (aCons (eOp oAdd (eOp oMul (eC (.int 5)) (eVar 4)) (eVar 5)) (aCons (eOp oAdd (eOp oAdd (eC (.int 25)) (eOp oMul (eC (.int 5)) (eVar 6))) (eOp oMod (eOp oAdd (eOp oMul (eVar 4) (eVar 6)) (eVar 5)) (eC (.int 5)))) (aNil)))) (g := gV 6) (vs := [6]) (r := [v0, v1, v2, some (.mu st.length), some (.d (.int p)), some (.d (.int s)), x6]) (st := st') (it := iRg1 (eC (.int 5))) (List.range 5) (fun (o : Nat) => .d (.int o)) (fun o => prD (5 * p + s, 25 + 5 * o + (p * o + s) % 5)) (by
      refine (zRg1 (n := 5) xC (by omega)).trans ?_
      unfold rng
      simp) (by show 5 ≤ sizeLine; decide) fun o _ st => ⟨[v0, v1, v2, some (.mu _), some (.d (.int p)), some (.d (.int s)), some (.d (.int o))], rfl, rfl, xTup (xCons (xOp (xOp xC (xVar rfl) (oMul_nn (a := 5) (by omega) _)) (xVar rfl) (oAdd_nn _ s _)) (xCons (xOp (xOp xC (xOp xC (xVar rfl) (oMul_nn (a := 5) (by omega) _)) (oAdd_nn 25 _ _)) (xOp (xOp (xOp (xVar rfl) (xVar rfl) (oMul_nn (a := p) (by omega) _)) (xVar rfl) (oAdd_nn _ s _)) xC (oMod_nn (b := 5) (by omega) _)) (oAdd_nn _ _ _)) xNil)) rfl two⟩
    have A3 := xExt (a := eVar 3) (r := [v0, v1, v2, some (.mu st.length), some (.d (.int p)), some (.d (.int s)), x6]) (st := st ++ [.lst (acc.map prD ++ [prD (5 * p + s, 5 * p + (s + 1) % 5)] ++ [prD (25 + 5 * p + s, 25 + 5 * p + (s + 2) % 5)])]) (xVar rfl) get_top (lc _) get_top (by
        rw [List.length_append, List.length_append, List.length_map, List.length_map, List.length_cons, List.length_nil, List.length_range, List.length_cons, List.length_nil]
        exact big (by omega))
    rw [set_top] at A3
    have e : acc.map prD ++ [prD (5 * p + s, 5 * p + (s + 1) % 5)] ++ [prD (25 + 5 * p + s, 25 + 5 * p + (s + 2) % 5)] ++ ((List.range 5).map fun o => prD (5 * p + s, 25 + 5 * o + (p * o + s) % 5)) = (acc ++ blk7 p s).map prD := by
      unfold blk7
      rw [List.map_append, List.map_append, List.map_map, List.append_assoc, List.append_assoc]
      rfl
    rw [e] at A3
    refine ⟨y5, ?_⟩
    rw [List.map_cons, List.flatMap_cons, ← List.append_assoc]
    exact (forL_nx (r1 := [v0, v1, v2, some (.mu st.length), some (.d (.int p)), some (.d (.int s)), x6]) rfl (yNx (yExpr A1) (yNx (yExpr A2) (yNx (yExpr A3) yEnd)))).trans ih
theorem out7 {st : Sto} {v0 v1 v2 : Option DV} : ∀ (pp : List Nat) (acc : List Pr) (x4 x5 x6 : Option DV), (∀ p ∈ pp, p < 5) → acc.length + 35 * pp.length ≤ 4000 →
    ∃ y4 y5, forL (gV 4) (sSeq (sFor (iRg1 (eC (.int 5))) (gV 5) inB7) (sNx)) (pp.map fun (s : Nat) => .d (.int s)) [v0, v1, v2, some (.mu st.length), x4, x5, x6] (st ++ [.lst (acc.map prD)]) = some (.fl .nx [v0, v1, v2, some (.mu st.length), y4, y5, x6], st ++ [.lst ((acc ++ pp.flatMap row7).map prD)])
  | [], acc, x4, x5, x6, _, _ => ⟨x4, x5, by rw [List.flatMap_nil, List.append_nil]; rfl⟩
  | p :: pp, acc, x4, x5, x6, hs, hl => by
    rw [List.length_cons] at hl
    obtain ⟨z5, h5⟩ := in7 (st := st) (v0 := v0) (v1 := v1) (v2 := v2) (hs p List.mem_cons_self) (List.range 5) acc x5 x6 (fun s h => List.mem_range.mp h) (by rw [List.length_range]; omega)
    obtain ⟨y4, y5, ih⟩ := out7 (st := st) (v0 := v0) (v1 := v1) (v2 := v2) pp (acc ++ row7 p) (some (.d (.int p))) z5 x6 (fun x hx => hs x (List.mem_cons_of_mem _ hx)) (by
      rw [List.length_append]
      show acc.length + 35 + 35 * pp.length ≤ 4000
      omega)
    refine ⟨y4, y5, ?_⟩
    rw [List.map_cons, List.flatMap_cons, ← List.append_assoc]
    have rg : iRg1 (eC (.int 5)) [v0, v1, v2, some (.mu st.length), some (.d (.int p)), x5, x6] (st ++ [.lst (acc.map prD)]) = some (.ok ((List.range 5).map fun (s : Nat) => .d (.int s)), st ++ [.lst (acc.map prD)]) := (zRg1 (n := 5) xC (by omega)).trans (by
      unfold rng
      simp)
    exact (forL_nx (r1 := [v0, v1, v2, some (.mu st.length), some (.d (.int p)), x5, x6]) rfl (yNx (yFor rg h5) yEnd)).trans ih
theorem made7 (m : Nat) (st : Sto) : F_made_pairs_n (m + 1) [.d (.int 7)] st = some (.ok (.d (.list (mk7.map prD))), st) := by
  obtain ⟨y4, y5, lp⟩ := out7 (st := st) (v0 := some (.d (.int 7))) (v1 := none) (v2 := none) (List.range 5) [] none none none (fun s h => List.mem_range.mp h) (by rw [List.length_range, List.length_nil]; omega)
  rw [List.nil_append] at lp
  have rg : iRg1 (eC (.int 5)) [some (.d (.int 7)), none, none, some (.mu st.length), none, none, none] (st ++ [.lst []]) = some (.ok ((List.range 5).map fun (s : Nat) => .d (.int s)), st ++ [.lst []]) := (zRg1 (n := 5) xC (by omega)).trans (by
      unfold rng
      simp)
  have := fRtS (N := 7) (b := b_made_pairs (F_made_pairs_n m)) (xs := [.d (.int 7)]) (st := st) rfl (yNx (yIfF (xTVal (xOp (xVar rfl) xC (eq_nats 7 2 _))) yEnd) (yNx (yIfF (xTVal (xOp (xVar rfl) xC (eq_nats 7 3 _))) yEnd) (yNx (ySet (i := 3) (xLstM xNil rfl (Nat.zero_le _))) (yNx (yFor rg lp) (yRt (yRet (xVar (i := 3) rfl))))))) (by
    show (if st.length < st.length then _ else _) = _
    rw [if_neg (Nat.lt_irrefl _), get_top])
  rw [List.take_left] at this
  exact this
theorem made_ok2 {f : Nat} (hf : known f = true) (st : Sto) : F_made_pairs [.d (.int f)] st = some (.ok (.d (.list ((mkP f).map prD))), st) := by
  have : f = 2 ∨ f = 3 ∨ f = 7 := by
    unfold known at hf
    simp at hf
    omega
  rcases this with rfl | rfl | rfl
  · exact made2 7 st
  · exact made3 6 st
  · exact made7 7 st
theorem fMin2 (p : Pr) (st : Sto) : fMinA [.d (prD p)] st = some (.d (.int (min p.1 p.2 : Nat))) := by
  show some (DV.d (.int (if (p.2 : Int) < p.1 then p.2 else p.1))) = _
  congr 3
  split <;> omega
theorem fMax2 (p : Pr) (st : Sto) : fMaxA [.d (prD p)] st = some (.d (.int (max p.1 p.2 : Nat))) := by
  show some (DV.d (.int (if (p.2 : Int) > p.1 then p.2 else p.1))) = _
  congr 3
  split <;> omega
theorem mk_len {f : Nat} : (mkP f).length ≤ 175 := by
  unfold mkP
  split
  · decide
  · split
    · decide
    · decide +kernel
/-- what sparse_net makes -/
def spD1 (f : Nat) : PyData := if known f = true then netD (f * f + 1) (spP f) else .none
theorem sparse_net_ok {f : Nat} (hf : f ≤ 100) (st : Sto) : F_sparse_net [.d (.int f)] st = some (.ok (.d (spD1 f)), st) := by
  have nk := notKnown_t f st
  have hd : spB1 [some (.d (.int f)), none, none] st = some (.fl .nx [some (.d (.int f)), none, none], st) := yIfF (xTNot (i := true) (xTTru (xCall (xCons (xVar rfl) (xCons xC (xCons xC xNil))) (num_ok (by omega) (by omega) _)) rfl)) yEnd
  unfold spD1
  cases k : known f with
  | false =>
    rw [k] at nk
    exact fRt rfl (yNx hd (yRt (yIfT (xTVal (xOp (xVar rfl) xC nk)) (yRt (yRet xC))))) rfl
  | true =>
    rw [k] at nk
    have lc := eLc_map (t := tYesF) (e := eTup (aCons (eCall (fB fMinA) (aCons (eVar 2) aNil)) (aCons (eCall (fB fMaxA) (aCons (eVar 2) aNil)) (aNil)))) (g := gV 2) (vs := [2]) (r := [some (.d (.int f)), none, none]) (st := st) (it := iSeq (eCall F_made_pairs (aCons (eVar 0) (aNil)))) (mkP f) (fun p => .d (prD p)) (fun p => prD (srt p)) (zSeq (xCall (xCons (xVar rfl) xNil) (made_ok2 k _)) (by rw [itms_l, List.map_map]; rfl)) (Nat.le_trans mk_len (by decide)) fun p _ st => ⟨[some (.d (.int f)), none, some (.d (prD p))], rfl, rfl, xTup (xCons (xCall (xCons (xVar rfl) xNil) (xB (fMin2 p _))) (xCons (xCall (xCons (xVar rfl) xNil) (xB (fMax2 p _))) xNil)) rfl (by show 2 ≤ sizeLine; decide)⟩
    have e : ((mkP f).map fun p => prD (srt p)) = ((mkP f).map srt).map prD := by rw [List.map_map]; rfl
    rw [e] at lc
    rw [if_pos rfl]
    exact fRt rfl (yNx hd (yNx (yIfF (xTVal (xOp (xVar rfl) xC nk)) yEnd) (yNx (ySet (i := 1) (xCall (xCons lc xNil) (xB (fSortA_prs _ _)))) (yRt (yRet (xTup (xCons (xOp (xOp (xVar rfl) (xVar rfl) (oMul_nn (a := f) (by omega) _)) xC (oAdd_nn _ 1 _)) (xCons (xCall (xCons (xVar (i := 1) rfl) xNil) (xB (fTup_l _ _))) xNil)) rfl (by show 2 ≤ sizeLine; decide))))))) rfl
/-! ### they are sparse -/
def tab2 : List (List Nat) := [[1, 4], [0, 2], [1, 3], [2, 4], [0, 3]]
def tab3 : List (List Nat) := [[1, 4, 5], [0, 2, 6], [1, 3, 7], [2, 4, 8], [0, 3, 9], [0, 7, 8], [1, 8, 9], [2, 5, 9], [3, 5, 6], [4, 6, 7]]
def tab7 : List (List Nat) := [[1, 4, 25, 30, 35, 40, 45], [0, 2, 26, 31, 36, 41, 46], [1, 3, 27, 32, 37, 42, 47], [2, 4, 28, 33, 38, 43, 48], [0, 3, 29, 34, 39, 44, 49], [6, 9, 25, 31, 37, 43, 49], [5, 7, 26, 32, 38, 44, 45], [6, 8, 27, 33, 39, 40, 46], [7, 9, 28, 34, 35, 41, 47], [5, 8, 29, 30, 36, 42, 48], [11, 14, 25, 32, 39, 41, 48], [10, 12, 26, 33, 35, 42, 49], [11, 13, 27, 34, 36, 43, 45], [12, 14, 28, 30, 37, 44, 46], [10, 13, 29, 31, 38, 40, 47], [16, 19, 25, 33, 36, 44, 47], [15, 17, 26, 34, 37, 40, 48], [16, 18, 27, 30, 38, 41, 49], [17, 19, 28, 31, 39, 42, 45], [15, 18, 29, 32, 35, 43, 46], [21, 24, 25, 34, 38, 42, 46], [20, 22, 26, 30, 39, 43, 47], [21, 23, 27, 31, 35, 44, 48], [22, 24, 28, 32, 36, 40, 49], [20, 23, 29, 33, 37, 41, 45], [0, 5, 10, 15, 20, 27, 28], [1, 6, 11, 16, 21, 28, 29], [2, 7, 12, 17, 22, 25, 29], [3, 8, 13, 18, 23, 25, 26], [4, 9, 14, 19, 24, 26, 27], [0, 9, 13, 17, 21, 32, 33], [1, 5, 14, 18, 22, 33, 34], [2, 6, 10, 19, 23, 30, 34], [3, 7, 11, 15, 24, 30, 31], [4, 8, 12, 16, 20, 31, 32], [0, 8, 11, 19, 22, 37, 38], [1, 9, 12, 15, 23, 38, 39], [2, 5, 13, 16, 24, 35, 39], [3, 6, 14, 17, 20, 35, 36], [4, 7, 10, 18, 21, 36, 37], [0, 7, 14, 16, 23, 42, 43], [1, 8, 10, 17, 24, 43, 44], [2, 9, 11, 18, 20, 40, 44], [3, 5, 12, 19, 21, 40, 41], [4, 6, 13, 15, 22, 41, 42], [0, 6, 12, 18, 24, 47, 48], [1, 7, 13, 19, 20, 48, 49], [2, 8, 14, 15, 21, 45, 49], [3, 9, 10, 16, 22, 45, 46], [4, 5, 11, 17, 23, 46, 47]]
def tabF (f : Nat) : List (List Nat) := if f = 2 then tab2 else if f = 3 then tab3 else tab7
def nbT (f a : Nat) : List Nat := ((tabF f)[a]?).getD []
def has (l : List Pr) (a b : Nat) : Bool := l.any fun p => p.1 == a && p.2 == b
def hasN (l : List Nat) (b : Nat) : Bool := l.any fun x => x == b
def tabC (f : Nat) : Bool := (((mkP f).map srt).all fun p => Nat.blt p.1 p.2 && Nat.blt p.2 (f * f + 1) && hasN (nbT f p.1) p.2 && hasN (nbT f p.2) p.1) &&
  ((List.range (f * f + 1)).all fun a => (nbT f a).length == f && (nbT f a).all fun b => Nat.blt b (f * f + 1) && (has ((mkP f).map srt) a b || has ((mkP f).map srt) b a)) &&
  ((List.range (f * f + 1)).all fun a => (List.range (f * f + 1)).all fun b => a == b || ((nbT f a).filter (hasN (nbT f b))).length == (if hasN (nbT f a) b then 0 else 1))
def incr : List Nat → Bool
  | a :: b :: r => Nat.blt a b && incr (b :: r)
  | _ => true
def incrP : List Pr → Bool
  | a :: b :: r => (Nat.blt a.1 b.1 || (a.1 == b.1 && Nat.blt a.2 b.2)) && incrP (b :: r)
  | _ => true
theorem tabC2 : tabC 2 = true := by decide +kernel
theorem tabC3 : tabC 3 = true := by decide +kernel
theorem tabC7 : tabC 7 = true := by decide +kernel
theorem tabI : ((List.range 50).all fun a => incr (nbT 2 a) && incr (nbT 3 a) && incr (nbT 7 a)) = true := by decide +kernel
theorem mk_nd2 : ((mkP 2).map srt).Nodup := by decide +kernel
theorem mk_nd3 : ((mkP 3).map srt).Nodup := by decide +kernel
theorem mk_nd7 : ((mkP 7).map srt).Nodup := by decide +kernel
theorem known_of {f : Nat} (h : known f = true) : f = 2 ∨ f = 3 ∨ f = 7 := by
  unfold known at h
  simp at h
  omega
theorem tabC_ok {f : Nat} (h : known f = true) : tabC f = true := by
  rcases known_of h with rfl | rfl | rfl
  · exact tabC2
  · exact tabC3
  · exact tabC7
theorem mk_nd {f : Nat} (h : known f = true) : ((mkP f).map srt).Nodup := by
  rcases known_of h with rfl | rfl | rfl
  · exact mk_nd2
  · exact mk_nd3
  · exact mk_nd7
theorem incr_pw : ∀ l : List Nat, incr l = true → l.Pairwise (· < ·)
  | [], _ => .nil
  | [a], _ => List.pairwise_singleton _ _
  | a :: b :: r, h => by
    rw [incr, Bool.and_eq_true] at h
    have ih := incr_pw (b :: r) h.2
    have h1 : a < b := by simpa [Nat.blt_eq] using h.1
    refine .cons (fun x hx => ?_) ih
    rcases List.mem_cons.mp hx with z | z
    · omega
    · have := (List.pairwise_cons.mp ih).1 x z
      omega
theorem nbT_nd {f a : Nat} (h : known f = true) (ha : a < 50) : (nbT f a).Nodup := by
  have := List.all_eq_true.mp tabI a (List.mem_range.mpr ha)
  rw [Bool.and_eq_true, Bool.and_eq_true] at this
  have q : incr (nbT f a) = true := by
    rcases known_of h with rfl | rfl | rfl
    · exact this.1.1
    · exact this.1.2
    · exact this.2
  exact (incr_pw _ q).imp fun {a b} h e => by omega
theorem hasN_iff {l : List Nat} {b : Nat} : hasN l b = true ↔ b ∈ l := by
  unfold hasN
  rw [List.any_eq_true]
  constructor
  · rintro ⟨x, h1, h2⟩
    have : x = b := by simpa using h2
    exact this ▸ h1
  · exact fun h => ⟨b, h, by simp⟩
theorem has_iff {l : List Pr} {a b : Nat} : has l a b = true ↔ (a, b) ∈ l := by
  unfold has
  rw [List.any_eq_true]
  constructor
  · rintro ⟨⟨x, y⟩, h1, h2⟩
    simp at h2
    obtain ⟨rfl, rfl⟩ := h2
    exact h1
  · exact fun h => ⟨_, h, by simp⟩
theorem blt_iff {a b : Nat} : Nat.blt a b = true ↔ a < b := by simp [Nat.blt_eq]
section
variable {f : Nat}
theorem sp_n50 (h : known f = true) : f * f + 1 ≤ 50 := by
  rcases known_of h with rfl | rfl | rfl <;> decide
theorem tab1 (h : known f = true) {p : Pr} (hp : p ∈ (mkP f).map srt) : p.1 < p.2 ∧ p.2 < f * f + 1 ∧ p.2 ∈ nbT f p.1 ∧ p.1 ∈ nbT f p.2 := by
  have := tabC_ok h
  unfold tabC at this
  rw [Bool.and_eq_true, Bool.and_eq_true] at this
  have := List.all_eq_true.mp this.1.1 p hp
  simp only [Bool.and_eq_true, hasN_iff, blt_iff] at this
  exact ⟨this.1.1.1, this.1.1.2, this.1.2, this.2⟩
theorem tab2' (h : known f = true) {a : Nat} (ha : a < f * f + 1) : (nbT f a).length = f ∧ ∀ b ∈ nbT f a, b < f * f + 1 ∧ ((a, b) ∈ (mkP f).map srt ∨ (b, a) ∈ (mkP f).map srt) := by
  have := tabC_ok h
  unfold tabC at this
  rw [Bool.and_eq_true, Bool.and_eq_true] at this
  have := List.all_eq_true.mp this.1.2 a (List.mem_range.mpr ha)
  rw [Bool.and_eq_true, List.all_eq_true] at this
  refine ⟨by simpa using this.1, fun b hb => ?_⟩
  have := this.2 b hb
  rw [Bool.and_eq_true, Bool.or_eq_true, blt_iff, has_iff, has_iff] at this
  exact this
theorem tab3' (h : known f = true) {a b : Nat} (ha : a < f * f + 1) (hb : b < f * f + 1) (ne : a ≠ b) : ((nbT f a).filter (hasN (nbT f b))).length = if hasN (nbT f a) b = true then 0 else 1 := by
  have := tabC_ok h
  unfold tabC at this
  rw [Bool.and_eq_true, Bool.and_eq_true] at this
  have := List.all_eq_true.mp (List.all_eq_true.mp this.2 a (List.mem_range.mpr ha)) b (List.mem_range.mpr hb)
  rw [Bool.or_eq_true] at this
  rcases this with z | z
  · exact absurd (by simpa using z) ne
  · simpa using z
theorem mem_spP {p : Pr} : p ∈ spP f ↔ p ∈ (mkP f).map srt := (sortPr_perm _).mem_iff
theorem sp_net (h : known f = true) : Net (f * f + 1) (spP f) := sort_net (by omega) (by have := sp_n50 h; omega) (fun p hp => ⟨(tab1 h hp).1, (tab1 h hp).2.1⟩) (mk_nd h) (by
  rw [List.length_map]
  have := mk_len (f := f)
  omega)
theorem sp_tab (h : known f = true) {a b : Nat} (ha : a < f * f + 1) : adj (spP f) a b = hasN (nbT f a) b := by
  rw [Bool.eq_iff_iff, adj_iff, mem_spP, mem_spP, hasN_iff]
  constructor
  · rintro (q | q)
    · exact (tab1 h q).2.2.1
    · exact (tab1 h q).2.2.2
  · exact fun q => ((tab2' h ha).2 b q).2
theorem sp_nbr (h : known f = true) {a : Nat} (ha : a < f * f + 1) : (nbr (f * f + 1) (spP f) a).Perm (nbT f a) := by
  refine (List.perm_ext_iff_of_nodup (nbr_nd _ _ _) (nbT_nd h (by have := sp_n50 h; omega))).mpr fun b => ?_
  rw [mem_nbr (sp_net h), sp_tab h ha, hasN_iff]
theorem sp_sparse (h : known f = true) : sparse (f * f + 1) (spP f) := by
  intro a b ha hb ne
  rw [sp_tab h ha, ← tab3' h ha hb ne]
  unfold cnt
  refine List.Perm.length_eq ((List.perm_ext_iff_of_nodup ((com_lt _ _ a b).imp fun {a b} h e => by omega) ((nbT_nd h (by have := sp_n50 h; omega)).filter _)).mpr fun c => ?_)
  rw [mem_com (sp_net h), sp_tab h ha, sp_tab h hb, List.mem_filter, hasN_iff]
theorem sp_deg (h : known f = true) : ∀ a, a < f * f + 1 → dg (f * f + 1) (spP f) a = f := fun a ha => by
  unfold dg
  rw [(sp_nbr h ha).length_eq]
  exact (tab2' h ha).1
theorem sp_two (h : known f = true) : 2 * (spP f).length = (f * f + 1) * f := by
  rw [← shake (sp_net h), sumF_congr fun a ha => sp_deg h a (List.mem_range.mp ha), sumF_const, List.length_range]
theorem sp_spF (h : known f = true) : spF (f * f + 1) (spP f) = true := (spF_iff (sp_net h)).mpr (sp_sparse h)
theorem sp_allD (h : known f = true) : allD (f * f + 1) (spP f) f = true := allD_iff.mpr (sp_deg h)
/-- some joined, some apart -/
theorem usort_const {l : List Nat} {c : Nat} (h : ∀ x ∈ l, x = c) (ne : l ≠ []) : usort (castL l) = [(c : Int)] :=
  ssorted_ext _ _ (usort_pw _) (List.pairwise_singleton _ _) fun k => by
    rw [usort_mem, List.mem_singleton]
    unfold castL
    rw [List.mem_map]
    constructor
    · rintro ⟨x, hx, rfl⟩
      rw [h x hx]
    · rintro rfl
      cases l with
      | nil => exact absurd rfl ne
      | cons x r => exact ⟨x, List.mem_cons_self, by rw [h x List.mem_cons_self]⟩
theorem sp_told (h : known f = true) : toldD (f * f + 1) (spP f) = .tuple [.int (f * f + 1 : Nat), .int f, .int 0, .int 1] := by
  have N := sp_net h
  have S := sp_sparse h
  have f2 : 2 ≤ f := by rcases known_of h with rfl | rfl | rfl <;> decide
  have nf : f < f * f := by rcases known_of h with rfl | rfl | rfl <;> decide
  have j : usort (castL (jl (f * f + 1) (spP f))) = [((0 : Nat) : Int)] := usort_const (fun x hx => by
    obtain ⟨p, hp, rfl⟩ := List.mem_map.mp hx
    exact sp_adj S N (List.mem_filter.mp hp).2) fun e => by
      have hd := sp_deg h 0 (by omega)
      unfold jl at e
      have e2 := List.map_eq_nil_iff.mp e
      have : (nbr (f * f + 1) (spP f) 0) = [] := List.eq_nil_iff_forall_not_mem.mpr fun b hb => by
        have ad := (mem_nbr N).mp hb
        have lt := adj_lt N ad
        have ne : b ≠ 0 := fun z => by
          rw [z, adj_irr N] at ad
          cases ad
        have : ((0, b) : Pr) ∈ (allP (f * f + 1)).filter fun p => adj (spP f) p.1 p.2 := List.mem_filter.mpr ⟨mem_allP.mpr ⟨by simp only; omega, lt.2⟩, ad⟩
        rw [e2] at this
        cases this
      unfold dg at hd
      rw [this] at hd
      simp at hd
      omega
  have a : usort (castL (al (f * f + 1) (spP f))) = [((1 : Nat) : Int)] := usort_const (fun x hx => by
    obtain ⟨p, hp, rfl⟩ := List.mem_map.mp hx
    obtain ⟨h1, h2⟩ := List.mem_filter.mp hp
    have := mem_allP.mp h1
    exact sp_far S (by omega) this.2 (by omega) (by simpa using h2)) fun e => by
      have hd := sp_deg h 0 (by omega)
      unfold al at e
      have e2 := List.map_eq_nil_iff.mp e
      have := full_dg N (u := 0) (by omega) fun x hx nx => by
        cases q : adj (spP f) 0 x with
        | true => rfl
        | false =>
          have : ((0, x) : Pr) ∈ (allP (f * f + 1)).filter fun p => !adj (spP f) p.1 p.2 := List.mem_filter.mpr ⟨mem_allP.mpr ⟨by simp only; omega, hx⟩, by simp only; rw [q]; rfl⟩
          rw [e2] at this
          cases this
      omega
  have s : sdL (f * f + 1) (spP f) = [(f : Int)] := sd_one (by omega) (sp_deg h)
  unfold toldD
  rw [j, a, s]
  rfl
end
end ML
end
section
/-! PL26: pairs out of order; comprehensions that keep none; lists of ints side by side. -/
namespace ML
open PySem DL
section
variable {n : Nat} {ps : List Pr}
theorem pairs_all (ok : ∀ p ∈ ps, p.1 < p.2 ∧ p.2 < n) {v0 x3 x4 x5 : Option DV} (st : Sto) : eAll (iSeq (eVar 2)) (gV 3) (eAnd (eCall F_is_pair (aCons (eVar 1) (aCons (eVar 3) (aNil)))) (eOp oLt (eOp oIx (eVar 3) (eC (.int 0))) (eOp oIx (eVar 3) (eC (.int 1))))) [3] [v0, some (.d (.int n)), some (.d (.tuple (ps.map prD))), x3, x4, x5] st = some (.ok (.d (.bool true)), st) := by
  refine eAll_true (xs := (ps.map prD).map .d) (zSeq (xVar rfl) rfl) (fun x hx => ?_)
  obtain ⟨y, hy, rfl⟩ := List.mem_map.mp hx
  obtain ⟨p, hp, rfl⟩ := List.mem_map.mp hy
  have lt := oLt_nn p.1 p.2 st
  rw [decide_eq_true (ok p hp).1] at lt
  exact ⟨[v0, some (.d (.int n)), some (.d (.tuple (ps.map prD))), some (.d (prD p)), x4, x5], rfl, xAndT (xCall (xCons (xVar rfl) (xCons (xVar rfl) xNil)) (is_pair_ok (ok p hp) _)) (xOp (xOp (xVar rfl) xC (ix0 _ _ _)) (xOp (xVar rfl) xC (ix1 _ _ _)) lt)⟩
def lexP (p q : Pr) : Bool := Nat.blt p.1 q.1 || (p.1 == q.1 && Nat.blt p.2 q.2)
theorem lt_prB (p q : Pr) (st : Sto) : oLt (.d (prD p)) (.d (prD q)) st = some (.d (.bool (lexP p q))) := by
  unfold prD
  simp only [oLt, res_d, ints?, Option.map]
  congr 3
  unfold lexP
  rw [Bool.eq_iff_iff]
  simp only [HT.lexLt, Bool.or_eq_true, Bool.and_eq_true, Nat.blt_eq, beq_iff_eq]
  split
  · split
    · simp
      omega
    · simp
      omega
  · simp
    omega
def ordB (ps : List Pr) : Bool := (ps.zip (ps.drop 1)).all fun x => lexP x.1 x.2
def ordF : DV → Bool
  | .d (.tuple [.tuple [.int a, .int b], .tuple [.int c, .int d]]) => lexP (a.toNat, b.toNat) (c.toNat, d.toNat)
  | _ => false
theorem wrong_ord (h1 : 1 ≤ n) (h2 : n ≤ 60) (ok : ∀ p ∈ ps, p.1 < p.2 ∧ p.2 < n) (bad : ordB ps = false) (st : Sto) : F_wrong_net [.d (netD n ps)] st = some (.ok (.d (.str "pairs")), st) := by
  have e := ne_nats 2 2 st
  have zp : eAll (iZipD (eVar 2) (eOp oFrom (eVar 2) (eC (.int 1)))) (gT (gConsF 4 (gConsF 5 (gNilF)))) (eOp oLt (eVar 4) (eVar 5)) [4, 5] [some (.d (netD n ps)), some (.d (.int n)), some (.d (.tuple (ps.map prD))), none, none, none] st = some (.ok (.d (.bool false)), st) := by
    have := eAll_pure (it := iZipD (eVar 2) (eOp oFrom (eVar 2) (eC (.int 1)))) (g := gT (gConsF 4 (gConsF 5 (gNilF)))) (e := eOp oLt (eVar 4) (eVar 5)) (vs := [4, 5]) (r := [some (.d (netD n ps)), some (.d (.int n)), some (.d (.tuple (ps.map prD))), none, none, none]) (st := st) (xs := (ps.zip (ps.drop 1)).map fun x => pairD (prD x.1, prD x.2)) ordF (by
      show DL.bnd _ _ st = _
      simp [oFrom, cutD_one]
      rw [← List.map_tail, List.zip_map, List.map_map]
      rfl) (fun x hx => by
        obtain ⟨⟨p, q⟩, _, rfl⟩ := List.mem_map.mp hx
        exact ⟨[some (.d (netD n ps)), some (.d (.int n)), some (.d (.tuple (ps.map prD))), none, some (.d (prD p)), some (.d (prD q))], rfl, xOp (xVar rfl) (xVar rfl) (lt_prB p q _)⟩)
    rw [this, List.all_map]
    have : (ordF ∘ fun x : Pr × Pr => pairD (prD x.1, prD x.2)) = fun x => lexP x.1 x.2 := rfl
    rw [this]
    unfold ordB at bad
    rw [bad]
  exact fRt rfl (yNx (yIfF (xTOrF (xTNot (i := true) (xTTru (xIsi (xVar rfl) rfl) rfl)) (xTVal (xOp (xCall (xCons (xVar rfl) xNil) (xB (len2 _ _ _))) xC e))) yEnd) (yNx (yAsg (xVar (i := 0) rfl) rfl) (yNx (yIfF (xTNot (i := true) (xTTru (xCall (xCons (xVar (i := 1) rfl) (xCons xC (xCons xC xNil))) (num_ok (by omega) (by omega) _)) rfl)) yEnd) (yNx (yIfF (xTOrF (xTNot (i := true) (xTTru (xIsi (xVar (i := 2) rfl) rfl) rfl)) (xTNot (i := true) (xTTru (pairs_all ok _) rfl))) yEnd) (yRt (yRet (xIfF (xTTru zp rfl) xC))))))) rfl
end
theorem xDctZ {r : Rho} {st : Sto} : eDctZ r st = some (.ok (.dk []), st) := rfl
theorem xLstX {as : AF} {r : Rho} {st st1 : Sto} {xs : List DV} {ds : List It1} (ha : as r st = some (.ok xs, st1)) (hp : its? xs = some ds) (hl : xs.length ≤ sizeLine) : eLstX as r st = some (.ok (.xl ds), st1) := by
  show bnd (as r) _ st = _
  rw [bnd_at, ha]
  simp only [lft_at, if_pos hl, hp, Option.map_some]
theorem xRevT {a : EF} {r : Rho} {st st1 : Sto} {ds : List PyData} (ha : a r st = some (.ok (.d (.tuple ds)), st1)) : eRevT a r st = some (.ok (.d (.tuple ds.reverse)), st1) := by
  show bnd (a r) _ st = _
  rw [bnd_at, ha]
  simp only [lft_at, res_d]
/-- [x for x in xs if ..], none kept -/
theorem lc_none {it : IF} {g : GF} {t : TF} {e : EF} {vs : List Nat} {r : Rho} {st : Sto} {xs : List DV} (hi : it r st = some (.ok xs, st)) (hs : ∀ x ∈ xs, ∀ st : Sto, ∃ r1, g x (wipeR r vs) st = some r1 ∧ t r1 st = some (.ok false, st)) : eLc it g t e vs r st = some (.ok (.d (.list [])), st) := by
  have key : ∀ (xs : List DV) (st : Sto) (k : Nat), (∀ x ∈ xs, ∀ st : Sto, ∃ r1, g x (wipeR r vs) st = some r1 ∧ t r1 st = some (.ok false, st)) → lcL k g t e (wipeR r vs) xs st = some st := by
    intro xs
    induction xs with
    | nil => intro st k _; rfl
    | cons x xs ih =>
      intro st k h
      obtain ⟨r1, h1, h2⟩ := h x List.mem_cons_self st
      rw [lcNo h1 h2]
      exact ih st k fun y hy => h y (List.mem_cons_of_mem _ hy)
  exact eLc_run hi (key xs _ _ hs) rfl
theorem lay_intsI : ∀ l : List Int, PyData.canLayAll0 (l.map PyData.int) = true
  | [] => rfl
  | p :: ps => by
    rw [List.map_cons, PyData.canLayAll0, lay_intsI ps]
    rfl
theorem depth_intsI : ∀ l : List Int, PyData.depthAll (l.map PyData.int) ≤ 1
  | [] => by simp [PyData.depthAll]
  | p :: ps => by
    rw [List.map_cons, PyData.depthAll]
    have h2 := depth_intsI ps
    have h1 : (PyData.int p).depth ≤ 1 := by simp [PyData.depth]
    omega
theorem shaped_intsI (l : List Int) : SeqAt.shaped (.list (l.map .int)) = true := by
  have h := depth_intsI l
  unfold SeqAt.shaped
  rw [Bool.and_eq_true, decide_eq_true_eq]
  refine ⟨by rw [PyData.canLay0]; exact lay_intsI l, ?_⟩
  rw [PyData.depth]
  omega
theorem eq_nilI (l : List Int) (st : Sto) : oEq (.d (.list (l.map .int))) (.d (.list [])) st = some (.d (.bool l.isEmpty)) := by
  have h0 : SeqAt.shaped (.list []) = true := rfl
  simp only [oEq, res_d, shaped_intsI, h0, Bool.and_self, if_true]
  cases l <;> rfl
theorem eq_oneI (l : List Int) (f : Nat) (st : Sto) : oEq (.d (.list (l.map .int))) (.d (.list [.int f])) st = some (.d (.bool (decide (l = [(f : Int)])))) := by
  have h0 := shaped_intsI [(f : Int)]
  have h1 := shaped_intsI l
  simp only [List.map_cons, List.map_nil] at h0
  simp only [oEq, res_d, h0, h1, Bool.and_self, if_true]
  congr 3
  match l with
  | [] => rfl
  | [x] =>
    show (PyData.eqv (.int x) (.int f) && true) = _
    rw [Bool.eq_iff_iff]
    simp [PyData.eqv]
  | x :: y :: r =>
    show (PyData.eqv (.int x) (.int f) && false) = _
    rw [Bool.and_false]
    simp
theorem all_filtC (c : Int) (l : List Int) : (l.filter fun z => !(z == c)).isEmpty = l.all fun z => z == c := by
  induction l with
  | nil => rfl
  | cons a l ih =>
    rw [List.filter_cons, List.all_cons, ← ih]
    cases a == c <;> rfl
/-- [x for x in t if x != c] == [] -/
theorem due_c {l : List Int} {r : Rho} {i j : Nat} {c : Int} (hi : r[i]? = some (some (.d (.tuple (l.map .int))))) (hl : l.length ≤ 4000) (hj : j < r.length) (st : Sto) :
    eOp oEq (eLc (iSeq (eVar i)) (gV j) (tVal (eOp oNe (eVar j) (eC (.int c)))) (eVar j) [j]) (eLst (aNil)) r st = some (.ok (.d (.bool (l.all fun z => z == c))), st) := by
  have lc : eLc (iSeq (eVar i)) (gV j) (tVal (eOp oNe (eVar j) (eC (.int c)))) (eVar j) [j] r st = some (.ok (.d (.list ((l.filter fun z => !(z == c)).map .int))), st) := by
    refine eLc_filt l (fun z => .d (.int z)) PyData.int (fun z => !(z == c)) (zSeq (xVar hi) (by show some ((l.map PyData.int).map DV.d) = _; rw [List.map_map]; rfl)) (big hl) fun z hz st => ?_
    have wv : ((r.set j none).set j (some (DV.d (.int z))))[j]? = some (some (.d (.int z))) := by
      rw [List.getElem?_set_self (by simpa using hj)]
    exact ⟨_, rfl, xTVal (xOp (xVar wv) xC (ne_ints z c _)), xVar wv⟩
  have := xOp lc (xLst xNil rfl (Nat.zero_le _)) (eq_nilI _ st)
  rw [all_filtC] at this
  exact this
/-! ### numbers refused -/
theorem sp_bad {p : PyData} (h : ∀ st, F_is_number [.d p, .d (.int 0), .d (.int 100)] st = some (.ok (.d (.bool false)), st)) (st : Sto) : F_sparse_net [.d p] st = some (.er ⟨"BadNumber", []⟩, st) :=
  fEr rfl (yEr (yIfT (xTNot (i := false) (xTTru (xCall (xCons (xVar rfl) (xCons xC (xCons xC xNil))) (h _)) rfl)) (yEr rfl)))
end ML
end
section
/-! PL27: how often the two values of a told net are there: the arithmetic. -/
namespace ML
theorem sq_nn (d : Int) : 0 ≤ d * d := by
  rw [← Int.natAbs_mul_self' d]
  exact Int.mul_nonneg (Int.natCast_nonneg _) (Int.natCast_nonneg _)
theorem sq_lt {r s : Int} (hr : 0 ≤ r) (h : r < s) : r * r < s * s :=
  Int.lt_of_le_of_lt (Int.mul_le_mul_of_nonneg_left (Int.le_of_lt h) hr) (Int.mul_lt_mul_of_pos_right h (by omega))
theorem sq_inj {r s : Int} (hr : 0 ≤ r) (hs : 0 ≤ s) (h : r * r = s * s) : r = s := by
  rcases Int.lt_trichotomy r s with k | k | k
  · have := sq_lt hr k
    omega
  · exact k
  · have := sq_lt hs k
    omega
structure Four (n f a b : Int) : Prop where
  n3 : 3 ≤ n
  n4 : n ≤ 1000
  f1 : 1 ≤ f
  f2 : f ≤ n - 2
  a0 : 0 ≤ a
  a1 : a ≤ f - 1
  b0 : 0 ≤ b
  b1 : b ≤ f
def leanP (n f a b : Int) : Int := 2 * f + (n - 1) * (a - b)
def roomP (f a b : Int) : Int := (a - b) * (a - b) + 4 * (f - b)
/-- the least whole number, from r on, whose square is not less -/
def lstP (m : Int) : Nat → Int → Int
  | 0, r => r
  | k + 1, r => if r * r < m then lstP m k (r + 1) else r
def rootP (m : Int) : Option Int := if lstP m 1100 0 * lstP m 1100 0 = m then some (lstP m 1100 0) else none
def shP (n f a b : Int) : Option (Int × Int) :=
  if f * (f - a - 1) ≠ (n - f - 1) * b then none
  else if leanP n f a b = 0 then (if n.fmod 2 = 1 then some ((n - 1).fdiv 2, (n - 1).fdiv 2) else none)
  else match rootP (roomP f a b) with
    | none => none
    | some r =>
      if r = 0 ∨ (leanP n f a b).fmod r ≠ 0 ∨ (n - 1 - (leanP n f a b).fdiv r).fmod 2 ≠ 0 then none
      else if 0 ≤ (n - 1 - (leanP n f a b).fdiv r).fdiv 2 ∧ (n - 1 - (leanP n f a b).fdiv r).fdiv 2 ≤ n - 1 then some ((n - 1 - (leanP n f a b).fdiv r).fdiv 2, n - 1 - (n - 1 - (leanP n f a b).fdiv r).fdiv 2)
      else none
/-- t is a share, by the law's own rule -/
structure Share (n f a b t : Int) : Prop where
  rule : f * (f - a - 1) = (n - f - 1) * b
  lo : 0 ≤ t
  hi : t < n
  sq : leanP n f a b * leanP n f a b = (2 * t - n + 1) * (2 * t - n + 1) * roomP f a b
  sg : leanP n f a b * (2 * t - n + 1) ≤ 0
theorem lst_le {m : Int} : ∀ {k : Nat} {r s : Int}, r ≤ s → m ≤ s * s → (∀ x, r ≤ x → x < s → x * x < m) → s ≤ r + k → lstP m k r = s
  | 0, r, s, h1, _, _, h4 => by
    have : s = r := by
      have h4 : s ≤ r + 0 := h4
      omega
    rw [lstP, this]
  | k + 1, r, s, h1, h2, h3, h4 => by
    rw [lstP]
    by_cases e : r = s
    · rw [if_neg (by rw [e]; omega), e]
    · rw [if_pos (h3 r (Int.le_refl _) (by omega))]
      exact lst_le (by omega) h2 (fun x a b => h3 x (by omega) b) (by
        have h4 : s ≤ r + ((k + 1 : Nat) : Int) := h4
        rw [Int.natCast_add] at h4
        omega)
theorem root_some {m r : Int} (h : rootP m = some r) : r * r = m := by
  unfold rootP at h
  split at h
  · rename_i e
    cases h
    exact e
  · cases h
theorem lst_nn {m : Int} : ∀ {k : Nat} {r : Int}, 0 ≤ r → 0 ≤ lstP m k r
  | 0, r, h => h
  | k + 1, r, h => by
    rw [lstP]
    split
    · exact lst_nn (by omega)
    · exact h
theorem root_nn {m r : Int} (h : rootP m = some r) : 0 ≤ r := by
  unfold rootP at h
  split at h
  · cases h
    exact lst_nn (Int.le_refl _)
  · cases h
theorem root_of_sq {r : Int} (h : 0 ≤ r) (h2 : r ≤ 1100) : rootP (r * r) = some r := by
  have e : lstP (r * r) 1100 0 = r := lst_le h (Int.le_refl _) (fun x a b => sq_lt a b) (by omega)
  unfold rootP
  rw [e, if_pos rfl]
theorem room_pos {n f a b : Int} (F : Four n f a b) : 0 < roomP f a b := by
  have := sq_nn (a - b)
  obtain ⟨h1, h2, h3, h4, h5, h6, h7, h8⟩ := F
  unfold roomP
  by_cases e : b = f
  · have d : 0 < (a - b) * (a - b) := by
      have : (a - b) * (a - b) = (b - a) * (b - a) := by
        rw [← Int.neg_sub a b, Int.neg_mul_neg]
      rw [this]
      exact Int.mul_pos (by omega) (by omega)
    omega
  · omega
theorem sh_share {n f a b t u : Int} (F : Four n f a b) (h : shP n f a b = some (t, u)) : Share n f a b t ∧ u = n - 1 - t := by
  unfold shP at h
  split at h
  · cases h
  · rename_i rule
    have rule : f * (f - a - 1) = (n - f - 1) * b := Decidable.not_not.mp rule
    split at h
    · rename_i z
      split at h
      · rename_i odd
        rw [Int.fmod_eq_emod_of_nonneg _ (by decide)] at odd
        cases h
        rw [Int.fdiv_eq_ediv_of_nonneg _ (by decide)]
        have e : 2 * ((n - 1) / 2) - n + 1 = 0 := by omega
        have := F.n3
        refine ⟨⟨rule, by omega, by omega, ?_, ?_⟩, by omega⟩
        · rw [e, z]
          simp
        · rw [e, z]
          simp
      · cases h
    · rename_i nz
      split at h
      · cases h
      · rename_i r er
        split at h
        · cases h
        · rename_i c
          split at h
          · rename_i range
            have r0 := root_nn er
            have rr := root_some er
            have c1 : r ≠ 0 := fun e => c (.inl e)
            have c2 : (leanP n f a b).fmod r = 0 := Decidable.not_not.mp fun e => c (.inr (.inl e))
            have c3 : (n - 1 - (leanP n f a b).fdiv r).fmod 2 = 0 := Decidable.not_not.mp fun e => c (.inr (.inr e))
            rw [Int.fmod_eq_emod_of_nonneg _ r0] at c2
            rw [Int.fmod_eq_emod_of_nonneg _ (by decide)] at c3
            simp only [Int.fdiv_eq_ediv_of_nonneg _ r0, Int.fdiv_eq_ediv_of_nonneg _ (show (0 : Int) ≤ 2 by decide)] at h range c3
            have whole : r * (leanP n f a b / r) = leanP n f a b := Int.mul_ediv_cancel' (Int.dvd_of_emod_eq_zero c2)
            generalize hd : leanP n f a b / r = d at h range c3 whole
            cases h
            have step : 2 * ((n - 1 - d) / 2) - n + 1 = -d := by omega
            refine ⟨⟨rule, range.1, by omega, ?_, ?_⟩, rfl⟩
            · rw [step, ← rr, ← whole, Int.neg_mul_neg]
              simp only [Int.mul_comm, Int.mul_left_comm]
            · rw [step, ← whole, Int.mul_neg, Int.mul_assoc]
              have := Int.mul_nonneg r0 (sq_nn d)
              omega
          · cases h

theorem sq_le {d c : Int} (h1 : -c ≤ d) (h2 : d ≤ c) : d * d ≤ c * c := by
  rcases Int.le_total 0 d with k | k
  · exact Int.mul_le_mul h2 h2 k (Int.le_trans k h2)
  · rw [← Int.neg_mul_neg d d]
    exact Int.mul_le_mul (by omega) (by omega) (by omega) (by omega)
theorem room_le {n f a b : Int} (F : Four n f a b) : roomP f a b ≤ 1004000 := by
  obtain ⟨h1, h2, h3, h4, h5, h6, h7, h8⟩ := F
  have := sq_le (d := a - b) (c := 1000) (by omega) (by omega)
  unfold roomP
  omega
theorem share_sh {n f a b t : Int} (F : Four n f a b) (S : Share n f a b t) : shP n f a b = some (t, n - 1 - t) := by
  obtain ⟨rule, lo, hi, sq, sg⟩ := S
  have pos := room_pos F
  have big := room_le F
  unfold shP
  rw [if_neg fun h => h rule]
  generalize leanP n f a b = l at sq sg ⊢
  generalize hx : 2 * t - n + 1 = x at sq sg
  generalize roomP f a b = m at sq pos big ⊢
  by_cases z : l = 0
  · rw [if_pos z]
    have e : x = 0 := by
      rw [z] at sq
      have sq : x * x * m = 0 := by
        rw [← sq]
        rfl
      rcases Int.mul_eq_zero.mp sq with k | k
      · rcases Int.mul_eq_zero.mp k with k | k <;> exact k
      · omega
    rw [Int.fmod_eq_emod_of_nonneg _ (by decide), Int.fdiv_eq_ediv_of_nonneg _ (by decide), if_pos (by omega)]
    have : (n - 1) / 2 = t := by omega
    rw [this]
    exact congrArg some (Prod.ext rfl (show t = n - 1 - t by omega))
  · rw [if_neg z]
    have x0 : x ≠ 0 := fun e => by
      rw [e] at sq
      have sq : l * l = 0 := by
        rw [sq]
        simp
      rcases Int.mul_eq_zero.mp sq with k | k <;> exact z k
    have dvd : x ∣ l := by
      rw [← Int.pow_dvd_pow_iff (n := 2) (by decide)]
      refine ⟨m, ?_⟩
      rw [Int.pow_succ, Int.pow_succ, Int.pow_zero, Int.one_mul, Int.pow_succ, Int.pow_succ, Int.pow_zero, Int.one_mul]
      exact sq
    obtain ⟨q, rfl⟩ := dvd
    have qq : q * q = m := by
      have e : x * x * (q * q) = x * x * m := by
        rw [← sq]
        simp only [Int.mul_comm, Int.mul_left_comm, Int.mul_assoc]
      exact Int.eq_of_mul_eq_mul_left (fun k => by rcases Int.mul_eq_zero.mp k with k | k <;> exact x0 k) e
    have neg : q < 0 := by
      rcases Int.lt_trichotomy q 0 with k | k | k
      · exact k
      · rw [k] at z
        simp at z
      · exfalso
        have e : x * q * x = q * (x * x) := by simp only [Int.mul_comm, Int.mul_left_comm]
        rw [e] at sg
        have xx : 0 < x * x := by
          have := sq_nn x
          have : x * x ≠ 0 := fun k => by rcases Int.mul_eq_zero.mp k with k | k <;> exact x0 k
          omega
        have := Int.mul_pos k xx
        omega
    have er : rootP m = some (-q) := by
      rw [← qq, ← Int.neg_mul_neg]
      refine root_of_sq (by omega) ?_
      rcases Int.lt_or_le 1100 (-q) with k | k
      · have := sq_lt (r := 1100) (s := -q) (by decide) k
        rw [Int.neg_mul_neg] at this
        omega
      · exact k
    rw [er]
    have l1 : (x * q).fmod (-q) = 0 := by
      rw [Int.fmod_eq_emod_of_nonneg _ (by omega), ← Int.neg_mul_neg]
      exact Int.mul_emod_left _ _
    have l2 : (x * q).fdiv (-q) = -x := by
      rw [Int.fdiv_eq_ediv_of_nonneg _ (by omega), ← Int.neg_mul_neg]
      exact Int.mul_ediv_cancel _ (by omega)
    dsimp only
    rw [l1, l2, Int.fmod_eq_emod_of_nonneg _ (by decide), Int.fdiv_eq_ediv_of_nonneg _ (by decide)]
    have th : (n - 1 - -x) / 2 = t := by omega
    rw [th, if_neg (by omega), if_pos (by omega)]
theorem four_rest {n f a b : Int} (F : Four n f a b) (s1 : 0 ≤ n - 2 - 2 * f + b) (s2 : n - 2 - 2 * f + b < n - 1 - f) (s3 : 0 ≤ n - 2 * f + a) (s4 : n - 2 * f + a ≤ n - 1 - f) : Four n (n - 1 - f) (n - 2 - 2 * f + b) (n - 2 * f + a) := by
  obtain ⟨h1, h2, h3, h4, h5, h6, h7, h8⟩ := F
  exact ⟨h1, h2, by omega, by omega, s1, by omega, s3, s4⟩
theorem share_rest {n f a b t : Int} (S : Share n f a b t) : Share n (n - 1 - f) (n - 2 - 2 * f + b) (n - 2 * f + a) (n - 1 - t) := by
  obtain ⟨rule, lo, hi, sq, sg⟩ := S
  have e1 : leanP n (n - 1 - f) (n - 2 - 2 * f + b) (n - 2 * f + a) = -leanP n f a b := by
    unfold leanP
    grind
  have e2 : roomP (n - 1 - f) (n - 2 - 2 * f + b) (n - 2 * f + a) = roomP f a b := by
    unfold roomP
    grind
  have e3 : 2 * (n - 1 - t) - n + 1 = -(2 * t - n + 1) := by omega
  refine ⟨by grind, by omega, by omega, ?_, ?_⟩
  · rw [e1, e2, e3, Int.neg_mul_neg, Int.neg_mul_neg]
    exact sq
  · rw [e1, e3, Int.neg_mul_neg]
    exact sg
end ML
end
section
/-! PL28: shares, may_be_told, rest_told: their mirrors. -/
namespace ML
open PySem DL
section
variable {a b c : EF} {r : Rho} {st : Sto} {i j : Int}
/-- an expression's value is a whole number -/
abbrev EvI (a : EF) (r : Rho) (st : Sto) (i : Int) : Prop := a r st = some (.ok (.d (.int i)), st)
theorem evV {k : Nat} (h : r[k]? = some (some (.d (.int i)))) : EvI (eVar k) r st i := xVar h
theorem evC : EvI (eC (.int i)) r st i := xC
theorem evAdd (ha : EvI a r st i) (hb : EvI b r st j) : EvI (eOp oAdd a b) r st (i + j) := xOp ha hb (oAdd_ii st i j)
theorem evSub (ha : EvI a r st i) (hb : EvI b r st j) : EvI (eOp oSub a b) r st (i - j) := xOp ha hb (oSub_ii st i j)
theorem evMul (ha : EvI a r st i) (hb : EvI b r st j) (h : -1000000000 < i ∧ i < 1000000000) : EvI (eOp oMul a b) r st (i * j) := xOp ha hb (oMul_ii st (.inl (by omega)))
theorem evMul2 (ha : EvI a r st i) (hb : EvI b r st j) (h : -1000000000 < j ∧ j < 1000000000) : EvI (eOp oMul a b) r st (i * j) := xOp ha hb (oMul_ii st (.inr (by omega)))
theorem evMod (ha : EvI a r st i) (hb : EvI b r st j) (h : j ≠ 0) : EvI (eOp oMod a b) r st (i.fmod j) := xOp ha hb (oMod_ii st h)
theorem evDiv (ha : EvI a r st i) (hb : EvI b r st j) (h : j ≠ 0 ∧ j.natAbs < 1073741824) : EvI (eOp oFdiv a b) r st (i.fdiv j) := xOp ha hb (oFdiv_ii st h)
theorem evEq (ha : EvI a r st i) (hb : EvI b r st j) : tVal (eOp oEq a b) r st = some (.ok (i == j), st) := xTVal (xOp ha hb (eq_ints i j st))
theorem evNe (ha : EvI a r st i) (hb : EvI b r st j) : tVal (eOp oNe a b) r st = some (.ok (!(i == j)), st) := xTVal (xOp ha hb (ne_ints i j st))
theorem evLt (ha : EvI a r st i) (hb : EvI b r st j) : tVal (eOp oLt a b) r st = some (.ok (decide (i < j)), st) := xTVal (xOp ha hb (oLt_ii st i j))
theorem evTru (ha : EvI a r st i) : tTru a r st = some (.ok (!(i == 0)), st) := xTTru ha (by rfl)
end
theorem need_four_ok {n f a b : Int} (F : Four n f a b) (st : Sto) : F_need_four [.d (.int n), .d (.int f), .d (.int a), .d (.int b)] st = some (.ok (.d .none), st) := by
  obtain ⟨h1, h2, h3, h4, h5, h6, h7, h8⟩ := F
  have num : ∀ {v lo hi : Int} {x y z : EF} {r : Rho}, EvI x r st v → EvI y r st lo → EvI z r st hi → lo ≤ v → v ≤ hi → DL.tNot (tTru (eCall F_is_number (aCons x (aCons y (aCons z aNil))))) r st = some (.ok false, st) :=
    fun ex ey ez l1 l2 => xTNot (i := true) (xTTru (xCall (xCons ex (xCons ey (xCons ez xNil))) (num_ok l1 l2 st)) rfl)
  refine fNx rfl (yNx (yIfF (num (evV rfl) evC evC h1 h2) yEnd) (yNx (yIfF (num (evV rfl) evC (evSub (evV rfl) evC) h3 h4) yEnd) (yNx (yIfF (xTOrF (num (evV rfl) evC (evSub (evV rfl) evC) h5 h6) (num (evV rfl) evC (evV rfl) h7 h8)) yEnd) yEnd)))
theorem root_run {m : Int} {st : Sto} : ∀ (k fu : Nat) (r : Int), k < fu → 0 ≤ r → r + k ≤ 100000 → m ≤ (r + k) * (r + k) →
    whileL (tVal (eOp oLt (eOp oMul (eVar 1) (eVar 1)) (eVar 0))) (sSeq (sAug 1 (fun a b => a + b) cAll (eC (.int 1))) (sNx)) fu [some (.d (.int m)), some (.d (.int r))] st = some (.fl .nx [some (.d (.int m)), some (.d (.int (lstP m k r)))], st) := by
  intro k
  induction k with
  | zero =>
    intro fu r h1 h2 h3 h4
    obtain ⟨fu, rfl⟩ : ∃ n, fu = n + 1 := ⟨fu - 1, by omega⟩
    have no : decide (r * r < m) = false := decide_eq_false (by
      have h4 : m ≤ (r + 0) * (r + 0) := h4
      rw [Int.add_zero] at h4
      omega)
    have t := evLt (st := st) (evMul (evV (k := 1) (r := [some (.d (.int m)), some (.d (.int r))]) (i := r) rfl) (evV (k := 1) rfl) (by omega)) (evV (k := 0) (i := m) rfl)
    rw [no] at t
    exact wEnd t
  | succ k ih =>
    intro fu r h1 h2 h3 h4
    obtain ⟨fu, rfl⟩ : ∃ n, fu = n + 1 := ⟨fu - 1, by omega⟩
    have t := evLt (st := st) (evMul (evV (k := 1) (r := [some (.d (.int m)), some (.d (.int r))]) (i := r) rfl) (evV (k := 1) rfl) (by omega)) (evV (k := 0) (i := m) rfl)
    rw [lstP]
    by_cases h : r * r < m
    · rw [decide_eq_true h] at t
      rw [if_pos h]
      have e : r + 1 + (k : Int) = r + ((k + 1 : Nat) : Int) := by omega
      have body : sSeq (sAug 1 (fun a b => a + b) cAll (eC (.int 1))) sNx [some (.d (.int m)), some (.d (.int r))] st = some (.fl .nx [some (.d (.int m)), some (.d (.int (r + 1)))], st) := rfl
      rw [wStep t body]
      exact ih fu (r + 1) (by omega) (by omega) (by omega) (by rw [e]; exact h4)
    · rw [decide_eq_false h] at t
      rw [if_neg h]
      exact wEnd t
theorem lst_ub {m : Int} : ∀ {k : Nat} {r : Int}, lstP m k r ≤ r + k
  | 0, r => Int.le_of_eq (Int.add_zero r).symm
  | k + 1, r => by
    rw [lstP]
    split
    · have := lst_ub (m := m) (k := k) (r := r + 1)
      omega
    · omega
def rootD (m : Int) : PyData := match rootP m with
  | some r => .int r
  | none => .none
theorem root_of_ok {m : Int} (h : m ≤ 1004000) (st : Sto) : F_root_of [.d (.int m)] st = some (.ok (.d (rootD m)), st) := by
  have run := root_run (m := m) (st := st) 1100 fuel 0 (by decide) (by decide) (by decide) (by omega)
  refine fRt rfl (yNx (ySet xC) (yNx run (yRt (yRet ?_)))) rfl
  have nn := lst_nn (m := m) (k := 1100) (r := 0) (by decide)
  have t := evEq (st := st) (evMul (evV (k := 1) (r := [some (.d (.int m)), some (.d (.int (lstP m 1100 0)))]) (i := lstP m 1100 0) rfl) (evV (k := 1) rfl) (by
    have := lst_ub (m := m) (k := 1100) (r := 0)
    omega)) (evV (k := 0) (i := m) rfl)
  unfold rootD rootP
  by_cases e : lstP m 1100 0 * lstP m 1100 0 = m
  · rw [if_pos e]
    rw [show (lstP m 1100 0 * lstP m 1100 0 == m) = true from beq_iff_eq.mpr e] at t
    exact xIfT t (xVar rfl)
  · rw [if_neg e]
    rw [show (lstP m 1100 0 * lstP m 1100 0 == m) = false from beq_eq_false_iff_ne.mpr e] at t
    exact xIfF t xC

def shD : Option (Int × Int) → PyData
  | none => .none
  | some (t, u) => .tuple [.int t, .int u]
abbrev rS (n f a b : Int) (x y z : Option DV) : Rho := [some (.d (.int n)), some (.d (.int f)), some (.d (.int a)), some (.d (.int b)), x, y, z]
theorem pairE {r : Rho} {st : Sto} {x y : EF} {i j : Int} (hx : EvI x r st i) (hy : EvI y r st j) : eTup (aCons x (aCons y aNil)) r st = some (.ok (.d (.tuple [.int i, .int j])), st) :=
  xTup (xCons hx (xCons hy xNil)) rfl (show 2 ≤ sizeLine by decide)
theorem shares_of_ok {n f a b : Int} (F : Four n f a b) (st : Sto) : F_shares_of [.d (.int n), .d (.int f), .d (.int a), .d (.int b)] st = some (.ok (.d (shD (shP n f a b))), st) := by
  have room := room_le F
  have pos := room_pos F
  obtain ⟨h1, h2, h3, h4, h5, h6, h7, h8⟩ := F
  have t1 := evNe (r := rS n f a b none none none) (st := st) (evMul (evV (k := 1) (i := f) rfl) (evSub (evSub (evV (k := 1) (i := f) rfl) (evV (k := 2) (i := a) rfl)) (evC (i := 1))) (by omega)) (evMul2 (evSub (evSub (evV (k := 0) (i := n) rfl) (evV (k := 1) (i := f) rfl)) (evC (i := 1))) (evV (k := 3) (i := b) rfl) (by omega))
  unfold shP
  by_cases rule : f * (f - a - 1) = (n - f - 1) * b
  · rw [if_neg fun h => h rule]
    rw [show (!(f * (f - a - 1) == (n - f - 1) * b)) = false by rw [beq_iff_eq.mpr rule]; rfl] at t1
    have e4 : EvI (eOp oAdd (eOp oMul (eC (.int 2)) (eVar 1)) (eOp oMul (eOp oSub (eVar 0) (eC (.int 1))) (eOp oSub (eVar 2) (eVar 3)))) (rS n f a b none none none) st (leanP n f a b) :=
      evAdd (evMul evC (evV rfl) (by omega)) (evMul (evSub (evV rfl) evC) (evSub (evV rfl) (evV rfl)) (by omega))
    have lb : -2000000 ≤ leanP n f a b ∧ leanP n f a b ≤ 2000000 := by
      have k1 : (n - 1) * (a - b) ≤ 1000 * 1000 := by
        rcases Int.le_total 0 (a - b) with k | k
        · exact Int.mul_le_mul (by omega) (by omega) k (by omega)
        · have : (n - 1) * (a - b) ≤ 0 := Int.mul_nonpos_of_nonneg_of_nonpos (by omega) k
          omega
      have k2 : (n - 1) * (b - a) ≤ 1000 * 1000 := by
        rcases Int.le_total 0 (b - a) with k | k
        · exact Int.mul_le_mul (by omega) (by omega) k (by omega)
        · have : (n - 1) * (b - a) ≤ 0 := Int.mul_nonpos_of_nonneg_of_nonpos (by omega) k
          omega
      have k3 : (n - 1) * (b - a) = -((n - 1) * (a - b)) := by
        rw [← Int.mul_neg, Int.neg_sub]
      unfold leanP
      omega
    have e5 : EvI (eOp oAdd (eOp oMul (eOp oSub (eVar 2) (eVar 3)) (eOp oSub (eVar 2) (eVar 3))) (eOp oMul (eC (.int 4)) (eOp oSub (eVar 1) (eVar 3)))) (rS n f a b (some (.d (.int (leanP n f a b)))) none none) st (roomP f a b) :=
      evAdd (evMul (evSub (evV rfl) (evV rfl)) (evSub (evV rfl) (evV rfl)) (by omega)) (evMul evC (evSub (evV rfl) (evV rfl)) (by omega))
    generalize leanP n f a b = l at e4 e5 lb ⊢
    generalize roomP f a b = m at e5 room pos ⊢
    have t2 := evEq (r := rS n f a b (some (.d (.int l))) none none) (st := st) (evV (k := 4) (i := l) rfl) (evC (i := 0))
    by_cases z : l = 0
    · rw [if_pos z]
      rw [show (l == 0) = true from beq_iff_eq.mpr z] at t2
      have t3 := evEq (r := rS n f a b (some (.d (.int l))) none none) (st := st) (evMod (evV (k := 0) (i := n) rfl) (evC (i := 2)) (by decide)) (evC (i := 1))
      by_cases odd : n.fmod 2 = 1
      · rw [if_pos odd]
        rw [show (n.fmod 2 == 1) = true from beq_iff_eq.mpr odd] at t3
        exact fRt rfl (yNx (yIfF t1 yEnd) (yNx (ySet e4) (yRt (yIfT t2 (yRt (yRet (xIfT t3 (pairE (evDiv (evSub (evV rfl) evC) evC (by decide)) (evDiv (evSub (evV rfl) evC) evC (by decide)))))))))) rfl
      · rw [if_neg odd]
        rw [show (n.fmod 2 == 1) = false from beq_eq_false_iff_ne.mpr odd] at t3
        exact fRt rfl (yNx (yIfF t1 yEnd) (yNx (ySet e4) (yRt (yIfT t2 (yRt (yRet (xIfF t3 xC))))))) rfl
    · rw [if_neg z]
      rw [show (l == 0) = false from beq_eq_false_iff_ne.mpr z] at t2
      have rt := root_of_ok (m := m) room st
      have set5 := ySet (i := 5) (xCall (F := F_root_of) (xCons e5 xNil) rt)
      cases er : rootP m with
      | none =>
        have ed : rootD m = .none := by
          unfold rootD
          rw [er]
        rw [ed] at set5
        exact fRt rfl (yNx (yIfF t1 yEnd) (yNx (ySet e4) (yNx (yIfF t2 yEnd) (yNx set5 (yRt (yIfT (xTOrT (xTVal (i := true) (xOp (xVar rfl) xC rfl))) (yRt (yRet xC)))))))) rfl
      | some r =>
        have ed : rootD m = .int r := by
          unfold rootD
          rw [er]
        rw [ed] at set5
        have r0 := root_nn er
        have rr := root_some er
        have rb : r ≤ 1100 := by
          rcases Int.lt_or_le 1100 r with k | k
          · have := sq_lt (r := 1100) (s := r) (by decide) k
            omega
          · exact k
        have rne : r ≠ 0 := fun e => by
          rw [e] at rr
          omega
        have u1 : tVal (eOp oIsN (eVar 5) (eC .none)) (rS n f a b (some (.d (.int l))) (some (.d (.int r))) none) st = some (.ok false, st) := xTVal (xOp (xVar rfl) xC rfl)
        have u2 := evEq (r := rS n f a b (some (.d (.int l))) (some (.d (.int r))) none) (st := st) (evV (k := 5) (i := r) rfl) (evC (i := 0))
        rw [show (r == 0) = false from beq_eq_false_iff_ne.mpr rne] at u2
        have u3 := evTru (r := rS n f a b (some (.d (.int l))) (some (.d (.int r))) none) (st := st) (evMod (evV (k := 4) (i := l) rfl) (evV (k := 5) (i := r) rfl) rne)
        have v1 : EvI (eOp oSub (eOp oSub (eVar 0) (eC (.int 1))) (eOp oFdiv (eVar 4) (eVar 5))) (rS n f a b (some (.d (.int l))) (some (.d (.int r))) none) st (n - 1 - l.fdiv r) := evSub (evSub (evV rfl) evC) (evDiv (evV rfl) (evV rfl) ⟨rne, by omega⟩)
        have u4 := evTru (evMod v1 (evC (i := 2)) (by decide))
        dsimp only
        by_cases c1 : l.fmod r = 0
        · rw [show (!(l.fmod r == 0)) = false by rw [beq_iff_eq.mpr c1]; rfl] at u3
          by_cases c2 : (n - 1 - l.fdiv r).fmod 2 = 0
          · rw [show (!((n - 1 - l.fdiv r).fmod 2 == 0)) = false by rw [beq_iff_eq.mpr c2]; rfl] at u4
            rw [if_neg (by simp [rne, c1, c2])]
            have e6 := evDiv v1 (evC (i := 2)) (by decide)
            have fin : ∀ v, eIf (tVal (eChain oLe oLe (eC (.int 0)) (eVar 6) (eOp oSub (eVar 0) (eC (.int 1))))) (eTup (aCons (eVar 6) (aCons (eOp oSub (eOp oSub (eVar 0) (eC (.int 1))) (eVar 6)) (aNil)))) (eC .none) (rS n f a b (some (.d (.int l))) (some (.d (.int r))) (some (.d (.int ((n - 1 - l.fdiv r).fdiv 2))))) st = some (.ok (.d v), st) →
                F_shares_of [.d (.int n), .d (.int f), .d (.int a), .d (.int b)] st = some (.ok (.d v), st) := fun v h =>
              fRt rfl (yNx (yIfF t1 yEnd) (yNx (ySet e4) (yNx (yIfF t2 yEnd) (yNx set5 (yNx (yIfF (xTOrF u1 (xTOrF u2 (xTOrF u3 u4))) yEnd) (yNx (ySet e6) (yRt (yRet h)))))))) rfl
            generalize (n - 1 - l.fdiv r).fdiv 2 = t at fin ⊢
            refine fin _ ?_
            have le1 := oLe_ii st 0 t
            have le2 := oLe_ii st t (n - 1)
            by_cases g1 : 0 ≤ t
            · rw [decide_eq_true g1] at le1
              by_cases g2 : t ≤ n - 1
              · rw [decide_eq_true g2] at le2
                rw [if_pos ⟨g1, g2⟩]
                exact xIfT (xTVal (xChainT xC (xVar rfl) le1 (evSub (evV rfl) evC) le2)) (pairE (evV rfl) (evSub (evSub (evV rfl) evC) (evV rfl)))
              · rw [decide_eq_false g2] at le2
                rw [if_neg fun k => g2 k.2]
                exact xIfF (xTVal (xChainT xC (xVar rfl) le1 (evSub (evV rfl) evC) le2)) xC
            · rw [decide_eq_false g1] at le1
              rw [if_neg fun k => g1 k.1]
              exact xIfF (xTVal (xChainF xC (xVar rfl) le1)) xC
          · rw [show (!((n - 1 - l.fdiv r).fmod 2 == 0)) = true by rw [beq_eq_false_iff_ne.mpr c2]; rfl] at u4
            rw [if_pos (.inr (.inr c2))]
            exact fRt rfl (yNx (yIfF t1 yEnd) (yNx (ySet e4) (yNx (yIfF t2 yEnd) (yNx set5 (yRt (yIfT (xTOrF u1 (xTOrF u2 (xTOrF u3 u4))) (yRt (yRet xC)))))))) rfl
        · rw [show (!(l.fmod r == 0)) = true by rw [beq_eq_false_iff_ne.mpr c1]; rfl] at u3
          rw [if_pos (.inr (.inl c1))]
          exact fRt rfl (yNx (yIfF t1 yEnd) (yNx (ySet e4) (yNx (yIfF t2 yEnd) (yNx set5 (yRt (yIfT (xTOrF u1 (xTOrF u2 (xTOrT u3))) (yRt (yRet xC)))))))) rfl
  · rw [if_pos rule]
    rw [show (!(f * (f - a - 1) == (n - f - 1) * b)) = true by rw [beq_eq_false_iff_ne.mpr rule]; rfl] at t1
    exact fRt rfl (yRt (yIfT t1 (yRt (yRet xC)))) rfl
end ML
end
section
/-! PL29: the law's own search for shares. -/
namespace ML
open PySem DL
theorem oEq_ii (i j : Int) (st : Sto) : oEq (.d (.int i)) (.d (.int j)) st = some (.d (.bool (i == j))) := eq_ints i j st
abbrev R6 (v0 v2 : Option DV) (n f a b : Int) (v7 v8 : Option DV) (l m : Int) (k : Nat) (v12 v13 v14 v15 v16 v17 v18 v19 v20 v21 : Option DV) : Rho :=
  [v0, some (.mu 0), v2, some (.d (.int n)), some (.d (.int f)), some (.d (.int a)), some (.d (.int b)), v7, v8, some (.d (.int l)), some (.d (.int m)), some (.mu k), v12, v13, v14, v15, v16, v17, v18, v19, v20, v21]
abbrev dueB : SF := sSeq (sSet 13 (eOp oAdd (eOp oSub (eOp oMul (eC (.int 2)) (eVar 12)) (eVar 3)) (eC (.int 1)))) (sSeq (sIf (DL.tAnd (tVal (eOp oEq (eOp oMul (eVar 9) (eVar 9)) (eOp oMul (eOp oMul (eVar 13) (eVar 13)) (eVar 10)))) (tVal (eOp oLe (eOp oMul (eVar 9) (eVar 13)) (eC (.int 0))))) (sSeq (sExpr (eApp (eVar 11) (eTup (aCons (eVar 12) (aCons (eOp oSub (eOp oSub (eVar 3) (eC (.int 1))) (eVar 12)) (aNil)))))) (sNx)) (sNx)) (sNx))
def dueT (n l m : Int) (t : Nat) : Bool := l * l == (2 * (t : Int) - n + 1) * (2 * (t : Int) - n + 1) * m && decide (l * (2 * (t : Int) - n + 1) ≤ 0)
def dueP (n : Int) (t : Nat) : PyData := .tuple [.int t, .int (n - 1 - t)]
theorem set_same {st : Sto} {k : Nat} {c : Ct} (h : st[k]? = some c) : st.set k c = st := by
  obtain ⟨hk, e⟩ := List.getElem?_eq_some_iff.mp h
  rw [← e]
  exact List.set_getElem_self hk
theorem due_loop {v0 v2 v7 v8 v14 v15 v16 v17 v18 v19 v20 v21 : Option DV} {n f a b l m : Int} {k : Nat} (hn : 0 ≤ n ∧ n ≤ 1000) (hl : -2000000 ≤ l ∧ l ≤ 2000000) (hm : -2000000 ≤ m ∧ m ≤ 2000000) :
    ∀ (ts : List Nat) (v12 v13 : Option DV) (acc : List PyData) (st : Sto), st[k]? = some (.lst acc) → acc.length + ts.length ≤ 4000 → (∀ t ∈ ts, t < 1000) →
    ∃ w12 w13, forL (gV 12) dueB (ts.map fun (t : Nat) => .d (.int ((0 : Int) + (t : Int)))) (R6 v0 v2 n f a b v7 v8 l m k v12 v13 v14 v15 v16 v17 v18 v19 v20 v21) st =
      some (.fl .nx (R6 v0 v2 n f a b v7 v8 l m k w12 w13 v14 v15 v16 v17 v18 v19 v20 v21), st.set k (.lst (acc ++ (ts.filter (dueT n l m)).map (dueP n)))) := by
  intro ts
  induction ts with
  | nil =>
    intro v12 v13 acc st h _ _
    refine ⟨v12, v13, ?_⟩
    simp only [List.filter_nil, List.map_nil, List.append_nil]
    rw [set_same h]
    rfl
  | cons t ts ih =>
    intro v12 v13 acc st h hz ht
    have t0 := ht t List.mem_cons_self
    rw [List.length_cons] at hz
    have set13 := ySet (i := 13) (evAdd (evSub (evMul (r := R6 v0 v2 n f a b v7 v8 l m k (some (.d (.int (0 + (t : Int))))) v13 v14 v15 v16 v17 v18 v19 v20 v21) (st := st) (evC (i := 2)) (evV (k := 12) (i := 0 + (t : Int)) rfl) (by omega)) (evV (k := 3) (i := n) rfl)) (evC (i := 1)))
    rw [Int.zero_add] at set13
    have c1 := evEq (r := R6 v0 v2 n f a b v7 v8 l m k (some (.d (.int (t : Int)))) (some (.d (.int (2 * (t : Int) - n + 1)))) v14 v15 v16 v17 v18 v19 v20 v21) (st := st) (evMul (evV (k := 9) (i := l) rfl) (evV (k := 9) (i := l) rfl) (by omega))
      (evMul2 (evMul (evV (k := 13) (i := 2 * (t : Int) - n + 1) rfl) (evV (k := 13) (i := 2 * (t : Int) - n + 1) rfl) (by omega)) (evV (k := 10) (i := m) rfl) (by omega))
    have c2 : tVal (eOp oLe (eOp oMul (eVar 9) (eVar 13)) (eC (.int 0))) (R6 v0 v2 n f a b v7 v8 l m k (some (.d (.int (t : Int)))) (some (.d (.int (2 * (t : Int) - n + 1)))) v14 v15 v16 v17 v18 v19 v20 v21) st = some (.ok (decide (l * (2 * (t : Int) - n + 1) ≤ 0)), st) :=
      xTVal (xOp (evMul (evV (k := 9) (i := l) rfl) (evV (k := 13) (i := 2 * (t : Int) - n + 1) rfl) (by omega)) xC (oLe_ii st _ _))
    rw [List.map_cons, Int.zero_add]
    cases hd : dueT n l m t with
    | true =>
      rw [List.filter_cons_of_pos hd, List.map_cons]
      unfold dueT at hd
      simp only [Bool.and_eq_true] at hd
      rw [hd.1] at c1
      rw [hd.2] at c2
      have app := xApp (a := eVar 11) (r := R6 v0 v2 n f a b v7 v8 l m k (some (.d (.int (t : Int)))) (some (.d (.int (2 * (t : Int) - n + 1)))) v14 v15 v16 v17 v18 v19 v20 v21) (st := st) (xVar rfl) h (pairE (evV (k := 12) (i := (t : Int)) rfl) (evSub (evSub (evV (k := 3) (i := n) rfl) (evC (i := 1))) (evV (k := 12) (i := (t : Int)) rfl))) h (by
        have : 4000 ≤ sizeLine := by decide
        omega)
      have body : dueB (R6 v0 v2 n f a b v7 v8 l m k (some (.d (.int (t : Int)))) v13 v14 v15 v16 v17 v18 v19 v20 v21) st = some (.fl .nx (R6 v0 v2 n f a b v7 v8 l m k (some (.d (.int (t : Int)))) (some (.d (.int (2 * (t : Int) - n + 1)))) v14 v15 v16 v17 v18 v19 v20 v21), st.set k (.lst (acc ++ [dueP n t]))) := yNx set13 (yNx (yIfT (xTAndT c1 c2) (yNx (yExpr app) yEnd)) yEnd)
      have at2 : (st.set k (.lst (acc ++ [dueP n t])))[k]? = some (.lst (acc ++ [dueP n t])) := List.getElem?_set_self (List.getElem?_eq_some_iff.mp h).1
      obtain ⟨w12, w13, e⟩ := ih (some (.d (.int (t : Int)))) (some (.d (.int (2 * (t : Int) - n + 1)))) (acc ++ [dueP n t]) (st.set k (.lst (acc ++ [dueP n t]))) at2 (by rw [List.length_append]; show acc.length + 1 + ts.length ≤ 4000; omega) fun s hs => ht s (List.mem_cons_of_mem _ hs)
      refine ⟨w12, w13, ?_⟩
      rw [forL_nx (r1 := R6 v0 v2 n f a b v7 v8 l m k (some (.d (.int (t : Int)))) v13 v14 v15 v16 v17 v18 v19 v20 v21) rfl body]
      rw [show acc ++ dueP n t :: List.map (dueP n) (ts.filter (dueT n l m)) = (acc ++ [dueP n t]) ++ List.map (dueP n) (ts.filter (dueT n l m)) by simp]
      rw [List.set_set] at e
      exact e
    | false =>
      rw [List.filter_cons_of_neg (by rw [hd]; decide)]
      have skip : DL.tAnd (tVal (eOp oEq (eOp oMul (eVar 9) (eVar 9)) (eOp oMul (eOp oMul (eVar 13) (eVar 13)) (eVar 10)))) (tVal (eOp oLe (eOp oMul (eVar 9) (eVar 13)) (eC (.int 0)))) (R6 v0 v2 n f a b v7 v8 l m k (some (.d (.int (t : Int)))) (some (.d (.int (2 * (t : Int) - n + 1)))) v14 v15 v16 v17 v18 v19 v20 v21) st = some (.ok false, st) := by
        unfold dueT at hd
        cases h1 : (l * l == (2 * (t : Int) - n + 1) * (2 * (t : Int) - n + 1) * m) with
        | true =>
          rw [h1, Bool.true_and] at hd
          rw [h1] at c1
          rw [hd] at c2
          exact xTAndT c1 c2
        | false =>
          rw [h1] at c1
          exact xTAndF c1
      have body : dueB (R6 v0 v2 n f a b v7 v8 l m k (some (.d (.int (t : Int)))) v13 v14 v15 v16 v17 v18 v19 v20 v21) st = some (.fl .nx (R6 v0 v2 n f a b v7 v8 l m k (some (.d (.int (t : Int)))) (some (.d (.int (2 * (t : Int) - n + 1)))) v14 v15 v16 v17 v18 v19 v20 v21), st) := yNx set13 (yNx (yIfF skip yEnd) yEnd)
      obtain ⟨w12, w13, e⟩ := ih (some (.d (.int (t : Int)))) (some (.d (.int (2 * (t : Int) - n + 1)))) acc st h (by omega) fun s hs => ht s (List.mem_cons_of_mem _ hs)
      refine ⟨w12, w13, ?_⟩
      rw [forL_nx (r1 := R6 v0 v2 n f a b v7 v8 l m k (some (.d (.int (t : Int)))) v13 v14 v15 v16 v17 v18 v19 v20 v21) rfl body]
      exact e
end ML
end
section
/-! PL30: one turn of the law of shares. -/
namespace ML
open PySem DL
/-- the list of what shares tells -/
def shL : Option (Int × Int) → List PyData
  | none => []
  | some (t, u) => [.tuple [.int t, .int u]]
theorem filter_one {N t : Nat} {p : Nat → Bool} (ht : t < N) (hp : p t = true) (un : ∀ s < N, p s = true → s = t) : (List.range N).filter p = [t] := by
  have nd : ((List.range N).filter p).Nodup := List.Nodup.sublist List.filter_sublist List.nodup_range
  have mem : t ∈ (List.range N).filter p := List.mem_filter.mpr ⟨List.mem_range.mpr ht, hp⟩
  have all : ∀ s ∈ (List.range N).filter p, s = t := fun s hs => un s (List.mem_range.mp (List.mem_filter.mp hs).1) (List.mem_filter.mp hs).2
  generalize (List.range N).filter p = l at nd mem all
  match l with
  | [] => cases mem
  | [x] => rw [all x List.mem_cons_self]
  | x :: y :: l =>
    have e1 := all x List.mem_cons_self
    have e2 := all y (List.mem_cons_of_mem _ List.mem_cons_self)
    rw [e1, e2] at nd
    exact ((List.nodup_cons.mp nd).1 List.mem_cons_self).elim
theorem dueT_iff {n f a b : Int} (rule : f * (f - a - 1) = (n - f - 1) * b) {s : Nat} (hs : (s : Int) < n) : dueT n (leanP n f a b) (roomP f a b) s = true ↔ Share n f a b s := by
  unfold dueT
  rw [Bool.and_eq_true, beq_iff_eq, decide_eq_true_eq]
  exact ⟨fun h => ⟨rule, Int.natCast_nonneg s, hs, h.1, h.2⟩, fun h => ⟨h.sq, h.sg⟩⟩
theorem dues {N : Nat} {f a b : Int} (F : Four N f a b) (rule : f * (f - a - 1) = ((N : Int) - f - 1) * b) : ((List.range N).filter (dueT N (leanP N f a b) (roomP f a b))).map (dueP N) = shL (shP N f a b) := by
  cases e : shP N f a b with
  | none =>
    rw [List.filter_eq_nil_iff.mpr fun s hs h => ?_]
    · rfl
    · have := share_sh F ((dueT_iff rule (Int.ofNat_lt.mpr (List.mem_range.mp hs))).mp h)
      rw [e] at this
      cases this
  | some z =>
    obtain ⟨t, u⟩ := z
    obtain ⟨S, eu⟩ := sh_share F e
    obtain ⟨s, rfl⟩ : ∃ s : Nat, t = s := ⟨t.toNat, (Int.toNat_of_nonneg S.lo).symm⟩
    rw [filter_one (t := s) (Int.ofNat_lt.mp S.hi) ((dueT_iff rule S.hi).mpr S) fun x hx h => ?_]
    · rw [eu]
      rfl
    · have := share_sh F ((dueT_iff rule (Int.ofNat_lt.mpr hx)).mp h)
      rw [e] at this
      simp only [Option.some.injEq, Prod.mk.injEq] at this
      exact Int.ofNat_inj.mp this.1.symm
theorem shares_ok {n f a b : Int} (F : Four n f a b) (st : Sto) : F_shares [.d (.int n), .d (.int f), .d (.int a), .d (.int b)] st = some (.ok (.d (shD (shP n f a b))), st) :=
  fRt rfl (yNx (yExpr (xCall (xCons (xVar rfl) (xCons (xVar rfl) (xCons (xVar rfl) (xCons (xVar rfl) xNil)))) (need_four_ok F st))) (yRt (yRet (xCall (xCons (xVar rfl) (xCons (xVar rfl) (xCons (xVar rfl) (xCons (xVar rfl) xNil)))) (shares_of_ok F st))))) rfl
theorem may_ok {n f a b : Int} (F : Four n f a b) (st : Sto) : F_may_be_told [.d (.int n), .d (.int f), .d (.int a), .d (.int b)] st = some (.ok (.d (.bool (shP n f a b).isSome)), st) := by
  have no : oNotN (.d (shD (shP n f a b))) (.d .none) st = some (.d (.bool (shP n f a b).isSome)) := by
    cases shP n f a b <;> rfl
  exact fRt rfl (yNx (yExpr (xCall (xCons (xVar rfl) (xCons (xVar rfl) (xCons (xVar rfl) (xCons (xVar rfl) xNil)))) (need_four_ok F st))) (yRt (yRet (xOp (xCall (xCons (xVar rfl) (xCons (xVar rfl) (xCons (xVar rfl) (xCons (xVar rfl) xNil)))) (shares_of_ok F st)) xC no)))) rfl
abbrev fourD (n f a b : Int) : PyData := .tuple [.int n, .int f, .int a, .int b]
theorem fourE {r : Rho} {st : Sto} {x y z w : EF} {i j k l : Int} (hx : EvI x r st i) (hy : EvI y r st j) (hz : EvI z r st k) (hw : EvI w r st l) : eTup (aCons x (aCons y (aCons z (aCons w aNil)))) r st = some (.ok (.d (fourD i j k l)), st) :=
  xTup (xCons hx (xCons hy (xCons hz (xCons hw xNil)))) rfl (show 4 ≤ sizeLine by decide)
theorem rest4_ok {n f a b : Int} (F : Four n f a b) (st : Sto) : F_rest_told [.d (.int n), .d (.int f), .d (.int a), .d (.int b)] st = some (.ok (.d (fourD n (n - 1 - f) (n - 2 - 2 * f + b) (n - 2 * f + a))), st) := by
  have h1 := F.n3
  have h2 := F.n4
  exact fRt rfl (yNx (yExpr (xCall (xCons (xVar rfl) (xCons (xVar rfl) (xCons (xVar rfl) (xCons (xVar rfl) xNil)))) (need_four_ok F st))) (yRt (yRet (fourE (evV rfl) (evSub (evSub (evV rfl) evC) (evV rfl)) (evAdd (evSub (evSub (evV rfl) evC) (evMul evC (evV rfl) (by omega))) (evV rfl)) (evAdd (evSub (evV rfl) (evMul evC (evV rfl) (by omega))) (evV rfl)))))) rfl
theorem fl_four (d : Nat) (n f a b : Int) : Fl (d + 1) (fourD n f a b) := .tup _ _ (fun x hx => by
  simp only [List.mem_cons, List.not_mem_nil, or_false] at hx
  rcases hx with rfl | rfl | rfl | rfl <;> exact .int _ _) (by show 4 ≤ 4000; decide)
theorem fl_sh (o : Option (Int × Int)) : Fl 1 (shD o) := by
  cases o with
  | none => exact .non _
  | some z => exact .tup _ _ (fun x hx => by
      simp only [List.mem_cons, List.not_mem_nil, or_false] at hx
      rcases hx with rfl | rfl <;> exact .int _ _) (by show 2 ≤ 4000; decide)
theorem shaped_sh (t u : Int) : SeqAt.shaped (.tuple [.int t, .int u]) = true := rfl
theorem due_ne {o : Option (Int × Int)} {st : Sto} {k : Nat} (h : st[k]? = some (.lst (shL o))) : oNe (.mu k) (.d (.list [])) st = some (.d (.bool o.isSome)) := by
  unfold oNe
  rw [res_mu h]
  cases o <;> rfl
theorem due_len {o : Option (Int × Int)} {st : Sto} {k : Nat} (h : st[k]? = some (.lst (shL o))) : ∃ m : Int, m ≤ 1 ∧ fLen [.mu k] st = some (.d (.int m)) := by
  refine ⟨(shL o).length, ?_, ?_⟩
  · cases o
    · exact (by decide : (0 : Int) ≤ 1)
    · exact (by decide : (1 : Int) ≤ 1)
  · unfold fLen
    simp only [res_mu h]
end ML
end
section
/-! PL31: one turn of the law of shares, joined. -/
namespace ML
open PySem DL
abbrev tail2B : SF := (sSeq (sIf (DL.tOr (DL.tNot (tTru (eCall F__law_alike (aCons (eCall F_shares (aCons (eVar 3) (aCons (eVar 4) (aCons (eVar 5) (aCons (eVar 6) (aNil)))))) (aCons (eIf (tVal (eOp oNe (eVar 11) (eLst (aNil)))) (eOp oIx (eVar 11) (eC (.int 0))) (eC .none)) (aNil)))))) (tVal (eOp oGt (eCall (fB fLen) (aCons (eVar 11) aNil)) (eC (.int 1))))) (sSeq (sRet (eC (.bool false))) (sNx)) (sNx)) (sSeq (sIf (DL.tNot (tTru (eCall F__law_alike (aCons (eCall F_may_be_told (aCons (eVar 3) (aCons (eVar 4) (aCons (eVar 5) (aCons (eVar 6) (aNil)))))) (aCons (eOp oNe (eVar 11) (eLst (aNil))) (aNil)))))) (sSeq (sRet (eC (.bool false))) (sNx)) (sNx)) (sSeq (sSet 14 (eCall F_rest_told (aCons (eVar 3) (aCons (eVar 4) (aCons (eVar 5) (aCons (eVar 6) (aNil))))))) (sSeq (sSet 15 (eOp oSub (eVar 3) (eOp oMul (eC (.int 2)) (eVar 4)))) (sSeq (sIf (DL.tNot (tTru (eCall F__law_alike (aCons (eVar 14) (aCons (eTup (aCons (eVar 3) (aCons (eOp oSub (eOp oSub (eVar 3) (eC (.int 1))) (eVar 4)) (aCons (eOp oAdd (eOp oSub (eVar 15) (eC (.int 2))) (eVar 6)) (aCons (eOp oAdd (eVar 15) (eVar 5)) (aNil)))))) (aNil)))))) (sSeq (sRet (eC (.bool false))) (sNx)) (sNx)) (sSeq (sSet 16 (eAnd (eChain oLe oLt (eC (.int 0)) (eOp oIx (eVar 14) (eC (.int 2))) (eOp oIx (eVar 14) (eC (.int 1)))) (eChain oLe oLe (eC (.int 0)) (eOp oIx (eVar 14) (eC (.int 3))) (eOp oIx (eVar 14) (eC (.int 1)))))) (sSeq (sIf (DL.tAnd (tVal (eOp oNe (eVar 11) (eLst (aNil)))) (DL.tAnd (tTru (eVar 16)) (tVal (eOp oNe (eCall F_shares (aCons (eOp oIx (eVar 14) (eC (.int 0))) (aCons (eOp oIx (eVar 14) (eC (.int 1))) (aCons (eOp oIx (eVar 14) (eC (.int 2))) (aCons (eOp oIx (eVar 14) (eC (.int 3))) (aNil)))))) (eRevT (eOp oIx (eVar 11) (eC (.int 0)))))))) (sSeq (sRet (eC (.bool false))) (sNx)) (sNx)) (sNx))))))))
theorem four_ix {r : Rho} {st : Sto} {i j k l : Int} (h : r[14]? = some (some (.d (fourD i j k l)))) : EvI (eOp oIx (eVar 14) (eC (.int 0))) r st i ∧ EvI (eOp oIx (eVar 14) (eC (.int 1))) r st j ∧ EvI (eOp oIx (eVar 14) (eC (.int 2))) r st k ∧ EvI (eOp oIx (eVar 14) (eC (.int 3))) r st l :=
  ⟨xOp (xVar h) xC (oIx_t st (i := 0) (atI_nat' (i := 0) rfl)), xOp (xVar h) xC (oIx_t st (i := 1) (atI_nat' (i := 1) rfl)), xOp (xVar h) xC (oIx_t st (i := 2) (atI_nat' (i := 2) rfl)), xOp (xVar h) xC (oIx_t st (i := 3) (atI_nat' (i := 3) rfl))⟩
theorem chainE {r : Rho} {st : Sto} {x y z : EF} {i j k : Int} (hx : EvI x r st i) (hy : EvI y r st j) (hz : EvI z r st k) : eChain oLe oLe x y z r st = some (.ok (.d (.bool (decide (i ≤ j) && decide (j ≤ k)))), st) := by
  have h1 := oLe_ii st i j
  cases e : decide (i ≤ j) with
  | true =>
    rw [e] at h1
    exact xChainT hx hy h1 hz (oLe_ii st j k)
  | false =>
    rw [e] at h1
    exact xChainF hx hy h1
theorem chainL {r : Rho} {st : Sto} {x y z : EF} {i j k : Int} (hx : EvI x r st i) (hy : EvI y r st j) (hz : EvI z r st k) : eChain oLe oLt x y z r st = some (.ok (.d (.bool (decide (i ≤ j) && decide (j < k)))), st) := by
  have h1 := oLe_ii st i j
  cases e : decide (i ≤ j) with
  | true =>
    rw [e] at h1
    exact xChainT hx hy h1 hz (oLt_ii st j k)
  | false =>
    rw [e] at h1
    exact xChainF hx hy h1
theorem tail2_ok {n f a b l m : Int} {k : Nat} {v0 v2 v7 v8 v12 v13 v14 v15 v16 v17 v18 v19 v20 v21 : Option DV} {S : Sto} (F : Four n f a b) (hD : S[k]? = some (.lst (shL (shP n f a b)))) :
    ∃ w14 w15 w16, tail2B (R6 v0 v2 n f a b v7 v8 l m k v12 v13 v14 v15 v16 v17 v18 v19 v20 v21) S = some (.fl .nx (R6 v0 v2 n f a b v7 v8 l m k v12 v13 w14 w15 w16 v17 v18 v19 v20 v21), S) := by
  have h1 := F.n3
  have h2 := F.n4
  have h3 := F.f1
  have h4 := F.f2
  obtain ⟨len, hlen, elen⟩ := due_len hD
  have ne := due_ne hD
  have neE : ∀ r : Rho, r[11]? = some (some (.mu k)) → eOp oNe (eVar 11) (eLst aNil) r S = some (.ok (.d (.bool (shP n f a b).isSome)), S) := fun r h => xOp (xVar h) (xLst xNil rfl (Nat.zero_le _)) ne
  have args : ∀ r : Rho, r[3]? = some (some (.d (.int n))) → r[4]? = some (some (.d (.int f))) → r[5]? = some (some (.d (.int a))) → r[6]? = some (some (.d (.int b))) → aCons (eVar 3) (aCons (eVar 4) (aCons (eVar 5) (aCons (eVar 6) (aNil)))) r S = some (.ok [.d (.int n), .d (.int f), .d (.int a), .d (.int b)], S) :=
    fun r a3 a4 a5 a6 => xCons (xVar a3) (xCons (xVar a4) (xCons (xVar a5) (xCons (xVar a6) xNil)))
  have first : ∀ r : Rho, r[11]? = some (some (.mu k)) → eIf (tVal (eOp oNe (eVar 11) (eLst (aNil)))) (eOp oIx (eVar 11) (eC (.int 0))) (eC .none) r S = some (.ok (.d (shD (shP n f a b))), S) := fun r h => by
    have t := xTVal (neE r h)
    cases e : shP n f a b with
    | none =>
      rw [e] at t
      exact xIfF t xC
    | some z =>
      obtain ⟨t0, u0⟩ := z
      rw [e] at t hD
      exact xIfT t (xOp (xVar h) xC (mu_ix (j := 0) hD rfl))
  have gt : tVal (eOp oGt (eCall (fB fLen) (aCons (eVar 11) aNil)) (eC (.int 1))) (R6 v0 v2 n f a b v7 v8 l m k v12 v13 v14 v15 v16 v17 v18 v19 v20 v21) S = some (.ok false, S) := by
    have g := oGt_ii S len 1
    rw [decide_eq_false (by omega)] at g
    exact xTVal (xOp (xCall (xCons (xVar rfl) xNil) (xB elen)) xC g)
  have s1 : DL.tOr (DL.tNot (tTru (eCall F__law_alike (aCons (eCall F_shares (aCons (eVar 3) (aCons (eVar 4) (aCons (eVar 5) (aCons (eVar 6) (aNil)))))) (aCons (eIf (tVal (eOp oNe (eVar 11) (eLst (aNil)))) (eOp oIx (eVar 11) (eC (.int 0))) (eC .none)) (aNil)))))) (tVal (eOp oGt (eCall (fB fLen) (aCons (eVar 11) aNil)) (eC (.int 1)))) (R6 v0 v2 n f a b v7 v8 l m k v12 v13 v14 v15 v16 v17 v18 v19 v20 v21) S = some (.ok false, S) :=
    xTOrF (xTNot (i := true) (xTTru (xCall (xCons (xCall (args _ rfl rfl rfl rfl) (shares_ok F S)) (xCons (first _ rfl) xNil)) (alike_ok (fl_sh _) (by decide) S)) rfl)) gt
  have s2 : DL.tNot (tTru (eCall F__law_alike (aCons (eCall F_may_be_told (aCons (eVar 3) (aCons (eVar 4) (aCons (eVar 5) (aCons (eVar 6) (aNil)))))) (aCons (eOp oNe (eVar 11) (eLst (aNil))) (aNil))))) (R6 v0 v2 n f a b v7 v8 l m k v12 v13 v14 v15 v16 v17 v18 v19 v20 v21) S = some (.ok false, S) :=
    xTNot (i := true) (xTTru (xCall (xCons (xCall (args _ rfl rfl rfl rfl) (may_ok F S)) (xCons (neE _ rfl) xNil)) (alike_ok (d := 0) (.bool _ _) (by decide) S)) rfl)
  have e4 : n - 2 * f - 2 + b = n - 2 - 2 * f + b := by omega
  have s4 : eTup (aCons (eVar 3) (aCons (eOp oSub (eOp oSub (eVar 3) (eC (.int 1))) (eVar 4)) (aCons (eOp oAdd (eOp oSub (eVar 15) (eC (.int 2))) (eVar 6)) (aCons (eOp oAdd (eVar 15) (eVar 5)) (aNil))))) (R6 v0 v2 n f a b v7 v8 l m k v12 v13 (some (.d (fourD n (n - 1 - f) (n - 2 - 2 * f + b) (n - 2 * f + a)))) (some (.d (.int (n - 2 * f)))) v16 v17 v18 v19 v20 v21) S = some (.ok (.d (fourD n (n - 1 - f) (n - 2 - 2 * f + b) (n - 2 * f + a))), S) := by
    rw [← e4]
    exact fourE (evV rfl) (evSub (evSub (evV rfl) evC) (evV rfl)) (evAdd (evSub (evV rfl) evC) (evV rfl)) (evAdd (evV rfl) (evV rfl))
  have s5 : DL.tNot (tTru (eCall F__law_alike (aCons (eVar 14) (aCons (eTup (aCons (eVar 3) (aCons (eOp oSub (eOp oSub (eVar 3) (eC (.int 1))) (eVar 4)) (aCons (eOp oAdd (eOp oSub (eVar 15) (eC (.int 2))) (eVar 6)) (aCons (eOp oAdd (eVar 15) (eVar 5)) (aNil)))))) (aNil))))) (R6 v0 v2 n f a b v7 v8 l m k v12 v13 (some (.d (fourD n (n - 1 - f) (n - 2 - 2 * f + b) (n - 2 * f + a)))) (some (.d (.int (n - 2 * f)))) v16 v17 v18 v19 v20 v21) S = some (.ok false, S) :=
    xTNot (i := true) (xTTru (xCall (xCons (xVar rfl) (xCons s4 xNil)) (alike_ok (fl_four 0 _ _ _ _) (by decide) S)) rfl)
  have ix6 := four_ix (r := R6 v0 v2 n f a b v7 v8 l m k v12 v13 (some (.d (fourD n (n - 1 - f) (n - 2 - 2 * f + b) (n - 2 * f + a)))) (some (.d (.int (n - 2 * f)))) v16 v17 v18 v19 v20 v21) (st := S) rfl
  have s6 := xAnd (chainL (evC (i := 0)) ix6.2.2.1 ix6.2.1) (chainE (evC (i := 0)) ix6.2.2.2 ix6.2.1)
  generalize hs : ((decide (0 ≤ n - 2 - 2 * f + b) && decide (n - 2 - 2 * f + b < n - 1 - f)) && (decide (0 ≤ n - 2 * f + a) && decide (n - 2 * f + a ≤ n - 1 - f))) = sound at s6
  have s7 : DL.tAnd (tVal (eOp oNe (eVar 11) (eLst (aNil)))) (DL.tAnd (tTru (eVar 16)) (tVal (eOp oNe (eCall F_shares (aCons (eOp oIx (eVar 14) (eC (.int 0))) (aCons (eOp oIx (eVar 14) (eC (.int 1))) (aCons (eOp oIx (eVar 14) (eC (.int 2))) (aCons (eOp oIx (eVar 14) (eC (.int 3))) (aNil)))))) (eRevT (eOp oIx (eVar 11) (eC (.int 0))))))) (R6 v0 v2 n f a b v7 v8 l m k v12 v13 (some (.d (fourD n (n - 1 - f) (n - 2 - 2 * f + b) (n - 2 * f + a)))) (some (.d (.int (n - 2 * f)))) (some (.d (.bool sound))) v17 v18 v19 v20 v21) S = some (.ok false, S) := by
    have t := xTVal (neE (R6 v0 v2 n f a b v7 v8 l m k v12 v13 (some (.d (fourD n (n - 1 - f) (n - 2 - 2 * f + b) (n - 2 * f + a)))) (some (.d (.int (n - 2 * f)))) (some (.d (.bool sound))) v17 v18 v19 v20 v21) rfl)
    have ix := four_ix (r := R6 v0 v2 n f a b v7 v8 l m k v12 v13 (some (.d (fourD n (n - 1 - f) (n - 2 - 2 * f + b) (n - 2 * f + a)))) (some (.d (.int (n - 2 * f)))) (some (.d (.bool sound))) v17 v18 v19 v20 v21) (st := S) rfl
    cases e : shP n f a b with
    | none =>
      rw [e] at t
      exact xTAndF t
    | some z =>
      obtain ⟨t0, u0⟩ := z
      rw [e] at t hD
      refine xTAndT t ?_
      cases sound with
      | false => exact xTAndF (xTTru (xVar rfl) rfl)
      | true =>
        simp only [Bool.and_eq_true, decide_eq_true_eq] at hs
        have F2 := four_rest F hs.1.1 hs.1.2 hs.2.1 hs.2.2
        obtain ⟨Sh, eu⟩ := sh_share F e
        have e2 := share_sh F2 (share_rest Sh)
        rw [show n - 1 - (n - 1 - t0) = t0 by omega, ← eu] at e2
        have call := shares_ok F2 S
        rw [e2] at call
        refine xTAndT (xTTru (xVar rfl) rfl) (xTVal (xOp (xCall (xCons ix.1 (xCons ix.2.1 (xCons ix.2.2.1 (xCons ix.2.2.2 xNil)))) call) (xRevT (xOp (xVar rfl) xC (mu_ix (j := 0) hD rfl))) ?_))
        exact oNe_at (shaped_sh u0 t0) S
  exact ⟨_, _, _, yNx (yIfF s1 yEnd) (yNx (yIfF s2 yEnd) (yNx (ySet (xCall (args _ rfl rfl rfl rfl) (rest4_ok F S))) (yNx (ySet (evSub (evV rfl) (evMul evC (evV rfl) (by omega)))) (yNx (yIfF s5 yEnd) (yNx (ySet s6) (yNx (yIfF s7 yEnd) yEnd))))))⟩
end ML
end
section
/-! PL32: one turn of the law of shares, from its four numbers on. -/
namespace ML
open PySem DL
abbrev ruleE : EF := eOp oNe (eOp oMul (eVar 4) (eOp oSub (eOp oSub (eVar 4) (eVar 5)) (eC (.int 1)))) (eOp oMul (eOp oSub (eOp oSub (eVar 3) (eVar 4)) (eC (.int 1))) (eVar 6))
abbrev tail1B : SF := sSeq (sSet 8 (eOp oSub (eVar 5) (eVar 6))) (sSeq (sPar 9 10 (aCons (eOp oAdd (eOp oMul (eC (.int 2)) (eVar 4)) (eOp oMul (eOp oSub (eVar 3) (eC (.int 1))) (eVar 8))) (aCons (eOp oAdd (eOp oMul (eVar 8) (eVar 8)) (eOp oMul (eC (.int 4)) (eOp oSub (eVar 4) (eVar 6)))) (aNil)))) (sSeq (sSet 11 (eLstM (aNil))) (sSeq (sFor (iRg1 (eVar 3)) (gV 12) dueB) (sSeq (sIf (tVal ruleE) (sSeq (sSet 11 (eLstM (aNil))) (sNx)) (sNx)) tail2B))))
theorem lean_b {n f a b : Int} (F : Four n f a b) : -2000000 ≤ leanP n f a b ∧ leanP n f a b ≤ 2000000 := by
  obtain ⟨h1, h2, h3, h4, h5, h6, h7, h8⟩ := F
  have k1 : (n - 1) * (a - b) ≤ 1000 * 1000 := by
    rcases Int.le_total 0 (a - b) with k | k
    · exact Int.mul_le_mul (by omega) (by omega) k (by omega)
    · have : (n - 1) * (a - b) ≤ 0 := Int.mul_nonpos_of_nonneg_of_nonpos (by omega) k
      omega
  have k2 : (n - 1) * (b - a) ≤ 1000 * 1000 := by
    rcases Int.le_total 0 (b - a) with k | k
    · exact Int.mul_le_mul (by omega) (by omega) k (by omega)
    · have : (n - 1) * (b - a) ≤ 0 := Int.mul_nonpos_of_nonneg_of_nonpos (by omega) k
      omega
  have k3 : (n - 1) * (b - a) = -((n - 1) * (a - b)) := by
    rw [← Int.mul_neg, Int.neg_sub]
  unfold leanP
  omega
theorem tail1_ok {N : Nat} {f a b : Int} {v0 v2 v7 v8 v9 v10 v11 v12 v13 v14 v15 v16 v17 v18 v19 v20 v21 : Option DV} {st : Sto} (F : Four N f a b) :
    ∃ w8 w9 w10 w11 w12 w13 w14 w15 w16 more, tail1B [v0, some (.mu 0), v2, some (.d (.int N)), some (.d (.int f)), some (.d (.int a)), some (.d (.int b)), v7, v8, v9, v10, v11, v12, v13, v14, v15, v16, v17, v18, v19, v20, v21] st =
      some (.fl .nx [v0, some (.mu 0), v2, some (.d (.int N)), some (.d (.int f)), some (.d (.int a)), some (.d (.int b)), v7, w8, w9, w10, w11, w12, w13, w14, w15, w16, v17, v18, v19, v20, v21], st ++ more) := by
  have h1 := F.n3
  have h2 := F.n4
  have h3 := F.f1
  have h4 := F.f2
  have h5 := F.a0
  have h6 := F.a1
  have h7 := F.b0
  have h8 := F.b1
  have lb := lean_b F
  have mb := room_le F
  have mp := room_pos F
  have d8 := ySet (i := 8) (r := [v0, some (.mu 0), v2, some (.d (.int N)), some (.d (.int f)), some (.d (.int a)), some (.d (.int b)), v7, v8, v9, v10, v11, v12, v13, v14, v15, v16, v17, v18, v19, v20, v21]) (st := st) (evSub (evV (k := 5) (i := a) rfl) (evV (k := 6) (i := b) rfl))
  have e9 : EvI (eOp oAdd (eOp oMul (eC (.int 2)) (eVar 4)) (eOp oMul (eOp oSub (eVar 3) (eC (.int 1))) (eVar 8))) [v0, some (.mu 0), v2, some (.d (.int N)), some (.d (.int f)), some (.d (.int a)), some (.d (.int b)), v7, some (.d (.int (a - b))), v9, v10, v11, v12, v13, v14, v15, v16, v17, v18, v19, v20, v21] st (leanP N f a b) :=
    evAdd (evMul evC (evV rfl) (by omega)) (evMul (evSub (evV rfl) evC) (evV rfl) (by omega))
  have e10 : EvI (eOp oAdd (eOp oMul (eVar 8) (eVar 8)) (eOp oMul (eC (.int 4)) (eOp oSub (eVar 4) (eVar 6)))) [v0, some (.mu 0), v2, some (.d (.int N)), some (.d (.int f)), some (.d (.int a)), some (.d (.int b)), v7, some (.d (.int (a - b))), v9, v10, v11, v12, v13, v14, v15, v16, v17, v18, v19, v20, v21] st (roomP f a b) :=
    evAdd (evMul (evV rfl) (evV rfl) (by omega)) (evMul evC (evSub (evV rfl) (evV rfl)) (by omega))
  have at0 : (st ++ [Ct.lst []])[st.length]? = some (.lst []) := by simp
  have z : (st ++ [Ct.lst []]).set st.length (.lst (shL (shP N f a b))) = st ++ [.lst (shL (shP N f a b))] := by simp
  obtain ⟨w12, w13, loop⟩ := due_loop (v0 := v0) (v2 := v2) (v7 := v7) (v8 := some (.d (.int (a - b)))) (v14 := v14) (v15 := v15) (v16 := v16) (v17 := v17) (v18 := v18) (v19 := v19) (v20 := v20) (v21 := v21) (n := N) (f := f) (a := a) (b := b) (l := leanP N f a b) (m := roomP f a b) (k := st.length) (by omega) lb (by omega)
    (List.range N) v12 v13 [] (st ++ [.lst []]) at0 (by rw [List.length_range, List.length_nil]; omega) (fun t ht => by have := List.mem_range.mp ht; omega)
  rw [List.nil_append] at loop
  have rg : iRg1 (eVar 3) (R6 v0 v2 N f a b v7 (some (.d (.int (a - b)))) (leanP N f a b) (roomP f a b) st.length v12 v13 v14 v15 v16 v17 v18 v19 v20 v21) (st ++ [.lst []]) = some (.ok (rng 0 N), st ++ [.lst []]) := zRg1 (xVar rfl) (by omega)
  have ru := evNe (r := R6 v0 v2 N f a b v7 (some (.d (.int (a - b)))) (leanP N f a b) (roomP f a b) st.length w12 w13 v14 v15 v16 v17 v18 v19 v20 v21) (st := (st ++ [Ct.lst []]).set st.length (.lst (((List.range N).filter (dueT N (leanP N f a b) (roomP f a b))).map (dueP N))))
    (evMul (evV (k := 4) (i := f) rfl) (evSub (evSub (evV (k := 4) (i := f) rfl) (evV (k := 5) (i := a) rfl)) (evC (i := 1))) (by omega)) (evMul2 (evSub (evSub (evV (k := 3) (i := N) rfl) (evV (k := 4) (i := f) rfl)) (evC (i := 1))) (evV (k := 6) (i := b) rfl) (by omega))
  have pre : ∀ o, (sSeq (sIf (tVal ruleE) (sSeq (sSet 11 (eLstM (aNil))) (sNx)) (sNx)) tail2B) (R6 v0 v2 N f a b v7 (some (.d (.int (a - b)))) (leanP N f a b) (roomP f a b) st.length w12 w13 v14 v15 v16 v17 v18 v19 v20 v21) ((st ++ [Ct.lst []]).set st.length (.lst (((List.range N).filter (dueT N (leanP N f a b) (roomP f a b))).map (dueP N)))) = o →
      tail1B [v0, some (.mu 0), v2, some (.d (.int N)), some (.d (.int f)), some (.d (.int a)), some (.d (.int b)), v7, v8, v9, v10, v11, v12, v13, v14, v15, v16, v17, v18, v19, v20, v21] st = o := fun o h =>
    yNx d8 (yNx (yPar (xCons e9 (xCons e10 xNil))) (yNx (ySet (xLstM xNil rfl (Nat.zero_le _))) (yNx (yFor rg loop) h)))
  by_cases rule : f * (f - a - 1) = ((N : Int) - f - 1) * b
  · rw [show (!(f * (f - a - 1) == ((N : Int) - f - 1) * b)) = false by rw [beq_iff_eq.mpr rule]; rfl] at ru
    rw [dues F rule, z] at ru pre
    obtain ⟨w14, w15, w16, t2⟩ := tail2_ok (v0 := v0) (v2 := v2) (v7 := v7) (v8 := some (.d (.int (a - b)))) (v12 := w12) (v13 := w13) (v14 := v14) (v15 := v15) (v16 := v16) (v17 := v17) (v18 := v18) (v19 := v19) (v20 := v20) (v21 := v21) (l := leanP N f a b) (m := roomP f a b) (k := st.length) (S := st ++ [.lst (shL (shP N f a b))]) F (by simp)
    exact ⟨_, _, _, _, _, _, _, _, _, [.lst (shL (shP N f a b))], pre _ (yNx (yIfF ru yEnd) t2)⟩
  · rw [show (!(f * (f - a - 1) == ((N : Int) - f - 1) * b)) = true by rw [beq_eq_false_iff_ne.mpr rule]; rfl] at ru
    have none' : shP N f a b = none := by
      unfold shP
      rw [if_pos rule]
    generalize hS : (st ++ [Ct.lst []]).set st.length (.lst (((List.range N).filter (dueT N (leanP N f a b) (roomP f a b))).map (dueP N))) = S at ru pre
    obtain ⟨x, hx⟩ : ∃ x, S = st ++ [x] := ⟨.lst (((List.range N).filter (dueT N (leanP N f a b) (roomP f a b))).map (dueP N)), by rw [← hS]; simp⟩
    obtain ⟨w14, w15, w16, t2⟩ := tail2_ok (v0 := v0) (v2 := v2) (v7 := v7) (v8 := some (.d (.int (a - b)))) (v12 := w12) (v13 := w13) (v14 := v14) (v15 := v15) (v16 := v16) (v17 := v17) (v18 := v18) (v19 := v19) (v20 := v20) (v21 := v21) (l := leanP N f a b) (m := roomP f a b) (k := S.length) (S := S ++ [.lst []]) F (by rw [none']; simp [shL])
    have all := pre _ (yNx (yIfT ru (yNx (ySet (xLstM xNil rfl (Nat.zero_le _))) yEnd)) t2)
    rw [show S ++ [Ct.lst []] = st ++ [x, .lst []] by rw [hx]; simp] at all
    exact ⟨_, _, _, _, _, _, _, _, _, [x, .lst []], all⟩
end ML
end
section
/-! PL33: one turn of the law of shares: the drawing of the four numbers; the turns. -/
namespace ML
open PySem DL
abbrev headB (tl : SF) : SF := sSeq (sSet 3 (eOp oAdd (eC (.int 3)) (eCall F__law_taken (aCons (eVar 1) (aCons (eC (.int 60)) (aNil)))))) (sSeq (sSet 4 (eOp oAdd (eC (.int 1)) (eCall F__law_taken (aCons (eVar 1) (aCons (eOp oSub (eVar 3) (eC (.int 2))) (aNil)))))) (sSeq (sPar 5 6 (aCons (eCall F__law_taken (aCons (eVar 1) (aCons (eVar 4) (aNil)))) (aCons (eCall F__law_taken (aCons (eVar 1) (aCons (eOp oAdd (eVar 4) (eC (.int 1))) (aNil)))) (aNil)))) (sSeq (sSet 7 (eLst (aCons (eTup (aCons (eC (.int 45)) (aCons (eC (.int 12)) (aCons (eC (.int 3)) (aCons (eC (.int 3)) (aNil)))))) (aCons (eTup (aCons (eC (.int 36)) (aCons (eC (.int 15)) (aCons (eC (.int 6)) (aCons (eC (.int 6)) (aNil)))))) (aCons (eTup (aCons (eC (.int 28)) (aCons (eC (.int 9)) (aCons (eC (.int 0)) (aCons (eC (.int 4)) (aNil)))))) (aCons (eTup (aCons (eC (.int 21)) (aCons (eC (.int 10)) (aCons (eC (.int 5)) (aCons (eC (.int 4)) (aNil)))))) (aCons (eTup (aCons (eC (.int 16)) (aCons (eC (.int 6)) (aCons (eC (.int 2)) (aCons (eC (.int 2)) (aNil)))))) (aNil)))))))) (sSeq (sSet 7 (eOp oAdd (eVar 7) (eLst (aCons (eTup (aCons (eC (.int 15)) (aCons (eC (.int 8)) (aCons (eC (.int 4)) (aCons (eC (.int 4)) (aNil)))))) (aCons (eTup (aCons (eC (.int 57)) (aCons (eC (.int 14)) (aCons (eC (.int 1)) (aCons (eC (.int 4)) (aNil)))))) (aCons (eTup (aCons (eC (.int 50)) (aCons (eC (.int 7)) (aCons (eC (.int 0)) (aCons (eC (.int 1)) (aNil)))))) (aNil))))))) (sSeq (sSet 7 (eOp oAdd (eVar 7) (eLst (aCons (eTup (aCons (eC (.int 9)) (aCons (eC (.int 4)) (aCons (eC (.int 1)) (aCons (eC (.int 2)) (aNil)))))) (aCons (eTup (aCons (eC (.int 13)) (aCons (eC (.int 6)) (aCons (eC (.int 2)) (aCons (eC (.int 3)) (aNil)))))) (aCons (eTup (aCons (eC (.int 6)) (aCons (eC (.int 2)) (aCons (eC (.int 1)) (aCons (eC (.int 0)) (aNil)))))) (aCons (eTup (aCons (eC (.int 21)) (aCons (eC (.int 10)) (aCons (eC (.int 4)) (aCons (eC (.int 5)) (aNil)))))) (aCons (eTup (aCons (eC (.int 33)) (aCons (eC (.int 16)) (aCons (eC (.int 7)) (aCons (eC (.int 8)) (aNil)))))) (aCons (eTup (aCons (eC (.int 5)) (aCons (eC (.int 2)) (aCons (eC (.int 0)) (aCons (eC (.int 1)) (aNil)))))) (aNil)))))))))) (sSeq (sSet 7 (eOp oAdd (eVar 7) (eLst (aCons (eTup (aCons (eC (.int 10)) (aCons (eC (.int 3)) (aCons (eC (.int 0)) (aCons (eC (.int 1)) (aNil)))))) (aNil))))) (sSeq (sIf (tVal (eOp oEq (eCall F__law_taken (aCons (eVar 1) (aCons (eC (.int 2)) (aNil)))) (eC (.int 0)))) (sSeq (sAsg (eCall F__law_pick (aCons (eVar 1) (aCons (eVar 7) (aNil)))) (gT (gConsF 3 (gConsF 4 (gConsF 5 (gConsF 6 (gNilF))))))) (sNx)) (sSeq (sIf (DL.tAnd (tVal (eOp oLt (eVar 4) (eOp oSub (eVar 3) (eC (.int 1))))) (tVal (eOp oEq (eOp oMod (eOp oMul (eVar 4) (eOp oSub (eOp oSub (eVar 4) (eVar 5)) (eC (.int 1)))) (eOp oSub (eOp oSub (eVar 3) (eVar 4)) (eC (.int 1)))) (eC (.int 0))))) (sSeq (sSet 6 (eCall (fB fMin) (aCons (eVar 4) (aCons (eOp oFdiv (eOp oMul (eVar 4) (eOp oSub (eOp oSub (eVar 4) (eVar 5)) (eC (.int 1)))) (eOp oSub (eOp oSub (eVar 3) (eVar 4)) (eC (.int 1)))) aNil)))) (sNx)) (sNx)) (sNx))) (tl))))))))
abbrev row6 (ns : List Int) (i : Nat) (e c : Int) (rest : Sto) : Sto := .lst (rowD ns i e c) :: rest
theorem oAdd_ll {xs ys : List PyData} (st : Sto) (h : xs.length + ys.length ≤ 100) : oAdd (.d (.list xs)) (.d (.list ys)) st = some (.d (.list (xs ++ ys))) := by
  unfold oAdd
  simp only [res_d]
  rw [if_pos (Nat.le_trans h (by decide))]
theorem fMin_i (i j : Int) (st : Sto) : fMin [.d (.int i), .d (.int j)] st = some (.d (.int (if j < i then j else i))) := rfl
abbrev somes : List PyData := [fourD 45 12 3 3, fourD 36 15 6 6, fourD 28 9 0 4, fourD 21 10 5 4, fourD 16 6 2 2, fourD 15 8 4 4, fourD 57 14 1 4, fourD 50 7 0 1, fourD 9 4 1 2, fourD 13 6 2 3, fourD 6 2 1 0, fourD 21 10 4 5, fourD 33 16 7 8, fourD 5 2 0 1, fourD 10 3 0 1]
theorem some_four {d : PyData} (h : d ∈ somes) : ∃ (N : Nat) (f a b : Int), d = fourD N f a b ∧ Four N f a b := by
  simp only [somes, List.mem_cons, List.not_mem_nil, or_false] at h
  rcases h with rfl | rfl | rfl | rfl | rfl | rfl | rfl | rfl | rfl | rfl | rfl | rfl | rfl | rfl | rfl
  · exact ⟨45, 12, 3, 3, rfl, by constructor <;> decide⟩
  · exact ⟨36, 15, 6, 6, rfl, by constructor <;> decide⟩
  · exact ⟨28, 9, 0, 4, rfl, by constructor <;> decide⟩
  · exact ⟨21, 10, 5, 4, rfl, by constructor <;> decide⟩
  · exact ⟨16, 6, 2, 2, rfl, by constructor <;> decide⟩
  · exact ⟨15, 8, 4, 4, rfl, by constructor <;> decide⟩
  · exact ⟨57, 14, 1, 4, rfl, by constructor <;> decide⟩
  · exact ⟨50, 7, 0, 1, rfl, by constructor <;> decide⟩
  · exact ⟨9, 4, 1, 2, rfl, by constructor <;> decide⟩
  · exact ⟨13, 6, 2, 3, rfl, by constructor <;> decide⟩
  · exact ⟨6, 2, 1, 0, rfl, by constructor <;> decide⟩
  · exact ⟨21, 10, 4, 5, rfl, by constructor <;> decide⟩
  · exact ⟨33, 16, 7, 8, rfl, by constructor <;> decide⟩
  · exact ⟨5, 2, 0, 1, rfl, by constructor <;> decide⟩
  · exact ⟨10, 3, 0, 1, rfl, by constructor <;> decide⟩
theorem lst1 {as : AF} {r : Rho} {st : Sto} {x : PyData} (h : as r st = some (.ok [.d x], st)) : eLst as r st = some (.ok (.d (.list [x])), st) := xLst h rfl (show 1 ≤ sizeLine by decide)
theorem lst3 {as : AF} {r : Rho} {st : Sto} {x y z : PyData} (h : as r st = some (.ok [.d x, .d y, .d z], st)) : eLst as r st = some (.ok (.d (.list [x, y, z])), st) := xLst h rfl (show 3 ≤ sizeLine by decide)
theorem lst5 {as : AF} {r : Rho} {st : Sto} {x y z u v : PyData} (h : as r st = some (.ok [.d x, .d y, .d z, .d u, .d v], st)) : eLst as r st = some (.ok (.d (.list [x, y, z, u, v])), st) := xLst h rfl (show 5 ≤ sizeLine by decide)
theorem lst6 {as : AF} {r : Rho} {st : Sto} {x y z u v w : PyData} (h : as r st = some (.ok [.d x, .d y, .d z, .d u, .d v, .d w], st)) : eLst as r st = some (.ok (.d (.list [x, y, z, u, v, w])), st) := xLst h rfl (show 6 ≤ sizeLine by decide)
theorem fourC {r : Rho} {st : Sto} {i j k l : Int} : eTup (aCons (eC (.int i)) (aCons (eC (.int j)) (aCons (eC (.int k)) (aCons (eC (.int l)) aNil)))) r st = some (.ok (.d (fourD i j k l)), st) := fourE evC evC evC evC
theorem head_ok {ns : List Int} {i : Nat} {e c : Int} {rest : Sto} {v0 v2 v3 v4 v5 v6 v7 v8 v9 v10 v11 v12 v13 v14 v15 v16 v17 v18 v19 v20 v21 : Option DV} :
    ∃ (N : Nat) (f a b : Int) (w7 : Option DV) (i' : Nat) (e' c' : Int), Four N f a b ∧ ∀ tl o, tl [v0, some (.mu 0), v2, some (.d (.int N)), some (.d (.int f)), some (.d (.int a)), some (.d (.int b)), w7, v8, v9, v10, v11, v12, v13, v14, v15, v16, v17, v18, v19, v20, v21] (row6 ns i' e' c' rest) = o →
      headB tl [v0, some (.mu 0), v2, v3, v4, v5, v6, v7, v8, v9, v10, v11, v12, v13, v14, v15, v16, v17, v18, v19, v20, v21] (row6 ns i e c rest) = o := by
  obtain ⟨x1, i1, e1, c1, hx1, t1⟩ := taken_ok (m := 60) (k := 0) (st := row6 ns i e c rest) rfl (by omega) (by omega)
  have hN : 0 < 3 + x1 - 2 := by omega
  obtain ⟨x2, i2, e2, c2, hx2, t2⟩ := taken_ok (m := 3 + x1 - 2) (k := 0) (st := row6 ns i1 e1 c1 rest) rfl hN (by omega)
  obtain ⟨x3, i3, e3, c3, hx3, t3⟩ := taken_ok (m := 1 + x2) (k := 0) (st := row6 ns i2 e2 c2 rest) rfl (by omega) (by omega)
  obtain ⟨x4, i4, e4, c4, hx4, t4⟩ := taken_ok (m := 1 + x2 + 1) (k := 0) (st := row6 ns i3 e3 c3 rest) rfl (by omega) (by omega)
  obtain ⟨x5, i5, e5, c5, hx5, t5⟩ := taken_ok (m := 2) (k := 0) (st := row6 ns i4 e4 c4 rest) rfl (by omega) (by omega)
  obtain ⟨d, i6, e6, c6, hd, t6⟩ := pick_ok (k := 0) (st := row6 ns i5 e5 c5 rest) (ds := somes) rfl (by show 0 < 15; decide) (by show 15 < 1000000; decide)
  have z := eq_nats x5 0 (row6 ns i5 e5 c5 rest)
  have F0 : ∀ b : Int, 0 ≤ b → b ≤ (1 + x2 : Nat) → Four (3 + x1 : Nat) (1 + x2 : Nat) x3 b := fun b b0 b1 => ⟨by omega, by omega, by omega, by omega, by omega, by omega, b0, b1⟩
  -- up to the choice
  have pre : ∀ (s tl : SF) (o : Option (SR × Sto)), (sSeq s tl) [v0, some (.mu 0), v2, some (.d (.int (3 + x1 : Nat))), some (.d (.int (1 + x2 : Nat))), some (.d (.int x3)), some (.d (.int x4)), some (.d (.list somes)), v8, v9, v10, v11, v12, v13, v14, v15, v16, v17, v18, v19, v20, v21] (row6 ns i4 e4 c4 rest) = o → (sSeq (sSet 3 (eOp oAdd (eC (.int 3)) (eCall F__law_taken (aCons (eVar 1) (aCons (eC (.int 60)) (aNil)))))) (sSeq (sSet 4 (eOp oAdd (eC (.int 1)) (eCall F__law_taken (aCons (eVar 1) (aCons (eOp oSub (eVar 3) (eC (.int 2))) (aNil)))))) (sSeq (sPar 5 6 (aCons (eCall F__law_taken (aCons (eVar 1) (aCons (eVar 4) (aNil)))) (aCons (eCall F__law_taken (aCons (eVar 1) (aCons (eOp oAdd (eVar 4) (eC (.int 1))) (aNil)))) (aNil)))) (sSeq (sSet 7 (eLst (aCons (eTup (aCons (eC (.int 45)) (aCons (eC (.int 12)) (aCons (eC (.int 3)) (aCons (eC (.int 3)) (aNil)))))) (aCons (eTup (aCons (eC (.int 36)) (aCons (eC (.int 15)) (aCons (eC (.int 6)) (aCons (eC (.int 6)) (aNil)))))) (aCons (eTup (aCons (eC (.int 28)) (aCons (eC (.int 9)) (aCons (eC (.int 0)) (aCons (eC (.int 4)) (aNil)))))) (aCons (eTup (aCons (eC (.int 21)) (aCons (eC (.int 10)) (aCons (eC (.int 5)) (aCons (eC (.int 4)) (aNil)))))) (aCons (eTup (aCons (eC (.int 16)) (aCons (eC (.int 6)) (aCons (eC (.int 2)) (aCons (eC (.int 2)) (aNil)))))) (aNil)))))))) (sSeq (sSet 7 (eOp oAdd (eVar 7) (eLst (aCons (eTup (aCons (eC (.int 15)) (aCons (eC (.int 8)) (aCons (eC (.int 4)) (aCons (eC (.int 4)) (aNil)))))) (aCons (eTup (aCons (eC (.int 57)) (aCons (eC (.int 14)) (aCons (eC (.int 1)) (aCons (eC (.int 4)) (aNil)))))) (aCons (eTup (aCons (eC (.int 50)) (aCons (eC (.int 7)) (aCons (eC (.int 0)) (aCons (eC (.int 1)) (aNil)))))) (aNil))))))) (sSeq (sSet 7 (eOp oAdd (eVar 7) (eLst (aCons (eTup (aCons (eC (.int 9)) (aCons (eC (.int 4)) (aCons (eC (.int 1)) (aCons (eC (.int 2)) (aNil)))))) (aCons (eTup (aCons (eC (.int 13)) (aCons (eC (.int 6)) (aCons (eC (.int 2)) (aCons (eC (.int 3)) (aNil)))))) (aCons (eTup (aCons (eC (.int 6)) (aCons (eC (.int 2)) (aCons (eC (.int 1)) (aCons (eC (.int 0)) (aNil)))))) (aCons (eTup (aCons (eC (.int 21)) (aCons (eC (.int 10)) (aCons (eC (.int 4)) (aCons (eC (.int 5)) (aNil)))))) (aCons (eTup (aCons (eC (.int 33)) (aCons (eC (.int 16)) (aCons (eC (.int 7)) (aCons (eC (.int 8)) (aNil)))))) (aCons (eTup (aCons (eC (.int 5)) (aCons (eC (.int 2)) (aCons (eC (.int 0)) (aCons (eC (.int 1)) (aNil)))))) (aNil)))))))))) (sSeq (sSet 7 (eOp oAdd (eVar 7) (eLst (aCons (eTup (aCons (eC (.int 10)) (aCons (eC (.int 3)) (aCons (eC (.int 0)) (aCons (eC (.int 1)) (aNil)))))) (aNil))))) (sSeq s tl)))))))) [v0, some (.mu 0), v2, v3, v4, v5, v6, v7, v8, v9, v10, v11, v12, v13, v14, v15, v16, v17, v18, v19, v20, v21] (row6 ns i e c rest) = o := fun s tl o h =>
    yNx (ySet (i := 3) (xOp (xC (p := .int 3)) (xCall (xCons (xVar (i := 1) rfl) (xCons xC xNil)) t1) (oAdd_nn 3 x1 _)))
      (yNx (ySet (i := 4) (xOp (xC (p := .int 1)) (xCall (xCons (xVar (i := 1) rfl) (xCons (xOp (xVar (i := 3) rfl) (xC (p := .int 2)) (oSub_nn (b := 2) (by omega) _)) xNil)) t2) (oAdd_nn 1 x2 _)))
      (yNx (yPar (xCons (xCall (xCons (xVar (i := 1) rfl) (xCons (xVar (i := 4) rfl) xNil)) t3) (xCons (xCall (xCons (xVar (i := 1) rfl) (xCons (xOp (xVar (i := 4) rfl) (xC (p := .int 1)) (oAdd_nn (1 + x2) 1 _)) xNil)) t4) xNil)))
      (yNx (ySet (lst5 (xCons fourC (xCons fourC (xCons fourC (xCons fourC (xCons fourC xNil)))))))
      (yNx (ySet (xOp (xVar rfl) (lst3 (xCons fourC (xCons fourC (xCons fourC xNil)))) (oAdd_ll _ (show 5 + 3 ≤ 100 by decide))))
      (yNx (ySet (xOp (xVar rfl) (lst6 (xCons fourC (xCons fourC (xCons fourC (xCons fourC (xCons fourC (xCons fourC xNil))))))) (oAdd_ll _ (show 8 + 6 ≤ 100 by decide))))
      (yNx (ySet (xOp (xVar rfl) (lst1 (xCons fourC xNil)) (oAdd_ll _ (show 14 + 1 ≤ 100 by decide))))
      h))))))
  have tk : ∀ r : Rho, r[1]? = some (some (.mu 0)) → eOp oEq (eCall F__law_taken (aCons (eVar 1) (aCons (eC (.int 2)) (aNil)))) (eC (.int 0)) r (row6 ns i4 e4 c4 rest) = some (.ok (.d (.bool (x5 == 0))), row6 ns i5 e5 c5 rest) := fun r h => xOp (xCall (xCons (xVar h) (xCons xC xNil)) t5) xC z
  by_cases h0 : x5 = 0
  · subst h0
    obtain ⟨N, f, a, b, rfl, F⟩ := some_four hd
    exact ⟨N, f, a, b, some (.d (.list somes)), i6, e6, c6, F, fun tl o h => pre _ tl o (yNx (yIfT (xTVal (i := true) (tk _ rfl)) (yNx (yAsg (xCall (xCons (xVar rfl) (xCons (xVar rfl) xNil)) t6) rfl) yEnd)) h)⟩
  · obtain rfl : x5 = 1 := by omega
    have lt := evLt (r := [v0, some (.mu 0), v2, some (.d (.int (3 + x1 : Nat))), some (.d (.int (1 + x2 : Nat))), some (.d (.int x3)), some (.d (.int x4)), some (.d (.list somes)), v8, v9, v10, v11, v12, v13, v14, v15, v16, v17, v18, v19, v20, v21]) (st := row6 ns i5 e5 c5 rest) (evV (k := 4) (i := (1 + x2 : Nat)) rfl) (evSub (evV (k := 3) (i := (3 + x1 : Nat)) rfl) (evC (i := 1)))
    rw [decide_eq_true (by omega)] at lt
    have nz : ((3 + x1 : Nat) : Int) - (1 + x2 : Nat) - 1 ≠ 0 := by omega
    have X : EvI (eOp oMul (eVar 4) (eOp oSub (eOp oSub (eVar 4) (eVar 5)) (eC (.int 1)))) [v0, some (.mu 0), v2, some (.d (.int (3 + x1 : Nat))), some (.d (.int (1 + x2 : Nat))), some (.d (.int x3)), some (.d (.int x4)), some (.d (.list somes)), v8, v9, v10, v11, v12, v13, v14, v15, v16, v17, v18, v19, v20, v21] (row6 ns i5 e5 c5 rest) (((1 + x2 : Nat) : Int) * ((1 + x2 : Nat) - x3 - 1)) := evMul (evV rfl) (evSub (evSub (evV rfl) (evV rfl)) evC) (by omega)
    have Y : EvI (eOp oSub (eOp oSub (eVar 3) (eVar 4)) (eC (.int 1))) [v0, some (.mu 0), v2, some (.d (.int (3 + x1 : Nat))), some (.d (.int (1 + x2 : Nat))), some (.d (.int x3)), some (.d (.int x4)), some (.d (.list somes)), v8, v9, v10, v11, v12, v13, v14, v15, v16, v17, v18, v19, v20, v21] (row6 ns i5 e5 c5 rest) (((3 + x1 : Nat) : Int) - (1 + x2 : Nat) - 1) := evSub (evSub (evV rfl) (evV rfl)) evC
    have mo := evEq (evMod X Y nz) (evC (i := 0))
    by_cases h6 : (((1 + x2 : Nat) : Int) * ((1 + x2 : Nat) - x3 - 1)).fmod (((3 + x1 : Nat) : Int) - (1 + x2 : Nat) - 1) = 0
    · rw [beq_iff_eq.mpr h6] at mo
      have dv := evDiv X Y ⟨nz, by omega⟩
      have q0 : 0 ≤ (((1 + x2 : Nat) : Int) * ((1 + x2 : Nat) - x3 - 1)).fdiv (((3 + x1 : Nat) : Int) - (1 + x2 : Nat) - 1) := by
        rw [Int.fdiv_eq_ediv_of_nonneg _ (by omega)]
        exact Int.ediv_nonneg (Int.mul_nonneg (by omega) (by omega)) (by omega)
      generalize (((1 + x2 : Nat) : Int) * ((1 + x2 : Nat) - x3 - 1)).fdiv (((3 + x1 : Nat) : Int) - (1 + x2 : Nat) - 1) = q at dv q0
      have mn := fMin_i (1 + x2 : Nat) q (row6 ns i5 e5 c5 rest)
      have F1 := F0 (if q < (1 + x2 : Nat) then q else (1 + x2 : Nat)) (by split <;> omega) (by split <;> omega)
      exact ⟨3 + x1, (1 + x2 : Nat), x3, _, some (.d (.list somes)), i5, e5, c5, F1, fun tl o h => pre _ tl o (yNx (yIfF (xTVal (i := false) (tk _ rfl)) (yNx (yIfT (xTAndT lt mo) (yNx (ySet (xCall (xCons (xVar rfl) (xCons dv xNil)) (xB mn))) yEnd)) yEnd)) h)⟩
    · rw [beq_eq_false_iff_ne.mpr h6] at mo
      exact ⟨3 + x1, (1 + x2 : Nat), x3, x4, some (.d (.list somes)), i5, e5, c5, F0 x4 (by omega) (by omega), fun tl o h => pre _ tl o (yNx (yIfF (xTVal (i := false) (tk _ rfl)) (yNx (yIfF (xTAndT lt mo) yEnd) yEnd)) h)⟩
end ML
end
section
/-! PL34: four numbers that cannot be. -/
namespace ML
open PySem DL
abbrev noNum : Xn := ⟨"BadNumber", []⟩
section
variable {p q u v : PyData} {st : Sto}
theorem isn {x y z : EF} {r : Rho} {a b c : PyData} {i : Bool} (ex : x r st = some (.ok (.d a), st)) (ey : y r st = some (.ok (.d b), st)) (ez : z r st = some (.ok (.d c), st)) (h : F_is_number [.d a, .d b, .d c] st = some (.ok (.d (.bool i)), st)) :
    DL.tNot (tTru (eCall F_is_number (aCons x (aCons y (aCons z aNil))))) r st = some (.ok (!i), st) := xTNot (xTTru (xCall (xCons ex (xCons ey (xCons ez xNil))) h) rfl)
theorem bad_a (h : F_is_number [.d p, .d (.int 3), .d (.int 1000)] st = some (.ok (.d (.bool false)), st)) : F_need_four [.d p, .d q, .d u, .d v] st = some (.er noNum, st) :=
  fEr rfl (yEr (yIfT (isn (xVar rfl) xC xC h) (yEr rfl)))
theorem bad_b {n : Int} (h : 3 ≤ n ∧ n ≤ 1000) (h2 : F_is_number [.d q, .d (.int 1), .d (.int (n - 2))] st = some (.ok (.d (.bool false)), st)) : F_need_four [.d (.int n), .d q, .d u, .d v] st = some (.er noNum, st) :=
  fEr rfl (yNx (yIfF (isn (xVar rfl) xC xC (num_ok h.1 h.2 st)) yEnd) (yEr (yIfT (isn (xVar rfl) xC (evSub (evV rfl) evC) h2) (yEr rfl))))
theorem bad_c {n f : Int} (h : 3 ≤ n ∧ n ≤ 1000) (h2 : 1 ≤ f ∧ f ≤ n - 2) (h3 : F_is_number [.d u, .d (.int 0), .d (.int (f - 1))] st = some (.ok (.d (.bool false)), st)) : F_need_four [.d (.int n), .d (.int f), .d u, .d v] st = some (.er noNum, st) :=
  fEr rfl (yNx (yIfF (isn (xVar rfl) xC xC (num_ok h.1 h.2 st)) yEnd) (yNx (yIfF (isn (xVar rfl) xC (evSub (evV rfl) evC) (num_ok h2.1 h2.2 st)) yEnd) (yEr (yIfT (xTOrT (isn (xVar rfl) xC (evSub (evV rfl) evC) h3)) (yEr rfl)))))
theorem bad_d {n f a : Int} (h : 3 ≤ n ∧ n ≤ 1000) (h2 : 1 ≤ f ∧ f ≤ n - 2) (h3 : 0 ≤ a ∧ a ≤ f - 1) (h4 : F_is_number [.d v, .d (.int 0), .d (.int f)] st = some (.ok (.d (.bool false)), st)) : F_need_four [.d (.int n), .d (.int f), .d (.int a), .d v] st = some (.er noNum, st) :=
  fEr rfl (yNx (yIfF (isn (xVar rfl) xC xC (num_ok h.1 h.2 st)) yEnd) (yNx (yIfF (isn (xVar rfl) xC (evSub (evV rfl) evC) (num_ok h2.1 h2.2 st)) yEnd) (yEr (yIfT (xTOrF (isn (xVar rfl) xC (evSub (evV rfl) evC) (num_ok h3.1 h3.2 st)) (isn (xVar rfl) xC (xVar rfl) h4)) (yEr rfl)))))
theorem shares_bad (h : F_need_four [.d p, .d q, .d u, .d v] st = some (.er noNum, st)) : F_shares [.d p, .d q, .d u, .d v] st = some (.er noNum, st) :=
  fEr rfl (yEr (yExprE (xCall (xCons (xVar rfl) (xCons (xVar rfl) (xCons (xVar rfl) (xCons (xVar rfl) xNil)))) h)))
theorem may_bad (h : F_need_four [.d p, .d q, .d u, .d v] st = some (.er noNum, st)) : F_may_be_told [.d p, .d q, .d u, .d v] st = some (.er noNum, st) :=
  fEr rfl (yEr (yExprE (xCall (xCons (xVar rfl) (xCons (xVar rfl) (xCons (xVar rfl) (xCons (xVar rfl) xNil)))) h)))
end
abbrev odds6 : List PyData := [.tuple [.none, .int 3, .int 0, .int 1], .tuple [.int 2, .int 1, .int 0, .int 1], .tuple [.int 1001, .int 3, .int 0, .int 1], .tuple [.int 10, .int 0, .int 0, .int 0], .tuple [.int 10, .int 9, .int 3, .int 3], .tuple [.int 10, .int 3, .int 3, .int 1], .tuple [.int 10, .int 3, .int 0, .int 4], .tuple [.int 10, .int 3, .bool true, .int 1]]
theorem odd_four {d : PyData} (h : d ∈ odds6) : ∃ p q u v, d = .tuple [p, q, u, v] ∧ ∀ st, F_need_four [.d p, .d q, .d u, .d v] st = some (.er noNum, st) := by
  simp only [odds6, List.mem_cons, List.not_mem_nil, or_false] at h
  rcases h with rfl | rfl | rfl | rfl | rfl | rfl | rfl | rfl
  · exact ⟨_, _, _, _, rfl, fun st => bad_a (num_ty rfl st)⟩
  · exact ⟨_, _, _, _, rfl, fun st => bad_a (num_lo (by decide) st)⟩
  · exact ⟨_, _, _, _, rfl, fun st => bad_a (num_hi (by decide) st)⟩
  · exact ⟨_, _, _, _, rfl, fun st => bad_b (by decide) (num_lo (by decide) st)⟩
  · exact ⟨_, _, _, _, rfl, fun st => bad_b (by decide) (num_hi (by decide) st)⟩
  · exact ⟨_, _, _, _, rfl, fun st => bad_c (by decide) (by decide) (num_hi (by decide) st)⟩
  · exact ⟨_, _, _, _, rfl, fun st => bad_d (by decide) (by decide) (by decide) (num_hi (by decide) st)⟩
  · exact ⟨_, _, _, _, rfl, fun st => bad_c (by decide) (by decide) (num_ty rfl st)⟩
end ML
end
section
/-! printed by gen.py from the law's text: the defs' mirrors -/
namespace K06
open PySem PySem.Spec PyProof.Rows L2 DL ML
def topS (i : Nat) : Stmt := PySem.Challenge.pw_onefriend_k06_whole_shares.main.body.getD i (.Pass ⟨0, 0, 0, 0⟩)
/-! ### _law_alike -/
abbrev s__law_alike : Stmt := topS 16
theorem sc__law_alike : FnScope ["_law_found", "_law_due", "_law_k"] ["_law_found", "_law_due"] (defScope s__law_alike) := ⟨rfl, rfl, rfl, by decide +kernel, rfl, by decide +kernel, by decide +kernel⟩
/-! ### _law_taken -/
abbrev s__law_taken : Stmt := topS 14
theorem sc__law_taken : FnScope ["_law_row", "_law_many", "_law_found", "_law_cell"] ["_law_row", "_law_many"] (defScope s__law_taken) := ⟨rfl, rfl, rfl, by decide +kernel, rfl, by decide +kernel, by decide +kernel⟩
/-! ### _law_pick -/
abbrev s__law_pick : Stmt := topS 15
theorem sc__law_pick : FnScope ["_law_row", "_law_things"] ["_law_row", "_law_things"] (defScope s__law_pick) := ⟨rfl, rfl, rfl, by decide +kernel, rfl, by decide +kernel, by decide +kernel⟩
/-! ### is_number -/
abbrev s_is_number : Stmt := topS 4
theorem sc_is_number : FnScope ["value", "low", "high"] ["value", "low", "high"] (defScope s_is_number) := ⟨rfl, rfl, rfl, by decide +kernel, rfl, by decide +kernel, by decide +kernel⟩
/-! ### need_four -/
abbrev s_need_four : Stmt := topS 8
theorem sc_need_four : FnScope ["halls", "friends", "joined", "apart"] ["halls", "friends", "joined", "apart"] (defScope s_need_four) := ⟨rfl, rfl, rfl, by decide +kernel, rfl, by decide +kernel, by decide +kernel⟩
/-! ### root_of -/
abbrev s_root_of : Stmt := topS 7
theorem sc_root_of : FnScope ["number", "found"] ["number"] (defScope s_root_of) := ⟨rfl, rfl, rfl, by decide +kernel, rfl, by decide +kernel, by decide +kernel⟩
/-! ### shares_of -/
abbrev s_shares_of : Stmt := topS 9
theorem sc_shares_of : FnScope ["halls", "friends", "joined", "apart", "lean", "root", "first"] ["halls", "friends", "joined", "apart"] (defScope s_shares_of) := ⟨rfl, rfl, rfl, by decide +kernel, rfl, by decide +kernel, by decide +kernel⟩
/-! ### may_be_told -/
abbrev s_may_be_told : Stmt := topS 11
theorem sc_may_be_told : FnScope ["halls", "friends", "joined", "apart"] ["halls", "friends", "joined", "apart"] (defScope s_may_be_told) := ⟨rfl, rfl, rfl, by decide +kernel, rfl, by decide +kernel, by decide +kernel⟩
/-! ### rest_told -/
abbrev s_rest_told : Stmt := topS 12
theorem sc_rest_told : FnScope ["halls", "friends", "joined", "apart"] ["halls", "friends", "joined", "apart"] (defScope s_rest_told) := ⟨rfl, rfl, rfl, by decide +kernel, rfl, by decide +kernel, by decide +kernel⟩
/-! ### shares -/
abbrev s_shares : Stmt := topS 10
theorem sc_shares : FnScope ["halls", "friends", "joined", "apart"] ["halls", "friends", "joined", "apart"] (defScope s_shares) := ⟨rfl, rfl, rfl, by decide +kernel, rfl, by decide +kernel, by decide +kernel⟩
/-! ### law -/
abbrev s_law : Stmt := topS 17
theorem sc_law : FnScope ["_law_script", "_law_row", "_law_turn", "_law_halls", "_law_friends", "_law_joined", "_law_apart", "_law_some", "_law_more", "_law_lean", "_law_room", "_law_due", "_law_first", "_law_step", "_law_other", "_law_left", "_law_is_sound", "_law_bad_odds", "_law_bad", "_law_works", "_law_work", "e"] ["_law_script"] (defScope s_law) := ⟨rfl, rfl, rfl, by decide +kernel, rfl, by decide +kernel, by decide +kernel⟩
def lams_law : List (Expr × Bool) := [(lamAt s_law 4 [0], false), (lamAt s_law 5 [1, 0], true)]
def lm_law : List LM := [⟨1, [18], false, eCall F_shares (aCons (eOp oIx (eVar 0) (eC (.int 0))) (aCons (eOp oIx (eVar 0) (eC (.int 1))) (aCons (eOp oIx (eVar 0) (eC (.int 2))) (aCons (eOp oIx (eVar 0) (eC (.int 3))) (aNil)))))⟩, ⟨2, [18], true, eCall F_may_be_told (aCons (eOp oIx (eVar 1) (eC (.int 0))) (aCons (eOp oIx (eVar 1) (eC (.int 1))) (aCons (eOp oIx (eVar 1) (eC (.int 2))) (aCons (eOp oIx (eVar 1) (eC (.int 3))) (aNil)))))⟩]
def b_law : SF := sSw (sSeq (sSet 1 (eLstM (aCons (eVar 0) (aCons (eC (.int 0)) (aCons (eC (.int 6006)) (aCons (eC (.int 0)) (aNil))))))) (sSeq (sFor (iRg1 (eC (.int 6))) (gV 2) (sSeq (sSet 3 (eOp oAdd (eC (.int 3)) (eCall F__law_taken (aCons (eVar 1) (aCons (eC (.int 60)) (aNil)))))) (sSeq (sSet 4 (eOp oAdd (eC (.int 1)) (eCall F__law_taken (aCons (eVar 1) (aCons (eOp oSub (eVar 3) (eC (.int 2))) (aNil)))))) (sSeq (sPar 5 6 (aCons (eCall F__law_taken (aCons (eVar 1) (aCons (eVar 4) (aNil)))) (aCons (eCall F__law_taken (aCons (eVar 1) (aCons (eOp oAdd (eVar 4) (eC (.int 1))) (aNil)))) (aNil)))) (sSeq (sSet 7 (eLst (aCons (eTup (aCons (eC (.int 45)) (aCons (eC (.int 12)) (aCons (eC (.int 3)) (aCons (eC (.int 3)) (aNil)))))) (aCons (eTup (aCons (eC (.int 36)) (aCons (eC (.int 15)) (aCons (eC (.int 6)) (aCons (eC (.int 6)) (aNil)))))) (aCons (eTup (aCons (eC (.int 28)) (aCons (eC (.int 9)) (aCons (eC (.int 0)) (aCons (eC (.int 4)) (aNil)))))) (aCons (eTup (aCons (eC (.int 21)) (aCons (eC (.int 10)) (aCons (eC (.int 5)) (aCons (eC (.int 4)) (aNil)))))) (aCons (eTup (aCons (eC (.int 16)) (aCons (eC (.int 6)) (aCons (eC (.int 2)) (aCons (eC (.int 2)) (aNil)))))) (aNil)))))))) (sSeq (sSet 7 (eOp oAdd (eVar 7) (eLst (aCons (eTup (aCons (eC (.int 15)) (aCons (eC (.int 8)) (aCons (eC (.int 4)) (aCons (eC (.int 4)) (aNil)))))) (aCons (eTup (aCons (eC (.int 57)) (aCons (eC (.int 14)) (aCons (eC (.int 1)) (aCons (eC (.int 4)) (aNil)))))) (aCons (eTup (aCons (eC (.int 50)) (aCons (eC (.int 7)) (aCons (eC (.int 0)) (aCons (eC (.int 1)) (aNil)))))) (aNil))))))) (sSeq (sSet 7 (eOp oAdd (eVar 7) (eLst (aCons (eTup (aCons (eC (.int 9)) (aCons (eC (.int 4)) (aCons (eC (.int 1)) (aCons (eC (.int 2)) (aNil)))))) (aCons (eTup (aCons (eC (.int 13)) (aCons (eC (.int 6)) (aCons (eC (.int 2)) (aCons (eC (.int 3)) (aNil)))))) (aCons (eTup (aCons (eC (.int 6)) (aCons (eC (.int 2)) (aCons (eC (.int 1)) (aCons (eC (.int 0)) (aNil)))))) (aCons (eTup (aCons (eC (.int 21)) (aCons (eC (.int 10)) (aCons (eC (.int 4)) (aCons (eC (.int 5)) (aNil)))))) (aCons (eTup (aCons (eC (.int 33)) (aCons (eC (.int 16)) (aCons (eC (.int 7)) (aCons (eC (.int 8)) (aNil)))))) (aCons (eTup (aCons (eC (.int 5)) (aCons (eC (.int 2)) (aCons (eC (.int 0)) (aCons (eC (.int 1)) (aNil)))))) (aNil)))))))))) (sSeq (sSet 7 (eOp oAdd (eVar 7) (eLst (aCons (eTup (aCons (eC (.int 10)) (aCons (eC (.int 3)) (aCons (eC (.int 0)) (aCons (eC (.int 1)) (aNil)))))) (aNil))))) (sSeq (sIf (tVal (eOp oEq (eCall F__law_taken (aCons (eVar 1) (aCons (eC (.int 2)) (aNil)))) (eC (.int 0)))) (sSeq (sAsg (eCall F__law_pick (aCons (eVar 1) (aCons (eVar 7) (aNil)))) (gT (gConsF 3 (gConsF 4 (gConsF 5 (gConsF 6 (gNilF))))))) (sNx)) (sSeq (sIf (DL.tAnd (tVal (eOp oLt (eVar 4) (eOp oSub (eVar 3) (eC (.int 1))))) (tVal (eOp oEq (eOp oMod (eOp oMul (eVar 4) (eOp oSub (eOp oSub (eVar 4) (eVar 5)) (eC (.int 1)))) (eOp oSub (eOp oSub (eVar 3) (eVar 4)) (eC (.int 1)))) (eC (.int 0))))) (sSeq (sSet 6 (eCall (fB fMin) (aCons (eVar 4) (aCons (eOp oFdiv (eOp oMul (eVar 4) (eOp oSub (eOp oSub (eVar 4) (eVar 5)) (eC (.int 1)))) (eOp oSub (eOp oSub (eVar 3) (eVar 4)) (eC (.int 1)))) aNil)))) (sNx)) (sNx)) (sNx))) (sSeq (sSet 8 (eOp oSub (eVar 5) (eVar 6))) (sSeq (sPar 9 10 (aCons (eOp oAdd (eOp oMul (eC (.int 2)) (eVar 4)) (eOp oMul (eOp oSub (eVar 3) (eC (.int 1))) (eVar 8))) (aCons (eOp oAdd (eOp oMul (eVar 8) (eVar 8)) (eOp oMul (eC (.int 4)) (eOp oSub (eVar 4) (eVar 6)))) (aNil)))) (sSeq (sSet 11 (eLstM (aNil))) (sSeq (sFor (iRg1 (eVar 3)) (gV 12) (sSeq (sSet 13 (eOp oAdd (eOp oSub (eOp oMul (eC (.int 2)) (eVar 12)) (eVar 3)) (eC (.int 1)))) (sSeq (sIf (DL.tAnd (tVal (eOp oEq (eOp oMul (eVar 9) (eVar 9)) (eOp oMul (eOp oMul (eVar 13) (eVar 13)) (eVar 10)))) (tVal (eOp oLe (eOp oMul (eVar 9) (eVar 13)) (eC (.int 0))))) (sSeq (sExpr (eApp (eVar 11) (eTup (aCons (eVar 12) (aCons (eOp oSub (eOp oSub (eVar 3) (eC (.int 1))) (eVar 12)) (aNil)))))) (sNx)) (sNx)) (sNx)))) (sSeq (sIf (tVal (eOp oNe (eOp oMul (eVar 4) (eOp oSub (eOp oSub (eVar 4) (eVar 5)) (eC (.int 1)))) (eOp oMul (eOp oSub (eOp oSub (eVar 3) (eVar 4)) (eC (.int 1))) (eVar 6)))) (sSeq (sSet 11 (eLstM (aNil))) (sNx)) (sNx)) (sSeq (sIf (DL.tOr (DL.tNot (tTru (eCall F__law_alike (aCons (eCall F_shares (aCons (eVar 3) (aCons (eVar 4) (aCons (eVar 5) (aCons (eVar 6) (aNil)))))) (aCons (eIf (tVal (eOp oNe (eVar 11) (eLst (aNil)))) (eOp oIx (eVar 11) (eC (.int 0))) (eC .none)) (aNil)))))) (tVal (eOp oGt (eCall (fB fLen) (aCons (eVar 11) aNil)) (eC (.int 1))))) (sSeq (sRet (eC (.bool false))) (sNx)) (sNx)) (sSeq (sIf (DL.tNot (tTru (eCall F__law_alike (aCons (eCall F_may_be_told (aCons (eVar 3) (aCons (eVar 4) (aCons (eVar 5) (aCons (eVar 6) (aNil)))))) (aCons (eOp oNe (eVar 11) (eLst (aNil))) (aNil)))))) (sSeq (sRet (eC (.bool false))) (sNx)) (sNx)) (sSeq (sSet 14 (eCall F_rest_told (aCons (eVar 3) (aCons (eVar 4) (aCons (eVar 5) (aCons (eVar 6) (aNil))))))) (sSeq (sSet 15 (eOp oSub (eVar 3) (eOp oMul (eC (.int 2)) (eVar 4)))) (sSeq (sIf (DL.tNot (tTru (eCall F__law_alike (aCons (eVar 14) (aCons (eTup (aCons (eVar 3) (aCons (eOp oSub (eOp oSub (eVar 3) (eC (.int 1))) (eVar 4)) (aCons (eOp oAdd (eOp oSub (eVar 15) (eC (.int 2))) (eVar 6)) (aCons (eOp oAdd (eVar 15) (eVar 5)) (aNil)))))) (aNil)))))) (sSeq (sRet (eC (.bool false))) (sNx)) (sNx)) (sSeq (sSet 16 (eAnd (eChain oLe oLt (eC (.int 0)) (eOp oIx (eVar 14) (eC (.int 2))) (eOp oIx (eVar 14) (eC (.int 1)))) (eChain oLe oLe (eC (.int 0)) (eOp oIx (eVar 14) (eC (.int 3))) (eOp oIx (eVar 14) (eC (.int 1)))))) (sSeq (sIf (DL.tAnd (tVal (eOp oNe (eVar 11) (eLst (aNil)))) (DL.tAnd (tTru (eVar 16)) (tVal (eOp oNe (eCall F_shares (aCons (eOp oIx (eVar 14) (eC (.int 0))) (aCons (eOp oIx (eVar 14) (eC (.int 1))) (aCons (eOp oIx (eVar 14) (eC (.int 2))) (aCons (eOp oIx (eVar 14) (eC (.int 3))) (aNil)))))) (eRevT (eOp oIx (eVar 11) (eC (.int 0)))))))) (sSeq (sRet (eC (.bool false))) (sNx)) (sNx)) (sNx)))))))))))))))))))))) (sSeq (sSet 17 (eLst (aCons (eTup (aCons (eC .none) (aCons (eC (.int 3)) (aCons (eC (.int 0)) (aCons (eC (.int 1)) (aNil)))))) (aCons (eTup (aCons (eC (.int 2)) (aCons (eC (.int 1)) (aCons (eC (.int 0)) (aCons (eC (.int 1)) (aNil)))))) (aCons (eTup (aCons (eC (.int 1001)) (aCons (eC (.int 3)) (aCons (eC (.int 0)) (aCons (eC (.int 1)) (aNil)))))) (aCons (eTup (aCons (eC (.int 10)) (aCons (eC (.int 0)) (aCons (eC (.int 0)) (aCons (eC (.int 0)) (aNil)))))) (aNil))))))) (sSeq (sSet 18 (eCall F__law_pick (aCons (eVar 1) (aCons (eOp oAdd (eVar 17) (eLst (aCons (eTup (aCons (eC (.int 10)) (aCons (eC (.int 9)) (aCons (eC (.int 3)) (aCons (eC (.int 3)) (aNil)))))) (aCons (eTup (aCons (eC (.int 10)) (aCons (eC (.int 3)) (aCons (eC (.int 3)) (aCons (eC (.int 1)) (aNil)))))) (aCons (eTup (aCons (eC (.int 10)) (aCons (eC (.int 3)) (aCons (eC (.int 0)) (aCons (eC (.int 4)) (aNil)))))) (aCons (eTup (aCons (eC (.int 10)) (aCons (eC (.int 3)) (aCons (eC (.bool true)) (aCons (eC (.int 1)) (aNil)))))) (aNil))))))) (aNil))))) (sSeq (sSet 19 (eLstX (aCons (eLam 0) (aNil)))) (sSeq (sFor (iSeq (eOp oAddX (eVar 19) (eLstX (aCons (eLam 1) (aNil))))) (gV 20) (sSeq (sTry (sSeq (sExpr (eClo0 20 lm_law)) (sSeq (sRet (eC (.bool false))) (sNx))) "BadNumber" 21 (sSeq (sSet 3 (eC (.int 0))) (sNx))) (sNx))) (sSeq (sRet (eC (.bool true))) (sNx))))))))
def F_law : List DV → MM DV := runB 22 b_law
def LAMS : LamT := [(106, 18, "law.<locals>.<lambda>"), (107, 35, "law.<locals>.<lambda>")]
/-- what stands behind the top -/
structure Fx (K : PySem.W.Frag) (mg : Str → Option Value) (base : Heap) (T : Tb) where
  a__law_alike : Addr
  d__law_alike : FuncData
  D__law_alike : Dn K mg "_law_alike" s__law_alike ["_law_found", "_law_due"] a__law_alike d__law_alike
  a__law_taken : Addr
  d__law_taken : FuncData
  D__law_taken : Dn K mg "_law_taken" s__law_taken ["_law_row", "_law_many"] a__law_taken d__law_taken
  a__law_pick : Addr
  d__law_pick : FuncData
  D__law_pick : Dn K mg "_law_pick" s__law_pick ["_law_row", "_law_things"] a__law_pick d__law_pick
  a_is_number : Addr
  d_is_number : FuncData
  D_is_number : Dn K mg "is_number" s_is_number ["value", "low", "high"] a_is_number d_is_number
  a_need_four : Addr
  d_need_four : FuncData
  D_need_four : Dn K mg "need_four" s_need_four ["halls", "friends", "joined", "apart"] a_need_four d_need_four
  a_root_of : Addr
  d_root_of : FuncData
  D_root_of : Dn K mg "root_of" s_root_of ["number"] a_root_of d_root_of
  a_shares_of : Addr
  d_shares_of : FuncData
  D_shares_of : Dn K mg "shares_of" s_shares_of ["halls", "friends", "joined", "apart"] a_shares_of d_shares_of
  a_may_be_told : Addr
  d_may_be_told : FuncData
  D_may_be_told : Dn K mg "may_be_told" s_may_be_told ["halls", "friends", "joined", "apart"] a_may_be_told d_may_be_told
  a_rest_told : Addr
  d_rest_told : FuncData
  D_rest_told : Dn K mg "rest_told" s_rest_told ["halls", "friends", "joined", "apart"] a_rest_told d_rest_told
  a_shares : Addr
  d_shares : FuncData
  D_shares : Dn K mg "shares" s_shares ["halls", "friends", "joined", "apart"] a_shares d_shares
  a_law : Addr
  d_law : FuncData
  D_law : Dn K mg "law" s_law ["_law_script"] a_law d_law
  c_law : Addr
  p_law : Addr
  h_law : d_law.code = .ref c_law
  T_law : GxR.TabB base mg c_law p_law
  t_law : T.tab p_law
  U_law : LamX.TabB base mg c_law p_law
  z_bool : mg "bool" = none
  z_int : mg "int" = none
  z_isinstance : mg "isinstance" = none
  z_len : mg "len" = none
  z_list : mg "list" = none
  z_min : mg "min" = none
  z_range : mg "range" = none
  z_str : mg "str" = none
  z_tuple : mg "tuple" = none
  k_MOST_TOLD : ∃ t, mg "MOST_TOLD" = some (.int 1000 t)
  C_BadNumber : Addr
  x_BadNumber : Xc K mg "BadNumber" C_BadNumber
  m_BadNumber : PySem.W.exmOne K (.ref C_BadNumber) (.ref C_BadNumber) = some true
  L : T.lam = LAMS.tab
def Fx.lams {K : PySem.W.Frag} {mg : Str → Option Value} {base : Heap} {T : Tb} (E : Fx K mg base T) (nf : Nat → LF → Prop) : Fx K mg base (T.lams nf) := { a__law_alike := E.a__law_alike, d__law_alike := E.d__law_alike, D__law_alike := E.D__law_alike, a__law_taken := E.a__law_taken, d__law_taken := E.d__law_taken, D__law_taken := E.D__law_taken, a__law_pick := E.a__law_pick, d__law_pick := E.d__law_pick, D__law_pick := E.D__law_pick, a_is_number := E.a_is_number, d_is_number := E.d_is_number, D_is_number := E.D_is_number, a_need_four := E.a_need_four, d_need_four := E.d_need_four, D_need_four := E.D_need_four, a_root_of := E.a_root_of, d_root_of := E.d_root_of, D_root_of := E.D_root_of, a_shares_of := E.a_shares_of, d_shares_of := E.d_shares_of, D_shares_of := E.D_shares_of, a_may_be_told := E.a_may_be_told, d_may_be_told := E.d_may_be_told, D_may_be_told := E.D_may_be_told, a_rest_told := E.a_rest_told, d_rest_told := E.d_rest_told, D_rest_told := E.D_rest_told, a_shares := E.a_shares, d_shares := E.d_shares, D_shares := E.D_shares, a_law := E.a_law, d_law := E.d_law, D_law := E.D_law, c_law := E.c_law, p_law := E.p_law, h_law := E.h_law, T_law := E.T_law, t_law := E.t_law, U_law := E.U_law, z_bool := E.z_bool, z_int := E.z_int, z_isinstance := E.z_isinstance, z_len := E.z_len, z_list := E.z_list, z_min := E.z_min, z_range := E.z_range, z_str := E.z_str, z_tuple := E.z_tuple, k_MOST_TOLD := E.k_MOST_TOLD, C_BadNumber := E.C_BadNumber, x_BadNumber := E.x_BadNumber, m_BadNumber := E.m_BadNumber, L := E.L }
theorem dss_lams_law {X : Cx} {T : Tb} {Wx : WX} {body : List Stmt} {b : SF} (k : Nat) (q : Str) (l : List (Expr × Bool)) (tb : List LM) (E : Fx X.K X.mg X.base T) (la : Fx X.K X.mg X.base (T.lams (nfX q l X)) → ∀ pn xe, LAll (X.tr pn xe) (T.lams (nfX q l X)) k q l tb) (h : ∀ E' : Fx X.K X.mg X.base (T.lams (nfX q l X)), E'.c_law = E.c_law → (∀ pn xe, LAll (X.tr pn xe) (T.lams (nfX q l X)) k q l tb) → DSs X (T.lams (nfX q l X)) Wx body b) : DSs X T Wx body (sSw b) := dss_sw (T' := T.lams (nfX q l X)) rfl rfl rfl (h (E.lams _) rfl (la (E.lams _)))
end K06
end
section
/-! K06P: the law is true. -/
namespace K06
open PySem DL ML
theorem turns (ns : List Int) (v0 v2 v3 v4 v5 v6 v7 v8 v9 v10 v11 v12 v13 v14 v15 v16 : Option DV) (i : Nat) (e c : Int) (rest : Sto) :
    ∃ w2 w3 w4 w5 w6 w7 w8 w9 w10 w11 w12 w13 w14 w15 w16 i' e' c' rest', forL (gV 2) (headB tail1B) (rng 0 6) [v0, some (.mu 0), v2, v3, v4, v5, v6, v7, v8, v9, v10, v11, v12, v13, v14, v15, v16, none, none, none, none, none] (row6 ns i e c rest) =
      some (.fl .nx [v0, some (.mu 0), w2, w3, w4, w5, w6, w7, w8, w9, w10, w11, w12, w13, w14, w15, w16, none, none, none, none, none], row6 ns i' e' c' rest') := by
  obtain ⟨r', st', run, fin⟩ := forL_inv (g := gV 2) (b := headB tail1B) (fun _ r st => (∃ w2 w3 w4 w5 w6 w7 w8 w9 w10 w11 w12 w13 w14 w15 w16, r = [v0, some (.mu 0), w2, w3, w4, w5, w6, w7, w8, w9, w10, w11, w12, w13, w14, w15, w16, none, none, none, none, none]) ∧ ∃ i e c rest, st = row6 ns i e c rest)
    (by
      rintro x xs r st ⟨⟨w2, w3, w4, w5, w6, w7, w8, w9, w10, w11, w12, w13, w14, w15, w16, rfl⟩, i, e, c, rest, rfl⟩
      obtain ⟨N, f, a, b, w7', i', e', c', F, go⟩ := head_ok (ns := ns) (i := i) (e := e) (c := c) (rest := rest) (v0 := v0) (v2 := some x) (v3 := w3) (v4 := w4) (v5 := w5) (v6 := w6) (v7 := w7) (v8 := w8) (v9 := w9) (v10 := w10) (v11 := w11) (v12 := w12) (v13 := w13) (v14 := w14) (v15 := w15) (v16 := w16) (v17 := none) (v18 := none) (v19 := none) (v20 := none) (v21 := none)
      obtain ⟨z8, z9, z10, z11, z12, z13, z14, z15, z16, more, tl⟩ := tail1_ok (N := N) (f := f) (a := a) (b := b) (v0 := v0) (v2 := some x) (v7 := w7') (v8 := w8) (v9 := w9) (v10 := w10) (v11 := w11) (v12 := w12) (v13 := w13) (v14 := w14) (v15 := w15) (v16 := w16) (v17 := none) (v18 := none) (v19 := none) (v20 := none) (v21 := none) (st := row6 ns i' e' c' rest) F
      exact ⟨_, _, _, rfl, go tail1B _ tl, ⟨_, _, _, _, _, _, _, _, _, _, _, _, _, _, _, rfl⟩, i', e', c', rest ++ more, rfl⟩)
    (rng 0 6) [v0, some (.mu 0), v2, v3, v4, v5, v6, v7, v8, v9, v10, v11, v12, v13, v14, v15, v16, none, none, none, none, none] (row6 ns i e c rest) ⟨⟨v2, v3, v4, v5, v6, v7, v8, v9, v10, v11, v12, v13, v14, v15, v16, rfl⟩, i, e, c, rest, rfl⟩
  obtain ⟨⟨w2, w3, w4, w5, w6, w7, w8, w9, w10, w11, w12, w13, w14, w15, w16, rfl⟩, i', e', c', rest', rfl⟩ := fin
  exact ⟨w2, w3, w4, w5, w6, w7, w8, w9, w10, w11, w12, w13, w14, w15, w16, i', e', c', rest', run⟩
theorem sSw_rt {b : SF} {r r' : Rho} {st st' : Sto} {p : PyData} (h : b r st = some (.fl (.rt (.d p)) r', st')) (n : (noClo st && noClo (st'.take st.length)) = true) : sSw b r st = some (.fl (.rt (.d p)) r, st'.take st.length) := by
  unfold sSw
  rw [h]
  dsimp only
  rw [if_pos n]
/-- a lambda called: it raises -/
theorem clo_bad {r : Rho} {st : Sto} {k j : Nat} {p q u v : PyData} (h20 : r[20]? = some (some (.mu k))) (h18 : r[18]? = some (some (.d (.tuple [p, q, u, v])))) (hk : st[k]? = some (.clo j)) (hj : j < 2) (h : F_need_four [.d p, .d q, .d u, .d v] st = some (.er noNum, st)) :
    eClo0 20 lm_law r st = some (.er noNum, st) := by
  have ix : ∀ (r : Rho) (s : Nat), r[s]? = some (some (.d (.tuple [p, q, u, v]))) → aCons (eOp oIx (eVar s) (eC (.int 0))) (aCons (eOp oIx (eVar s) (eC (.int 1))) (aCons (eOp oIx (eVar s) (eC (.int 2))) (aCons (eOp oIx (eVar s) (eC (.int 3))) (aNil)))) r st = some (.ok [.d p, .d q, .d u, .d v], st) := fun r s h =>
    xCons (xOp (xVar h) xC (oIx_t st (i := 0) (atI_nat' (i := 0) rfl))) (xCons (xOp (xVar h) xC (oIx_t st (i := 1) (atI_nat' (i := 1) rfl))) (xCons (xOp (xVar h) xC (oIx_t st (i := 2) (atI_nat' (i := 2) rfl))) (xCons (xOp (xVar h) xC (oIx_t st (i := 3) (atI_nat' (i := 3) rfl))) xNil)))
  have slot : (r[18]?).getD none = some (.d (.tuple [p, q, u, v])) := by rw [h18]; rfl
  unfold eClo0
  rw [h20]
  dsimp only
  rw [hk]
  dsimp only
  match j, hj with
  | 0, _ =>
    show runL ⟨1, [18], false, eCall F_shares (aCons (eOp oIx (eVar 0) (eC (.int 0))) (aCons (eOp oIx (eVar 0) (eC (.int 1))) (aCons (eOp oIx (eVar 0) (eC (.int 2))) (aCons (eOp oIx (eVar 0) (eC (.int 3))) (aNil)))))⟩ r [] st = _
    have run := xCall (F := F_shares) (ix (rhoL 1 r [18] []) 0 (by show some ((r[18]?).getD none) = _; rw [slot])) (shares_bad h)
    unfold runL
    show endL st.length (eCall F_shares _ (rhoL 1 r [18] []) st) = _
    rw [run]
    show some (Rs.er noNum, st.take st.length) = _
    rw [List.take_length]
  | 1, _ =>
    show runL ⟨2, [18], true, eCall F_may_be_told (aCons (eOp oIx (eVar 1) (eC (.int 0))) (aCons (eOp oIx (eVar 1) (eC (.int 1))) (aCons (eOp oIx (eVar 1) (eC (.int 2))) (aCons (eOp oIx (eVar 1) (eC (.int 3))) (aNil)))))⟩ r [] st = _
    have run := xCall (F := F_may_be_told) (ix (rhoL 2 r [18] [.d (.int 0)]) 1 (by show some ((r[18]?).getD none) = _; rw [slot])) (may_bad h)
    unfold runL
    show endL st.length (eCall F_may_be_told _ (rhoL 2 r [18] [.d (.int 0)]) st) = _
    rw [run]
    show some (Rs.er noNum, st.take st.length) = _
    rw [List.take_length]
theorem law_true (ns : List Int) (hl : ns.length ≤ 63) : ∃ st', F_law [.d (.list (ns.map .int))] [] = some (.ok (.d (.bool true)), st') := by
  obtain ⟨w2, w3, w4, w5, w6, w7, w8, w9, w10, w11, w12, w13, w14, w15, w16, i1, e1, c1, rest, lp⟩ := turns ns (some (.d (.list (ns.map .int)))) none none none none none none none none none none none none none none none 0 6006 0 []
  obtain ⟨d, i2, e2, c2, hd, t2⟩ := pick_ok (k := 0) (st := row6 ns i1 e1 c1 rest) (ds := odds6) rfl (by show 0 < 8; decide) (by show 8 < 1000000; decide)
  obtain ⟨p, q, u, v, rfl, bad⟩ := odd_four hd
  have lst4 : ∀ {as : AF} {r : Rho} {st : Sto} {x y z w : PyData}, as r st = some (.ok [.d x, .d y, .d z, .d w], st) → eLst as r st = some (.ok (.d (.list [x, y, z, w])), st) := fun h => xLst h rfl (show 4 ≤ sizeLine by decide)
  have four' : ∀ {r : Rho} {st : Sto} {i j k l : PyData}, eTup (aCons (eC i) (aCons (eC j) (aCons (eC k) (aCons (eC l) aNil)))) r st = some (.ok (.d (.tuple [i, j, k, l])), st) := xTup (xCons xC (xCons xC (xCons xC (xCons xC xNil)))) rfl (show 4 ≤ sizeLine by decide)
  generalize hS : row6 ns i2 e2 c2 rest = S
  have hS2 : (row6 ns i1 e1 c1 rest).set 0 (.lst (rowD ns i2 e2 c2)) = S := by rw [← hS]; rfl
  rw [hS2] at t2
  have lam0 : ∀ r : Rho, eLstX (aCons (eLam 0) aNil) r S = some (.ok (.xl [.m S.length]), S ++ [.clo 0]) := fun r => rfl
  have lam1 : ∀ r : Rho, r[19]? = some (some (.xl [.m S.length])) → eOp oAddX (eVar 19) (eLstX (aCons (eLam 1) (aNil))) r (S ++ [.clo 0]) = some (.ok (.xl [.m S.length, .m (S ++ [Ct.clo 0]).length]), S ++ [.clo 0] ++ [.clo 1]) := fun r h =>
    xOp (xVar h) (show eLstX (aCons (eLam 1) aNil) r (S ++ [.clo 0]) = some (.ok (.xl [.m (S ++ [Ct.clo 0]).length]), S ++ [.clo 0] ++ [.clo 1]) from rfl) rfl
  have at0 : (S ++ [Ct.clo 0] ++ [Ct.clo 1])[S.length]? = some (.clo 0) := by simp
  have at1 : (S ++ [Ct.clo 0] ++ [Ct.clo 1])[(S ++ [Ct.clo 0]).length]? = some (.clo 1) := by rw [List.getElem?_append_right (Nat.le_refl _), Nat.sub_self]; rfl
  generalize S ++ [Ct.clo 0] ++ [Ct.clo 1] = S2 at lam1 at0 at1
  generalize hk1 : (S ++ [Ct.clo 0]).length = k1 at lam1 at1
  have turn : ∀ (y3 y20 : Option DV) (k j : Nat), S2[k]? = some (.clo j) → j < 2 → sSeq (sTry (sSeq (sExpr (eClo0 20 lm_law)) (sSeq (sRet (eC (.bool false))) (sNx))) "BadNumber" 21 (sSeq (sSet 3 (eC (.int 0))) (sNx))) (sNx)
      [some (.d (.list (ns.map .int))), some (.mu 0), w2, y3, w4, w5, w6, w7, w8, w9, w10, w11, w12, w13, w14, w15, w16, some (.d (.list [.tuple [.none, .int 3, .int 0, .int 1], .tuple [.int 2, .int 1, .int 0, .int 1], .tuple [.int 1001, .int 3, .int 0, .int 1], .tuple [.int 10, .int 0, .int 0, .int 0]])), some (.d (.tuple [p, q, u, v])), some (.xl [.m S.length]), some (.mu k), none] S2 =
      some (.fl .nx [some (.d (.list (ns.map .int))), some (.mu 0), w2, some (.d (.int 0)), w4, w5, w6, w7, w8, w9, w10, w11, w12, w13, w14, w15, w16, some (.d (.list [.tuple [.none, .int 3, .int 0, .int 1], .tuple [.int 2, .int 1, .int 0, .int 1], .tuple [.int 1001, .int 3, .int 0, .int 1], .tuple [.int 10, .int 0, .int 0, .int 0]])), some (.d (.tuple [p, q, u, v])), some (.xl [.m S.length]), some (.mu k), none], S2) :=
    fun y3 y20 k j hk hj => yNx (tryEr (yEr (yExprE (clo_bad rfl rfl hk hj (bad S2)))) (yNx (ySet xC) yEnd)) yEnd
  have fin := fRtS (N := 22) (b := b_law) (xs := [.d (.list (ns.map .int))]) (st := []) (v := .d (.bool true)) rfl (by
    show sSw _ _ _ = _
    exact sSw_rt (yNx (ySet (i := 1) (xLstM (xCons (xVar (i := 0) rfl) (xCons xC (xCons xC (xCons xC xNil)))) rfl (show 4 ≤ sizeLine by decide)))
      (yNx (yFor (zRg1 (n := 6) xC (by decide)) lp)
      (yNx (ySet (i := 17) (lst4 (xCons four' (xCons four' (xCons four' (xCons four' xNil))))))
      (yNx (ySet (i := 18) (xCall (xCons (xVar (i := 1) rfl) (xCons (xOp (xVar (i := 17) rfl) (lst4 (xCons four' (xCons four' (xCons four' (xCons four' xNil))))) (oAdd_ll _ (show 4 + 4 ≤ 100 by decide))) xNil)) t2))
      (yNx (ySet (i := 19) (lam0 _))
      (yNx (yFor (zSeq (lam1 _ rfl) rfl) ((forL_nx rfl (turn _ none _ 0 at0 (by decide))).trans ((forL_nx rfl (turn _ none _ 1 at1 (by decide))).trans rfl)))
      (yRt (yRet xC)))))))) rfl) rfl
  exact ⟨_, fin⟩
end K06
end
section
/-! printed by gen.py from the law's text: the derivations -/
namespace K06
open PySem PySem.Spec PyProof.Rows L2 DL ML
section
variable {P : Program} {w : World} {K : PySem.W.Frag} {mg : Str → Option Value} {base : Heap} {T : Tb}
theorem okn__law_alike (E : Fx K mg base T) : ∀ n : Nat, FnOk P w K mg base (L2.CX P w) (1 + n) E.a__law_alike E.d__law_alike ["_law_found", "_law_due"] (spD K mg T 2 (F__law_alike_n n))
  | 0 => fn_d (k := 0) E.D__law_alike.F sc__law_alike fun cdv A outer s H Ex hr tk po => dss_none
  | n + 1 => by
    have Grec : FnOk P w K mg base (L2.CX P w) (1 + n) E.a__law_alike E.d__law_alike ["_law_found", "_law_due"] (spD K mg T 2 (F__law_alike_n n)) := okn__law_alike E n
    exact fn_d (k := 1 + n) E.D__law_alike.F sc__law_alike fun cdv A outer s H Ex hr tk po =>
      dss_cons (ds_if (dt_truth (de_isi2 (t1 := .tuple) (t2 := .list) (by rfl) E.z_isinstance (by rfl) E.z_tuple (by rfl) (by rfl) E.z_list (by rfl) (vC 1) (by decide) (by decide) (by decide) (by decide))) (dss_cons (ds_if (dw_pt (dw_or (dt_not (dt_truth (de_isi2 (t1 := .tuple) (t2 := .list) (by rfl) E.z_isinstance (by rfl) E.z_tuple (by rfl) (by rfl) E.z_list (by rfl) (vC 0) (by decide) (by decide) (by decide) (by decide)))) (dw_or1 (dt_cmp (op_neD (Room.units hr)) opd_ne (de_isi (t := .list) (by rfl) E.z_isinstance (by rfl) E.z_list (by rfl) (vC 0) (by decide) (by decide)) (de_isi (t := .list) (by rfl) E.z_isinstance (by rfl) E.z_list (by rfl) (vC 1) (by decide) (by decide)))))) (dss_cons (ds_ret (de_bl)) (dss_nil)) (dss_nil)) (dss_cons (ds_if (dt_cmp (op_neD (Room.units hr)) opd_ne (bLen E.z_len (vC 0)) (bLen E.z_len (vC 1))) (dss_cons (ds_ret (de_bl)) (dss_nil)) (dss_nil)) (dss_cons (ds_ret (de_cmp (op_eqD (Room.units hr)) opd_eq (de_lc (own := [("_law_k", 2)]) rfl sc__law_alike.nd (di_rg1 (by rfl) E.z_range (bLen E.z_len (vC 1))) (blkOk_by rfl) (fun _ _ _ _ _ => pg_name (i := 2) sc__law_alike.nd rfl (.inl rfl)) (gok_name) (by decide) (fun _ _ _ _ _ => ptd_one (dt_not (dt_truth (de_call Grec E.D__law_alike (Room.mono hr (Nat.le_refl _)) takes0 (by rfl) (da_cons (de_ix (vC 0) (vL 2)) (da_cons (de_ix (vC 1) (vL 2)) (da_nil))) (aCons_len (aCons_len aNil_len)))))) (fun _ _ _ _ _ => vL 2)) (de_lst (da_nil)))) (dss_nil)))) (dss_nil)) (dss_cons (ds_if (dw_pt (dw_or (dt_cmp op_isA opd_is (vC 1) (de_non)) (dw_or1 (dt_truth (de_isi (t := .str) (by rfl) E.z_isinstance (by rfl) E.z_str (by rfl) (vC 1) (by decide) (by decide)))))) (dss_cons (ds_ret (de_and (de_cmp (op_eqD (Room.units hr)) opd_eq (vC 0) (vC 1)) (de_one (de_cmp (op_eqD (Room.units hr)) opd_eq (de_isi (t := .str) (by rfl) E.z_isinstance (by rfl) E.z_str (by rfl) (vC 0) (by decide) (by decide)) (de_isi (t := .str) (by rfl) E.z_isinstance (by rfl) E.z_str (by rfl) (vC 1) (by decide) (by decide)))))) (dss_nil)) (dss_nil)) (dss_cons (ds_ret (de_and (de_isi (t := .int) (by rfl) E.z_isinstance (by rfl) E.z_int (by rfl) (vC 0) (by decide) (by decide)) (de_and (de_cmp (op_eqD (Room.units hr)) opd_eq (de_isi (t := .bool) (by rfl) E.z_isinstance (by rfl) E.z_bool (by rfl) (vC 0) (by decide) (by decide)) (de_isi (t := .bool) (by rfl) E.z_isinstance (by rfl) E.z_bool (by rfl) (vC 1) (by decide) (by decide))) (de_one (de_cmp (op_eqD (Room.units hr)) opd_eq (vC 0) (vC 1)))))) (dss_nil)))
theorem ok__law_alike (E : Fx K mg base T) : FnOk P w K mg base (L2.CX P w) 9 E.a__law_alike E.d__law_alike ["_law_found", "_law_due"] (spD K mg T 2 F__law_alike) := okn__law_alike E 8
theorem ok__law_taken (E : Fx K mg base T) : FnOk P w K mg base (L2.CX P w) 1 E.a__law_taken E.d__law_taken ["_law_row", "_law_many"] (spD K mg T 2 F__law_taken) :=
  fn_d (k := 0) E.D__law_taken.F sc__law_taken fun cdv A outer s H Ex hr tk po =>
    dss_cons (ds_if (dt_cmp op_gt opd_gt (de_ix (vL 0) (de_int)) (de_int)) (dss_cons (ds_set (i := 2) (de_op op_modN opd_mod (bInt E.z_int (de_ix (vL 0) (de_int))) (vL 1)) (fun _ h => ps_set sc__law_taken.nd rfl (.inl rfl) h)) (dss_cons (ds_put (Room.u1 hr) (de_op op_fdivN opd_fdiv (de_ix (vL 0) (de_int)) (vL 1)) (vL 0) (de_int) (fun _ _ _ _ h1 h2 h3 h4 => ps_asg h1 (pg_sub h2 h3 h4))) (dss_cons (ds_ret (vL 2)) (dss_nil)))) (dss_nil)) (dss_cons (ds_put (Room.u1 hr) (de_op op_addA opd_add (de_ix (vL 0) (de_int)) (de_int)) (vL 0) (de_int) (fun _ _ _ _ h1 h2 h3 h4 => ps_asg h1 (pg_sub h2 h3 h4))) (dss_cons (ds_if (dt_cmp op_gt opd_gt (de_ix (vL 0) (de_int)) (bLen E.z_len (de_ix (vL 0) (de_int)))) (dss_cons (ds_put (Room.u1 hr) (de_op op_modN opd_mod (bInt E.z_int (de_op op_addA opd_add (de_op op_mul opd_mul (de_ix (vL 0) (de_int)) (de_int)) (de_int))) (de_int)) (vL 0) (de_int) (fun _ _ _ _ h1 h2 h3 h4 => ps_asg h1 (pg_sub h2 h3 h4))) (dss_cons (ds_ret (de_op op_modN opd_mod (bInt E.z_int (de_op op_fdivN opd_fdiv (de_ix (vL 0) (de_int)) (de_int))) (vL 1))) (dss_nil))) (dss_nil)) (dss_cons (ds_set (i := 3) (de_ix (de_ix (vL 0) (de_int)) (de_op op_sub opd_sub (de_ix (vL 0) (de_int)) (de_int))) (fun _ h => ps_set sc__law_taken.nd rfl (.inl rfl) h)) (dss_cons (ds_put (Room.u1 hr) (de_op op_modN opd_mod (bInt E.z_int (de_op op_addA opd_add (de_op op_addA opd_add (de_op op_mul opd_mul (de_ix (vL 0) (de_int)) (de_int)) (vL 3)) (de_int))) (de_int)) (vL 0) (de_int) (fun _ _ _ _ h1 h2 h3 h4 => ps_asg h1 (pg_sub h2 h3 h4))) (dss_cons (ds_if (dt_cmp op_ge opd_ge (vL 3) (de_op op_pow opd_pow (de_int) (de_int))) (dss_cons (ds_put (Room.u1 hr) (de_op op_fdivN opd_fdiv (vL 3) (vL 1)) (vL 0) (de_int) (fun _ _ _ _ h1 h2 h3 h4 => ps_asg h1 (pg_sub h2 h3 h4))) (dss_nil)) (dss_nil)) (dss_cons (ds_ret (de_op op_modN opd_mod (bInt E.z_int (vL 3)) (vL 1))) (dss_nil)))))))
theorem ok__law_pick (E : Fx K mg base T) : FnOk P w K mg base (L2.CX P w) 2 E.a__law_pick E.d__law_pick ["_law_row", "_law_things"] (spD K mg T 2 F__law_pick) :=
  fn_d (k := 1) E.D__law_pick.F sc__law_pick fun cdv A outer s H Ex hr tk po =>
    dss_cons (ds_ret (de_ix (vL 1) (de_call (ok__law_taken E) E.D__law_taken (Room.mono hr (by decide)) tk (by rfl) (da_cons (vL 0) (da_cons (bLen E.z_len (vL 1)) (da_nil))) (aCons_len (aCons_len aNil_len))))) (dss_nil)
theorem ok_is_number (E : Fx K mg base T) : FnOk P w K mg base (L2.CX P w) 1 E.a_is_number E.d_is_number ["value", "low", "high"] (spD K mg T 3 F_is_number) :=
  fn_d (k := 0) E.D_is_number.F sc_is_number fun cdv A outer s H Ex hr tk po =>
    dss_cons (ds_ret (de_and (de_isi (t := .int) (by rfl) E.z_isinstance (by rfl) E.z_int (by rfl) (vL 0) (by decide) (by decide)) (de_and (de_not (de_isi (t := .bool) (by rfl) E.z_isinstance (by rfl) E.z_bool (by rfl) (vL 0) (by decide) (by decide))) (de_one (de_chain op_le op_le opd_le opd_le (vL 1) (vL 0) (vL 2) (pe_chain op_le op_le (vL 1) (vL 0) (vL 2))))))) (dss_nil)
theorem ok_need_four (E : Fx K mg base T) : FnOk P w K mg base (L2.CX P w) 2 E.a_need_four E.d_need_four ["halls", "friends", "joined", "apart"] (spD K mg T 4 F_need_four) :=
  fn_d (k := 1) E.D_need_four.F sc_need_four fun cdv A outer s H Ex hr tk po =>
    dss_cons (ds_if (dt_not (dt_truth (de_call (ok_is_number E) E.D_is_number (Room.mono hr (by decide)) tk (by rfl) (da_cons (vL 0) (da_cons (de_int) (da_cons (gInt E.k_MOST_TOLD) (da_nil)))) (aCons_len (aCons_len (aCons_len aNil_len)))))) (dss_cons (ds_raise0 rfl tk E.x_BadNumber (by rfl)) (dss_nil)) (dss_nil)) (dss_cons (ds_if (dt_not (dt_truth (de_call (ok_is_number E) E.D_is_number (Room.mono hr (by decide)) tk (by rfl) (da_cons (vL 1) (da_cons (de_int) (da_cons (de_op op_sub opd_sub (vL 0) (de_int)) (da_nil)))) (aCons_len (aCons_len (aCons_len aNil_len)))))) (dss_cons (ds_raise0 rfl tk E.x_BadNumber (by rfl)) (dss_nil)) (dss_nil)) (dss_cons (ds_if (dw_pt (dw_or (dt_not (dt_truth (de_call (ok_is_number E) E.D_is_number (Room.mono hr (by decide)) tk (by rfl) (da_cons (vL 2) (da_cons (de_int) (da_cons (de_op op_sub opd_sub (vL 1) (de_int)) (da_nil)))) (aCons_len (aCons_len (aCons_len aNil_len)))))) (dw_or1 (dt_not (dt_truth (de_call (ok_is_number E) E.D_is_number (Room.mono hr (by decide)) tk (by rfl) (da_cons (vL 3) (da_cons (de_int) (da_cons (vL 1) (da_nil)))) (aCons_len (aCons_len (aCons_len aNil_len))))))))) (dss_cons (ds_raise0 rfl tk E.x_BadNumber (by rfl)) (dss_nil)) (dss_nil)) (dss_nil)))
theorem ok_root_of (E : Fx K mg base T) : FnOk P w K mg base (L2.CX P w) 1 E.a_root_of E.d_root_of ["number"] (spD K mg T 1 F_root_of) :=
  fn_d (k := 0) E.D_root_of.F sc_root_of fun cdv A outer s H Ex hr tk po =>
    dss_cons (ds_set (i := 1) (de_int) (fun _ h => ps_set sc_root_of.nd rfl (.inl rfl) h)) (dss_cons (ds_while (dt_cmp (op_ltA (Room.units0 hr)) opd_lt (de_op op_mul opd_mul (vL 1) (vL 1)) (vL 0)) (dss_cons (ds_aug (i := 1) sc_root_of.nd rfl (.inl rfl) (de_int) pip_add hti_add) (dss_nil)) (fun _ _ h1 h2 => ps_while po h1 h2)) (dss_cons (ds_ret (de_if (dt_cmp (op_eqD (Room.units hr)) opd_eq (de_op op_mul opd_mul (vL 1) (vL 1)) (vL 0)) (vL 1) (de_non))) (dss_nil)))
theorem ok_shares_of (E : Fx K mg base T) : FnOk P w K mg base (L2.CX P w) 2 E.a_shares_of E.d_shares_of ["halls", "friends", "joined", "apart"] (spD K mg T 4 F_shares_of) :=
  fn_d (k := 1) E.D_shares_of.F sc_shares_of fun cdv A outer s H Ex hr tk po =>
    dss_cons (ds_if (dt_cmp (op_neD (Room.units hr)) opd_ne (de_op op_mul opd_mul (vL 1) (de_op op_sub opd_sub (de_op op_sub opd_sub (vL 1) (vL 2)) (de_int))) (de_op op_mul opd_mul (de_op op_sub opd_sub (de_op op_sub opd_sub (vL 0) (vL 1)) (de_int)) (vL 3))) (dss_cons (ds_ret (de_non)) (dss_nil)) (dss_nil)) (dss_cons (ds_set (i := 4) (de_op op_addA opd_add (de_op op_mul opd_mul (de_int) (vL 1)) (de_op op_mul opd_mul (de_op op_sub opd_sub (vL 0) (de_int)) (de_op op_sub opd_sub (vL 2) (vL 3)))) (fun _ h => ps_set sc_shares_of.nd rfl (.inl rfl) h)) (dss_cons (ds_if (dt_cmp (op_eqD (Room.units hr)) opd_eq (vL 4) (de_int)) (dss_cons (ds_ret (de_if (dt_cmp (op_eqD (Room.units hr)) opd_eq (de_op op_modN opd_mod (vL 0) (de_int)) (de_int)) (de_tup (da_cons (de_op op_fdivN opd_fdiv (de_op op_sub opd_sub (vL 0) (de_int)) (de_int)) (da_cons (de_op op_fdivN opd_fdiv (de_op op_sub opd_sub (vL 0) (de_int)) (de_int)) (da_nil)))) (de_non))) (dss_nil)) (dss_nil)) (dss_cons (ds_set (i := 5) (de_call (ok_root_of E) E.D_root_of (Room.mono hr (by decide)) tk (by rfl) (da_cons (de_op op_addA opd_add (de_op op_mul opd_mul (de_op op_sub opd_sub (vL 2) (vL 3)) (de_op op_sub opd_sub (vL 2) (vL 3))) (de_op op_mul opd_mul (de_int) (de_op op_sub opd_sub (vL 1) (vL 3)))) (da_nil)) (aCons_len aNil_len)) (fun _ h => ps_set sc_shares_of.nd rfl (.inl rfl) h)) (dss_cons (ds_if (dw_pt (dw_or (dt_cmp op_isA opd_is (vL 5) (de_non)) (dw_or (dt_cmp (op_eqD (Room.units hr)) opd_eq (vL 5) (de_int)) (dw_or (dt_truth (de_op op_modN opd_mod (vL 4) (vL 5))) (dw_or1 (dt_truth (de_op op_modN opd_mod (de_op op_sub opd_sub (de_op op_sub opd_sub (vL 0) (de_int)) (de_op op_fdivN opd_fdiv (vL 4) (vL 5))) (de_int)))))))) (dss_cons (ds_ret (de_non)) (dss_nil)) (dss_nil)) (dss_cons (ds_set (i := 6) (de_op op_fdivN opd_fdiv (de_op op_sub opd_sub (de_op op_sub opd_sub (vL 0) (de_int)) (de_op op_fdivN opd_fdiv (vL 4) (vL 5))) (de_int)) (fun _ h => ps_set sc_shares_of.nd rfl (.inl rfl) h)) (dss_cons (ds_ret (de_if (dt_chain2 op_le op_le opd_le opd_le (de_int) (vL 6) (de_op op_sub opd_sub (vL 0) (de_int)) (pt_chain op_le op_le (de_int) (vL 6) (de_op op_sub opd_sub (vL 0) (de_int)))) (de_tup (da_cons (vL 6) (da_cons (de_op op_sub opd_sub (de_op op_sub opd_sub (vL 0) (de_int)) (vL 6)) (da_nil)))) (de_non))) (dss_nil)))))))
theorem ok_may_be_told (E : Fx K mg base T) : FnOk P w K mg base (L2.CX P w) 3 E.a_may_be_told E.d_may_be_told ["halls", "friends", "joined", "apart"] (spD K mg T 4 F_may_be_told) :=
  fn_d (k := 2) E.D_may_be_told.F sc_may_be_told fun cdv A outer s H Ex hr tk po =>
    dss_cons (ds_expr (de_call (ok_need_four E) E.D_need_four (Room.mono hr (by decide)) tk (by rfl) (da_cons (vL 0) (da_cons (vL 1) (da_cons (vL 2) (da_cons (vL 3) (da_nil))))) (aCons_len (aCons_len (aCons_len (aCons_len aNil_len)))))) (dss_cons (ds_ret (de_cmp op_notA opd_not (de_call (ok_shares_of E) E.D_shares_of (Room.mono hr (by decide)) tk (by rfl) (da_cons (vL 0) (da_cons (vL 1) (da_cons (vL 2) (da_cons (vL 3) (da_nil))))) (aCons_len (aCons_len (aCons_len (aCons_len aNil_len))))) (de_non))) (dss_nil))
theorem ok_rest_told (E : Fx K mg base T) : FnOk P w K mg base (L2.CX P w) 3 E.a_rest_told E.d_rest_told ["halls", "friends", "joined", "apart"] (spD K mg T 4 F_rest_told) :=
  fn_d (k := 2) E.D_rest_told.F sc_rest_told fun cdv A outer s H Ex hr tk po =>
    dss_cons (ds_expr (de_call (ok_need_four E) E.D_need_four (Room.mono hr (by decide)) tk (by rfl) (da_cons (vL 0) (da_cons (vL 1) (da_cons (vL 2) (da_cons (vL 3) (da_nil))))) (aCons_len (aCons_len (aCons_len (aCons_len aNil_len)))))) (dss_cons (ds_ret (de_tup (da_cons (vL 0) (da_cons (de_op op_sub opd_sub (de_op op_sub opd_sub (vL 0) (de_int)) (vL 1)) (da_cons (de_op op_addA opd_add (de_op op_sub opd_sub (de_op op_sub opd_sub (vL 0) (de_int)) (de_op op_mul opd_mul (de_int) (vL 1))) (vL 3)) (da_cons (de_op op_addA opd_add (de_op op_sub opd_sub (vL 0) (de_op op_mul opd_mul (de_int) (vL 1))) (vL 2)) (da_nil))))))) (dss_nil))
theorem ok_shares (E : Fx K mg base T) : FnOk P w K mg base (L2.CX P w) 3 E.a_shares E.d_shares ["halls", "friends", "joined", "apart"] (spD K mg T 4 F_shares) :=
  fn_d (k := 2) E.D_shares.F sc_shares fun cdv A outer s H Ex hr tk po =>
    dss_cons (ds_expr (de_call (ok_need_four E) E.D_need_four (Room.mono hr (by decide)) tk (by rfl) (da_cons (vL 0) (da_cons (vL 1) (da_cons (vL 2) (da_cons (vL 3) (da_nil))))) (aCons_len (aCons_len (aCons_len (aCons_len aNil_len)))))) (dss_cons (ds_ret (de_call (ok_shares_of E) E.D_shares_of (Room.mono hr (by decide)) tk (by rfl) (da_cons (vL 0) (da_cons (vL 1) (da_cons (vL 2) (da_cons (vL 3) (da_nil))))) (aCons_len (aCons_len (aCons_len (aCons_len aNil_len)))))) (dss_nil))
theorem ok_law (E : Fx K mg base T) : FnOk P w K mg base (L2.CX P w) 12 E.a_law E.d_law ["_law_script"] (spD K mg T 1 F_law) :=
  fn_dx (k := 11) E.D_law.F sc_law fun cdv hcd0 A outer s H Ex hr tk po => by
    have hcd : cdv = .ref E.c_law := hcd0.symm.trans E.h_law
    exact dss_lams_law 10 "law.<locals>.<lambda>" lams_law lm_law E (fun E _ _ => lall_no ["_law_bad"] [] ["_law_bad"] (fun c => { names := rfl, scope := NdefX.nscope_by (sc := ldSc (lamAt s_law 4 [0])) (by decide +kernel), bind := lbind0 rfl (fun us _ _ h => match us, h with | [], _ => rfl), some_ := rfl, many := rfl, caps := fun ok => NdefX.Caps.made (scope := ldSc (lamAt s_law 4 [0])) ok (NdefX.ndef_free (sc := defScope s_law) (fr := ["_law_bad"]) (by decide +kernel)) (NdefX.ndef_fr (sc := defScope s_law) (by decide +kernel)) rfl, body := fun f A outer s H Ex hr2 tk2 => de_call (ok_shares E) E.D_shares (Room.mono hr2 (by decide)) tk2 (by rfl) (da_cons (de_ix (vF 0) (de_int)) (da_cons (de_ix (vF 0) (de_int)) (da_cons (de_ix (vF 0) (de_int)) (da_cons (de_ix (vF 0) (de_int)) (da_nil))))) (aCons_len (aCons_len (aCons_len (aCons_len aNil_len)))) }) (lall_yes ["_law_a", "_law_bad"] ["_law_a"] ["_law_bad"] (fun c t => { names := rfl, scope := NdefX.nscope_by (sc := ldSc (lamAt s_law 5 [1, 0])) (by decide +kernel), bind := lbind1 rfl rfl rfl, some_ := rfl, many := rfl, caps := fun ok => NdefX.Caps.made (scope := ldSc (lamAt s_law 5 [1, 0])) ok (NdefX.ndef_free (sc := defScope s_law) (fr := ["_law_bad"]) (by decide +kernel)) (NdefX.ndef_fr (sc := defScope s_law) (by decide +kernel)) rfl, body := fun f A outer s H Ex hr2 tk2 => de_call (ok_may_be_told E) E.D_may_be_told (Room.mono hr2 (by decide)) tk2 (by rfl) (da_cons (de_ix (vF 1) (de_int)) (da_cons (de_ix (vF 1) (de_int)) (da_cons (de_ix (vF 1) (de_int)) (da_cons (de_ix (vF 1) (de_int)) (da_nil))))) (aCons_len (aCons_len (aCons_len (aCons_len aNil_len)))) }) (trivial))) fun E hc LA =>
      dss_cons (ds_set (i := 1) (de_lstM (da_cons (vL 0) (da_cons (de_int) (da_cons (de_int) (da_cons (de_int) (da_nil)))))) (fun _ h => ps_set sc_law.nd rfl (.inl rfl) h)) (dss_cons (ds_for (di_rg1 (by rfl) E.z_range (de_int)) (dg_name (pg_name (i := 2) sc_law.nd rfl (.inl rfl))) (dss_cons (ds_set (i := 3) (de_op op_addA opd_add (de_int) (de_call (ok__law_taken E) E.D__law_taken (Room.mono hr (by decide)) tk (by rfl) (da_cons (vL 1) (da_cons (de_int) (da_nil))) (aCons_len (aCons_len aNil_len)))) (fun _ h => ps_set sc_law.nd rfl (.inl rfl) h)) (dss_cons (ds_set (i := 4) (de_op op_addA opd_add (de_int) (de_call (ok__law_taken E) E.D__law_taken (Room.mono hr (by decide)) tk (by rfl) (da_cons (vL 1) (da_cons (de_op op_sub opd_sub (vL 3) (de_int)) (da_nil))) (aCons_len (aCons_len aNil_len)))) (fun _ h => ps_set sc_law.nd rfl (.inl rfl) h)) (dss_cons (ds_par (da_cons (de_call (ok__law_taken E) E.D__law_taken (Room.mono hr (by decide)) tk (by rfl) (da_cons (vL 1) (da_cons (vL 4) (da_nil))) (aCons_len (aCons_len aNil_len))) (da_cons (de_call (ok__law_taken E) E.D__law_taken (Room.mono hr (by decide)) tk (by rfl) (da_cons (vL 1) (da_cons (de_op op_addA opd_add (vL 4) (de_int)) (da_nil))) (aCons_len (aCons_len aNil_len))) (da_nil))) (fun _ h => ps_par rfl sc_law.nd rfl rfl (by decide) rfl rfl h (by rfl))) (dss_cons (ds_set (i := 7) (de_lst (da_cons (de_tup (da_cons (de_int) (da_cons (de_int) (da_cons (de_int) (da_cons (de_int) (da_nil)))))) (da_cons (de_tup (da_cons (de_int) (da_cons (de_int) (da_cons (de_int) (da_cons (de_int) (da_nil)))))) (da_cons (de_tup (da_cons (de_int) (da_cons (de_int) (da_cons (de_int) (da_cons (de_int) (da_nil)))))) (da_cons (de_tup (da_cons (de_int) (da_cons (de_int) (da_cons (de_int) (da_cons (de_int) (da_nil)))))) (da_cons (de_tup (da_cons (de_int) (da_cons (de_int) (da_cons (de_int) (da_cons (de_int) (da_nil)))))) (da_nil))))))) (fun _ h => ps_set sc_law.nd rfl (.inl rfl) h)) (dss_cons (ds_set (i := 7) (de_op op_addA opd_add (vL 7) (de_lst (da_cons (de_tup (da_cons (de_int) (da_cons (de_int) (da_cons (de_int) (da_cons (de_int) (da_nil)))))) (da_cons (de_tup (da_cons (de_int) (da_cons (de_int) (da_cons (de_int) (da_cons (de_int) (da_nil)))))) (da_cons (de_tup (da_cons (de_int) (da_cons (de_int) (da_cons (de_int) (da_cons (de_int) (da_nil)))))) (da_nil)))))) (fun _ h => ps_set sc_law.nd rfl (.inl rfl) h)) (dss_cons (ds_set (i := 7) (de_op op_addA opd_add (vL 7) (de_lst (da_cons (de_tup (da_cons (de_int) (da_cons (de_int) (da_cons (de_int) (da_cons (de_int) (da_nil)))))) (da_cons (de_tup (da_cons (de_int) (da_cons (de_int) (da_cons (de_int) (da_cons (de_int) (da_nil)))))) (da_cons (de_tup (da_cons (de_int) (da_cons (de_int) (da_cons (de_int) (da_cons (de_int) (da_nil)))))) (da_cons (de_tup (da_cons (de_int) (da_cons (de_int) (da_cons (de_int) (da_cons (de_int) (da_nil)))))) (da_cons (de_tup (da_cons (de_int) (da_cons (de_int) (da_cons (de_int) (da_cons (de_int) (da_nil)))))) (da_cons (de_tup (da_cons (de_int) (da_cons (de_int) (da_cons (de_int) (da_cons (de_int) (da_nil)))))) (da_nil))))))))) (fun _ h => ps_set sc_law.nd rfl (.inl rfl) h)) (dss_cons (ds_set (i := 7) (de_op op_addA opd_add (vL 7) (de_lst (da_cons (de_tup (da_cons (de_int) (da_cons (de_int) (da_cons (de_int) (da_cons (de_int) (da_nil)))))) (da_nil)))) (fun _ h => ps_set sc_law.nd rfl (.inl rfl) h)) (dss_cons (ds_if (dt_cmp (op_eqD (Room.units hr)) opd_eq (de_call (ok__law_taken E) E.D__law_taken (Room.mono hr (by decide)) tk (by rfl) (da_cons (vL 1) (da_cons (de_int) (da_nil))) (aCons_len (aCons_len aNil_len))) (de_int)) (dss_cons (ds_asg (de_call (ok__law_pick E) E.D__law_pick (Room.mono hr (by decide)) tk (by rfl) (da_cons (vL 1) (da_cons (vL 7) (da_nil))) (aCons_len (aCons_len aNil_len))) (dg_tup (dgs_cons (pg_name (i := 3) sc_law.nd rfl (.inl rfl)) (dgs_cons (pg_name (i := 4) sc_law.nd rfl (.inl rfl)) (dgs_cons (pg_name (i := 5) sc_law.nd rfl (.inl rfl)) (dgs_cons (pg_name (i := 6) sc_law.nd rfl (.inl rfl)) (dgs_nil))))) (fun t h => pg_tup rfl h) (gCons_n (gCons_n (gCons_n (gCons_n (gNil_n)))))) (fun _ h => ps_asg (de_call (ok__law_pick E) E.D__law_pick (Room.mono hr (by decide)) tk (by rfl) (da_cons (vL 1) (da_cons (vL 7) (da_nil))) (aCons_len (aCons_len aNil_len))) h)) (dss_nil)) (dss_cons (ds_if (dw_pt (dw_and (dt_cmp (op_ltA (Room.units0 hr)) opd_lt (vL 4) (de_op op_sub opd_sub (vL 3) (de_int))) (dw_and1 (dt_cmp (op_eqD (Room.units hr)) opd_eq (de_op op_modN opd_mod (de_op op_mul opd_mul (vL 4) (de_op op_sub opd_sub (de_op op_sub opd_sub (vL 4) (vL 5)) (de_int))) (de_op op_sub opd_sub (de_op op_sub opd_sub (vL 3) (vL 4)) (de_int))) (de_int))))) (dss_cons (ds_set (i := 6) (bMin rfl E.z_min (vL 4) (de_op op_fdivN opd_fdiv (de_op op_mul opd_mul (vL 4) (de_op op_sub opd_sub (de_op op_sub opd_sub (vL 4) (vL 5)) (de_int))) (de_op op_sub opd_sub (de_op op_sub opd_sub (vL 3) (vL 4)) (de_int)))) (fun _ h => ps_set sc_law.nd rfl (.inl rfl) h)) (dss_nil)) (dss_nil)) (dss_nil))) (dss_cons (ds_set (i := 8) (de_op op_sub opd_sub (vL 5) (vL 6)) (fun _ h => ps_set sc_law.nd rfl (.inl rfl) h)) (dss_cons (ds_par (da_cons (de_op op_addA opd_add (de_op op_mul opd_mul (de_int) (vL 4)) (de_op op_mul opd_mul (de_op op_sub opd_sub (vL 3) (de_int)) (vL 8))) (da_cons (de_op op_addA opd_add (de_op op_mul opd_mul (vL 8) (vL 8)) (de_op op_mul opd_mul (de_int) (de_op op_sub opd_sub (vL 4) (vL 6)))) (da_nil))) (fun _ h => ps_par rfl sc_law.nd rfl rfl (by decide) rfl rfl h (by rfl))) (dss_cons (ds_set (i := 11) (de_lstM (da_nil)) (fun _ h => ps_set sc_law.nd rfl (.inl rfl) h)) (dss_cons (ds_for (di_rg1 (by rfl) E.z_range (vL 3)) (dg_name (pg_name (i := 12) sc_law.nd rfl (.inl rfl))) (dss_cons (ds_set (i := 13) (de_op op_addA opd_add (de_op op_sub opd_sub (de_op op_mul opd_mul (de_int) (vL 12)) (vL 3)) (de_int)) (fun _ h => ps_set sc_law.nd rfl (.inl rfl) h)) (dss_cons (ds_if (dw_pt (dw_and (dt_cmp (op_eqD (Room.units hr)) opd_eq (de_op op_mul opd_mul (vL 9) (vL 9)) (de_op op_mul opd_mul (de_op op_mul opd_mul (vL 13) (vL 13)) (vL 10))) (dw_and1 (dt_cmp op_le opd_le (de_op op_mul opd_mul (vL 9) (vL 13)) (de_int))))) (dss_cons (ds_expr (mApp (vL 11) (de_tup (da_cons (vL 12) (da_cons (de_op op_sub opd_sub (de_op op_sub opd_sub (vL 3) (de_int)) (vL 12)) (da_nil)))))) (dss_nil)) (dss_nil)) (dss_nil))) (fun _ _ _ h1 h2 h3 => ps_for po rfl h1 h2 h3)) (dss_cons (ds_if (dt_cmp (op_neD (Room.units hr)) opd_ne (de_op op_mul opd_mul (vL 4) (de_op op_sub opd_sub (de_op op_sub opd_sub (vL 4) (vL 5)) (de_int))) (de_op op_mul opd_mul (de_op op_sub opd_sub (de_op op_sub opd_sub (vL 3) (vL 4)) (de_int)) (vL 6))) (dss_cons (ds_set (i := 11) (de_lstM (da_nil)) (fun _ h => ps_set sc_law.nd rfl (.inl rfl) h)) (dss_nil)) (dss_nil)) (dss_cons (ds_if (dw_pt (dw_or (dt_not (dt_truth (de_call (ok__law_alike E) E.D__law_alike (Room.mono hr (by decide)) tk (by rfl) (da_cons (de_call (ok_shares E) E.D_shares (Room.mono hr (by decide)) tk (by rfl) (da_cons (vL 3) (da_cons (vL 4) (da_cons (vL 5) (da_cons (vL 6) (da_nil))))) (aCons_len (aCons_len (aCons_len (aCons_len aNil_len))))) (da_cons (de_if (dt_cmp (op_neD (Room.units hr)) opd_ne (vL 11) (de_lst (da_nil))) (de_ix (vL 11) (de_int)) (de_non)) (da_nil))) (aCons_len (aCons_len aNil_len))))) (dw_or1 (dt_cmp op_gt opd_gt (bLen E.z_len (vL 11)) (de_int))))) (dss_cons (ds_ret (de_bl)) (dss_nil)) (dss_nil)) (dss_cons (ds_if (dt_not (dt_truth (de_call (ok__law_alike E) E.D__law_alike (Room.mono hr (by decide)) tk (by rfl) (da_cons (de_call (ok_may_be_told E) E.D_may_be_told (Room.mono hr (by decide)) tk (by rfl) (da_cons (vL 3) (da_cons (vL 4) (da_cons (vL 5) (da_cons (vL 6) (da_nil))))) (aCons_len (aCons_len (aCons_len (aCons_len aNil_len))))) (da_cons (de_cmp (op_neD (Room.units hr)) opd_ne (vL 11) (de_lst (da_nil))) (da_nil))) (aCons_len (aCons_len aNil_len))))) (dss_cons (ds_ret (de_bl)) (dss_nil)) (dss_nil)) (dss_cons (ds_set (i := 14) (de_call (ok_rest_told E) E.D_rest_told (Room.mono hr (by decide)) tk (by rfl) (da_cons (vL 3) (da_cons (vL 4) (da_cons (vL 5) (da_cons (vL 6) (da_nil))))) (aCons_len (aCons_len (aCons_len (aCons_len aNil_len))))) (fun _ h => ps_set sc_law.nd rfl (.inl rfl) h)) (dss_cons (ds_set (i := 15) (de_op op_sub opd_sub (vL 3) (de_op op_mul opd_mul (de_int) (vL 4))) (fun _ h => ps_set sc_law.nd rfl (.inl rfl) h)) (dss_cons (ds_if (dt_not (dt_truth (de_call (ok__law_alike E) E.D__law_alike (Room.mono hr (by decide)) tk (by rfl) (da_cons (vL 14) (da_cons (de_tup (da_cons (vL 3) (da_cons (de_op op_sub opd_sub (de_op op_sub opd_sub (vL 3) (de_int)) (vL 4)) (da_cons (de_op op_addA opd_add (de_op op_sub opd_sub (vL 15) (de_int)) (vL 6)) (da_cons (de_op op_addA opd_add (vL 15) (vL 5)) (da_nil)))))) (da_nil))) (aCons_len (aCons_len aNil_len))))) (dss_cons (ds_ret (de_bl)) (dss_nil)) (dss_nil)) (dss_cons (ds_set (i := 16) (de_and (de_chain op_le (op_ltA (Room.units0 hr)) opd_le opd_lt (de_int) (de_ix (vL 14) (de_int)) (de_ix (vL 14) (de_int)) (pe_chain op_le (op_ltA (Room.units0 hr)) (de_int) (de_ix (vL 14) (de_int)) (de_ix (vL 14) (de_int)))) (de_one (de_chain op_le op_le opd_le opd_le (de_int) (de_ix (vL 14) (de_int)) (de_ix (vL 14) (de_int)) (pe_chain op_le op_le (de_int) (de_ix (vL 14) (de_int)) (de_ix (vL 14) (de_int)))))) (fun _ h => ps_set sc_law.nd rfl (.inl rfl) h)) (dss_cons (ds_if (dw_pt (dw_and (dt_cmp (op_neD (Room.units hr)) opd_ne (vL 11) (de_lst (da_nil))) (dw_and (dt_truth (vL 16)) (dw_and1 (dt_cmp (op_neD (Room.units hr)) opd_ne (de_call (ok_shares E) E.D_shares (Room.mono hr (by decide)) tk (by rfl) (da_cons (de_ix (vL 14) (de_int)) (da_cons (de_ix (vL 14) (de_int)) (da_cons (de_ix (vL 14) (de_int)) (da_cons (de_ix (vL 14) (de_int)) (da_nil))))) (aCons_len (aCons_len (aCons_len (aCons_len aNil_len))))) (de_revT (de_ix (vL 11) (de_int)))))))) (dss_cons (ds_ret (de_bl)) (dss_nil)) (dss_nil)) (dss_nil))))))))))))))))))))) (fun _ _ _ h1 h2 h3 => ps_for po rfl h1 h2 h3)) (dss_cons (ds_set (i := 17) (de_lst (da_cons (de_tup (da_cons (de_non) (da_cons (de_int) (da_cons (de_int) (da_cons (de_int) (da_nil)))))) (da_cons (de_tup (da_cons (de_int) (da_cons (de_int) (da_cons (de_int) (da_cons (de_int) (da_nil)))))) (da_cons (de_tup (da_cons (de_int) (da_cons (de_int) (da_cons (de_int) (da_cons (de_int) (da_nil)))))) (da_cons (de_tup (da_cons (de_int) (da_cons (de_int) (da_cons (de_int) (da_cons (de_int) (da_nil)))))) (da_nil)))))) (fun _ h => ps_set sc_law.nd rfl (.inl rfl) h)) (dss_cons (ds_set (i := 18) (de_call (ok__law_pick E) E.D__law_pick (Room.mono hr (by decide)) tk (by rfl) (da_cons (vL 1) (da_cons (de_op op_addA opd_add (vL 17) (de_lst (da_cons (de_tup (da_cons (de_int) (da_cons (de_int) (da_cons (de_int) (da_cons (de_int) (da_nil)))))) (da_cons (de_tup (da_cons (de_int) (da_cons (de_int) (da_cons (de_int) (da_cons (de_int) (da_nil)))))) (da_cons (de_tup (da_cons (de_int) (da_cons (de_int) (da_cons (de_int) (da_cons (de_int) (da_nil)))))) (da_cons (de_tup (da_cons (de_int) (da_cons (de_int) (da_cons (de_bl) (da_cons (de_int) (da_nil)))))) (da_nil))))))) (da_nil))) (aCons_len (aCons_len aNil_len))) (fun _ h => ps_set sc_law.nd rfl (.inr rfl) h)) (dss_cons (ds_set (i := 19) (de_lstX (da_cons (de_lam0 (lamOk_mk (q := "law.<locals>.<lambda>") E.U_law (hcd.trans (congrArg Value.ref hc.symm)) E.t_law E.L rfl rfl rfl rfl) rfl (nf_no (q := "law.<locals>.<lambda>") (l := lams_law) (e := lamAt s_law 4 [0]) rfl)) (da_nil))) (fun _ h => ps_set sc_law.nd rfl (.inl rfl) h)) (dss_cons (ds_for (di_seq (de_op op_catS opd_addX (vL 19) (de_lstX (da_cons (de_lam1 (lamOk_mk (q := "law.<locals>.<lambda>") E.U_law (hcd.trans (congrArg Value.ref hc.symm)) E.t_law E.L rfl rfl rfl rfl) rfl (nf_yes (q := "law.<locals>.<lambda>") (l := lams_law) (e := lamAt s_law 5 [1, 0]) rfl)) (da_nil))))) (dg_name (pg_name (i := 20) sc_law.nd rfl (.inl rfl))) (dss_cons (ds_try_as (i := 21) rfl rfl sc_law.nd rfl (by rfl) E.x_BadNumber E.m_BadNumber (by rfl) tk (by decide) (fun _ _ _ tk2 po2 => dss_cons (ds_expr (de_clo0 (fun _ _ h => lall_at (LA _ _) h) (Room.mono hr (by decide)) tk2 rfl (.inl rfl))) (dss_cons (ds_ret (de_bl)) (dss_nil))) (fun _ _ => dss_cons (ds_set (i := 3) (de_int) (fun _ h => ps_set sc_law.nd rfl (.inl rfl) h)) (dss_nil))) (dss_nil)) (fun _ _ _ h1 h2 h3 => ps_for po rfl h1 h2 h3)) (dss_cons (ds_ret (de_bl)) (dss_nil)))))))
end
end K06
end
section
open PySem PySem.Spec PyProof.Rows L2 DL ML K06
set_option maxHeartbeats 0 in
theorem PySem.Challenge.cw_onefriend_k06_whole_shares_holds : PySem.Challenge.rw_onefriend_k06_whole_shares.Holds := by
  w_on; o_law; k_head; (case hw => w_witness2)
  k_fill
  refine DL.walk_ofAll (l := PySem.Challenge.rw_onefriend_k06_whole_shares) (n := 63) (k := 12) (x := "_law_script") (CX := fun w => L2.CX (PySem.Challenge.rw_onefriend_k06_whole_shares).prog w) rfl (by decide) rfl ⟨rfl, by decide, by decide⟩ (fun w h Y => by first | exact PySem.W.kIn_of Y | exact PySem.W.km_in_of Y) ?F (fun w H s e s' z => no_x z)
  case F =>
    intro w mg fa h _ KX G hmg tabs
    obtain ⟨f__law_alike, d__law_alike, D__law_alike⟩ : ∃ f fd, Dn _ mg "_law_alike" s__law_alike ["_law_found", "_law_due"] f fd := by
      refine' ⟨_, _, dn_mk KX G ?qa0 ?ql0 ?qc0 ?qk0 ?qb0⟩
      (case qa0 => k_is); (case ql0 => k_is); (case qc0 => k_is); (case qk0 => k_is)
      case qb0 => exact fun F => F.binds fun _ _ _ _ _ _ us hl => match us, hl with | [_, _], _ => rfl
    obtain ⟨f__law_taken, d__law_taken, D__law_taken⟩ : ∃ f fd, Dn _ mg "_law_taken" s__law_taken ["_law_row", "_law_many"] f fd := by
      refine' ⟨_, _, dn_mk KX G ?qa1 ?ql1 ?qc1 ?qk1 ?qb1⟩
      (case qa1 => k_is); (case ql1 => k_is); (case qc1 => k_is); (case qk1 => k_is)
      case qb1 => exact fun F => F.binds fun _ _ _ _ _ _ us hl => match us, hl with | [_, _], _ => rfl
    obtain ⟨f__law_pick, d__law_pick, D__law_pick⟩ : ∃ f fd, Dn _ mg "_law_pick" s__law_pick ["_law_row", "_law_things"] f fd := by
      refine' ⟨_, _, dn_mk KX G ?qa2 ?ql2 ?qc2 ?qk2 ?qb2⟩
      (case qa2 => k_is); (case ql2 => k_is); (case qc2 => k_is); (case qk2 => k_is)
      case qb2 => exact fun F => F.binds fun _ _ _ _ _ _ us hl => match us, hl with | [_, _], _ => rfl
    obtain ⟨f_is_number, d_is_number, D_is_number⟩ : ∃ f fd, Dn _ mg "is_number" s_is_number ["value", "low", "high"] f fd := by
      refine' ⟨_, _, dn_mk KX G ?qa3 ?ql3 ?qc3 ?qk3 ?qb3⟩
      (case qa3 => k_is); (case ql3 => k_is); (case qc3 => k_is); (case qk3 => k_is)
      case qb3 => exact fun F => F.binds fun _ _ _ _ _ _ us hl => match us, hl with | [_, _, _], _ => rfl
    obtain ⟨f_need_four, d_need_four, D_need_four⟩ : ∃ f fd, Dn _ mg "need_four" s_need_four ["halls", "friends", "joined", "apart"] f fd := by
      refine' ⟨_, _, dn_mk KX G ?qa4 ?ql4 ?qc4 ?qk4 ?qb4⟩
      (case qa4 => k_is); (case ql4 => k_is); (case qc4 => k_is); (case qk4 => k_is)
      case qb4 => exact fun F => F.binds fun _ _ _ _ _ _ us hl => match us, hl with | [_, _, _, _], _ => rfl
    obtain ⟨f_root_of, d_root_of, D_root_of⟩ : ∃ f fd, Dn _ mg "root_of" s_root_of ["number"] f fd := by
      refine' ⟨_, _, dn_mk KX G ?qa5 ?ql5 ?qc5 ?qk5 ?qb5⟩
      (case qa5 => k_is); (case ql5 => k_is); (case qc5 => k_is); (case qk5 => k_is)
      case qb5 => exact fun F => F.binds fun _ _ _ _ _ _ us hl => match us, hl with | [_], _ => rfl
    obtain ⟨f_shares_of, d_shares_of, D_shares_of⟩ : ∃ f fd, Dn _ mg "shares_of" s_shares_of ["halls", "friends", "joined", "apart"] f fd := by
      refine' ⟨_, _, dn_mk KX G ?qa6 ?ql6 ?qc6 ?qk6 ?qb6⟩
      (case qa6 => k_is); (case ql6 => k_is); (case qc6 => k_is); (case qk6 => k_is)
      case qb6 => exact fun F => F.binds fun _ _ _ _ _ _ us hl => match us, hl with | [_, _, _, _], _ => rfl
    obtain ⟨f_may_be_told, d_may_be_told, D_may_be_told⟩ : ∃ f fd, Dn _ mg "may_be_told" s_may_be_told ["halls", "friends", "joined", "apart"] f fd := by
      refine' ⟨_, _, dn_mk KX G ?qa7 ?ql7 ?qc7 ?qk7 ?qb7⟩
      (case qa7 => k_is); (case ql7 => k_is); (case qc7 => k_is); (case qk7 => k_is)
      case qb7 => exact fun F => F.binds fun _ _ _ _ _ _ us hl => match us, hl with | [_, _, _, _], _ => rfl
    obtain ⟨f_rest_told, d_rest_told, D_rest_told⟩ : ∃ f fd, Dn _ mg "rest_told" s_rest_told ["halls", "friends", "joined", "apart"] f fd := by
      refine' ⟨_, _, dn_mk KX G ?qa8 ?ql8 ?qc8 ?qk8 ?qb8⟩
      (case qa8 => k_is); (case ql8 => k_is); (case qc8 => k_is); (case qk8 => k_is)
      case qb8 => exact fun F => F.binds fun _ _ _ _ _ _ us hl => match us, hl with | [_, _, _, _], _ => rfl
    obtain ⟨f_shares, d_shares, D_shares⟩ : ∃ f fd, Dn _ mg "shares" s_shares ["halls", "friends", "joined", "apart"] f fd := by
      refine' ⟨_, _, dn_mk KX G ?qa9 ?ql9 ?qc9 ?qk9 ?qb9⟩
      (case qa9 => k_is); (case ql9 => k_is); (case qc9 => k_is); (case qk9 => k_is)
      case qb9 => exact fun F => F.binds fun _ _ _ _ _ _ us hl => match us, hl with | [_, _, _, _], _ => rfl
    obtain ⟨f_law, d_law, D_law, b_law, c_law, p_law, h_law, i_law, n_law, e_law⟩ : GenFactsL _ mg h "law" s_law ["_law_script"] "_law_script" := by
      refine' gen_mkL KX G tabs ?qm10 ?qa10 ?ql10 ?qc10 ?qk10 ?qd10 ?qp10 ?qh10 ?qn10 ?qz10 ?qb10
      (case qm10 => decide +kernel); (case qa10 => k_is); (case ql10 => k_is); (case qc10 => k_is); (case qk10 => k_is); (case qd10 => k_is); (case qp10 => rfl); (case qh10 => kernel_rfl); (case qn10 => kernel_rfl)
      (case qz10 => exact fun s u => .of_eq rfl)
      case qb10 => exact fun F => F.binds fun _ _ _ _ _ _ us hl => match us, hl with | [_], _ => rfl
    have z_bool : mg "bool" = none := by
      refine' PySem.W.mg_none_of KX G ?qybool
      case qybool => k_is
    have z_int : mg "int" = none := by
      refine' PySem.W.mg_none_of KX G ?qyint
      case qyint => k_is
    have z_isinstance : mg "isinstance" = none := by
      refine' PySem.W.mg_none_of KX G ?qyisinstance
      case qyisinstance => k_is
    have z_len : mg "len" = none := by
      refine' PySem.W.mg_none_of KX G ?qylen
      case qylen => k_is
    have z_list : mg "list" = none := by
      refine' PySem.W.mg_none_of KX G ?qylist
      case qylist => k_is
    have z_min : mg "min" = none := by
      refine' PySem.W.mg_none_of KX G ?qymin
      case qymin => k_is
    have z_range : mg "range" = none := by
      refine' PySem.W.mg_none_of KX G ?qyrange
      case qyrange => k_is
    have z_str : mg "str" = none := by
      refine' PySem.W.mg_none_of KX G ?qystr
      case qystr => k_is
    have z_tuple : mg "tuple" = none := by
      refine' PySem.W.mg_none_of KX G ?qytuple
      case qytuple => k_is
    have k_MOST_TOLD : ∃ t, mg "MOST_TOLD" = some (.int 1000 t) := by
      refine' gint_mk KX G ?qwMOST_TOLD ?qvMOST_TOLD
      case qwMOST_TOLD => k_is
      case qvMOST_TOLD => rfl
    obtain ⟨C_BadNumber, x_BadNumber, m_BadNumber⟩ : ∃ C, Xc _ mg "BadNumber" C ∧ PySem.W.exmOne _ (.ref C) (.ref C) = some true := by
      refine' ⟨_, xc_mk KX G ?eaBadNumber ?ebBadNumber ?ecBadNumber ?edBadNumber ?eeBadNumber ?efBadNumber ?egBadNumber⟩
      (case eaBadNumber => k_is); (case ebBadNumber => k_exc); (case ecBadNumber => k_is); (case edBadNumber => k_is); (case eeBadNumber => k_is); (case efBadNumber => k_is); (case egBadNumber => first | rfl | k_is)
    cases hmg.symm.trans D_law.g
    refine ⟨d_law, [(c_law, p_law)], spD _ mg (⟨fun P => P ∈ ([(c_law, p_law)] : List (Addr × Addr)).map (·.2), LAMS.tab, fun _ _ => False, []⟩) 1 F_law, List.forall_mem_cons.mpr ⟨e_law, fun _ z => nomatch z⟩, List.forall_mem_cons.mpr ⟨n_law, fun _ z => nomatch z⟩, List.forall_mem_cons.mpr ⟨PySem.W.codeHd_of_K KX i_law, fun _ z => nomatch z⟩, b_law, fun H a ns hl hb hT hS => law_sp (Nat.le_trans hl (by decide)) (fun P hP => ?t) rfl hS (law_true ns hl), fun base KB GB TB => ?f⟩
    case t =>
      obtain ⟨p, hp, rfl⟩ := List.mem_map.mp hP
      exact hT p hp
    case f =>
      exact ok_law { a__law_alike := f__law_alike, d__law_alike := d__law_alike, D__law_alike := D__law_alike, a__law_taken := f__law_taken, d__law_taken := d__law_taken, D__law_taken := D__law_taken, a__law_pick := f__law_pick, d__law_pick := d__law_pick, D__law_pick := D__law_pick, a_is_number := f_is_number, d_is_number := d_is_number, D_is_number := D_is_number, a_need_four := f_need_four, d_need_four := d_need_four, D_need_four := D_need_four, a_root_of := f_root_of, d_root_of := d_root_of, D_root_of := D_root_of, a_shares_of := f_shares_of, d_shares_of := d_shares_of, D_shares_of := D_shares_of, a_may_be_told := f_may_be_told, d_may_be_told := d_may_be_told, D_may_be_told := D_may_be_told, a_rest_told := f_rest_told, d_rest_told := d_rest_told, D_rest_told := D_rest_told, a_shares := f_shares, d_shares := d_shares, D_shares := D_shares, a_law := fa, d_law := d_law, D_law := D_law, c_law := c_law, p_law := p_law, h_law := h_law, T_law := tab_of (TB (c_law, p_law) List.mem_cons_self), t_law := mem_snd (c := c_law) (P := p_law) List.mem_cons_self, U_law := TB (c_law, p_law) List.mem_cons_self, z_bool := z_bool, z_int := z_int, z_isinstance := z_isinstance, z_len := z_len, z_list := z_list, z_min := z_min, z_range := z_range, z_str := z_str, z_tuple := z_tuple, k_MOST_TOLD := k_MOST_TOLD, C_BadNumber := C_BadNumber, x_BadNumber := x_BadNumber, m_BadNumber := m_BadNumber, L := rfl }
end
