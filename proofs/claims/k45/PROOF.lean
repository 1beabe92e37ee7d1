import PyProof.Rows.All
import Wide.All
import OpenK.AllK
import Wide.FinOn
import PyProof.EqAt
import PyProof.EqKinds
import PyProof.TupleCall
import PyProof.StrBlock2
import HandS.ForMost
import HandS.Codes
import HandS.Conv
import HandS.Zip
import HandS.More
import HandS.Sort
import HandS.SortInts
import HandS.Flow
import HandS.Defaults
import HandS.MakeKwOnly
import HandS.Property
import HandS.IsInst
import HandS.TupAny
import HandS.Steps
import HandS.WordsExc
import HandS.Finally
import HandS.Walk
import KE.GoesEnum
import KE.KSortTupG
import PyProof.Rows.SortShellAny
import PySem.Challenge.RW_stylepages_k45_whole_figures_do_not_move
import HandS.Head0
import HandS.Head1
import HandS.Head2
import HandS.HeadEnd
import HandS.HeadHook1
import HandS.HeadHook2
import HandS.HeadHook3
import HandS.HeadHook4
import KE.KStateDown
set_option Elab.async false
set_option linter.all false
set_option maxRecDepth 100000
set_option maxHeartbeats 4000000
namespace K45
open PySem PySem.Spec PyProof.Rows L2
/-! ### the text by places -/
def top (i : Nat) : Stmt := PySem.Challenge.pw_stylepages_k45_whole_figures_do_not_move.main.body.getD i (.Pass ⟨0, 0, 0, 0⟩)
/-- a def of the module -/
structure Df (K : PySem.W.Frag) (mg : Str → Option Value) (x : Str) (st : Stmt) : Prop where
  ex : ∃ (f : Addr) (fd : FuncData), FunD K x x (defArgs st) (defBody st) (defScope st) [] [] f fd ∧ mg x = some (.ref f)
section
variable {P : Program} {w : World} {K : PySem.W.Frag} {mg : Str → Option Value} {base : Heap}
theorem cal_by {x : Str} {st : Stmt} {N ps : List Str} {k : Nat} {sp : Sp} (F : Df K mg x st) (S : FnScope N ps (defScope st))
    (b : ∀ (kV doc pm : Value) (an : Option Addr) (cdv ct : Value) (us : List Value), us.length = ps.length → bindArgs (PySem.W.fnOf x x (defArgs st) (defBody st) (defScope st) .none kV doc pm an cdv ct) ⟨us, []⟩ = pure (ps.zip us))
    (len : ∀ vs H Q E, sp vs H Q E → vs.length = ps.length)
    (hbody : ∀ (f : Addr) (cdv : Value) (A : Around) (outer : List Env) (s : Shared) (H : Hp) (vs : List V) (Q : VK) (E : XK), Room k (A.deeper (envOfC x (defScope st) s.heap.objs.size f cdv)) → sp vs H Q E →
      ∃ t, PSs (cxOf C8.CX0 P w K mg base N x (defScope st) f cdv A outer s H E).nox (defBody st) t ∧ t { nx := fun _ H' => Q .non H', rt := Q } (start N vs) H) : C8.Cal P w K mg base (k + 1) x sp [] := by
  obtain ⟨f, fd, F, hm⟩ := F.ex
  refine ⟨f, fd, ps, [], F.ok S len (fun cdv A outer s H vs Q E hr hsp => ?_), hm, F.kp, F.bindsN b, .nil⟩
  obtain ⟨t, h, q⟩ := hbody f cdv A outer s H vs Q E hr hsp
  exact ⟨t, h.nox, q⟩
end
/-- what the walks ask of the module's other names -/
structure Gn (mg : Str → Option Value) : Prop where
  n_len : mg "len" = none
  n_int : mg "int" = none
  n_abs : mg "abs" = none
  n_range : mg "range" = none
  n_sorted : mg "sorted" = none
  n_list : mg "list" = none
  n_tuple : mg "tuple" = none
  n_dict : mg "dict" = none
  n_min : mg "min" = none
  n_max : mg "max" = none
  n_zip : mg "zip" = none
  n_enumerate : mg "enumerate" = none
  n_isinstance : mg "isinstance" = none
  n_bool : mg "bool" = none
  n_str : mg "str" = none
  g_FIGURES : ∃ u, mg "FIGURES" = some u ∧ RelV (.str "0123456789") u
/-! ### frames: what stands as before -/
structure Fr (M : List Addr) (H H' : Hp) : Prop where
  k : ∀ b o, H b = some o → b ∉ M → H' b = some o
  t : ∀ b xs, H b = some (.tup xs) → H' b = some (.tup xs)
  d : ∀ b, H' b = none → H b = none
theorem Fr.refl (M : List Addr) (H : Hp) : Fr M H H := ⟨fun _ _ h _ => h, fun _ _ h => h, fun _ h => h⟩
/-- a new object -/
theorem Fr.new {M : List Addr} {H : Hp} {p : Addr} {o : HO} (hp : H p = none) : Fr M H (upd H p o) :=
  ⟨fun b u h _ => (by rw [upd_ne (ne_of_none h hp)]; exact h), fun b xs h => (by rw [upd_ne (ne_of_none h hp)]; exact h), fun b h => (by
    by_cases e : b = p
    · rw [e, upd_same] at h; cases h
    · rw [upd_ne e] at h; exact h)⟩
/-- a write -/
theorem Fr.put {H : Hp} {p : Addr} {o u : HO} (hp : H p = some u) (nt : ∀ xs, u ≠ .tup xs := by intro xs z; cases z) : Fr [p] H (upd H p o) :=
  ⟨fun b v h n => (by rw [upd_ne (fun e => n (by rw [e]; exact List.mem_singleton.mpr rfl))]; exact h), fun b xs h => (by
    by_cases e : b = p
    · rw [e, hp] at h; exact absurd (Option.some.inj h) (nt xs)
    · rw [upd_ne e]; exact h), fun b h => (by
    by_cases e : b = p
    · rw [e, upd_same] at h; cases h
    · rw [upd_ne e] at h; exact h)⟩
/-- one behind the other: what the second changes is changed anyway, or new -/
theorem Fr.trans {M M' : List Addr} {H H1 H2 : Hp} (a : Fr M H H1) (b : Fr M' H1 H2) (h : ∀ x ∈ M', x ∈ M ∨ H x = none) : Fr M H H2 :=
  ⟨fun c o e n => b.k c o (a.k c o e n) fun m => (h c m).elim n fun z => (by rw [z] at e; cases e), fun c xs e => b.t c xs (a.t c xs e), fun c e => a.d c (b.d c e)⟩
theorem Fr.t0 {M : List Addr} {H H1 H2 : Hp} (a : Fr M H H1) (b : Fr [] H1 H2) : Fr M H H2 := a.trans b fun _ z => absurd z (by simp)
theorem Fr.t1 {M : List Addr} {p : Addr} {H H1 H2 : Hp} (a : Fr M H H1) (b : Fr [p] H1 H2) (h : p ∈ M ∨ H p = none) : Fr M H H2 := a.trans b fun x z => by
  rw [List.mem_singleton.mp z]; exact h
theorem Fr.ts {M : List Addr} {H H1 H2 : Hp} (a : Fr M H H1) (b : Fr M H1 H2) : Fr M H H2 := a.trans b fun _ z => .inl z
theorem Fr.k0 {H H' : Hp} (f : Fr [] H H') {b : Addr} {o : HO} (h : H b = some o) : H' b = some o := f.k b o h (by simp)
theorem Fr.k1 {p : Addr} {H H' : Hp} (f : Fr [p] H H') {b : Addr} {o : HO} (h : H b = some o) (n : b ≠ p) : H' b = some o := f.k b o h (by simpa using n)
theorem Fr.k2 {p q : Addr} {H H' : Hp} (f : Fr [p, q] H H') {b : Addr} {o : HO} (h : H b = some o) (n : b ≠ p) (m : b ≠ q) : H' b = some o := f.k b o h (by simp [n, m])
theorem Fr.mono {M M' : List Addr} {H H' : Hp} (f : Fr M H H') (h : ∀ x ∈ M, x ∈ M') : Fr M' H H' := ⟨fun b o e n => f.k b o e fun m => n (h b m), f.t, f.d⟩
theorem Fr.same {H H' : Hp} (f : Fr [] H H') : Same H H' := fun _ _ h => f.k0 h
theorem Fr.seq {K : PySem.W.Frag} {M : List Addr} {H H' : Hp} (f : Fr M H H') {a : Addr} {xs : List V} (h : SqL K H a xs) (n : a ∉ M) : SqL K H' a xs := by
  rcases h with (h | ⟨o, h⟩) | h
  · exact .inl (.inl (f.k _ _ h n))
  · exact .inl (.inr ⟨o, f.k _ _ h n⟩)
  · exact .inr h
theorem Fr.sqt {K : PySem.W.Frag} {H H' : Hp} (f : Fr [] H H') {a : Addr} {xs : List V} (h : SqT K H a xs) : SqT K H' a xs := by
  rcases h with (h | ⟨o, h⟩) | h
  · exact .inl (.inl (f.k0 h))
  · exact .inl (.inr ⟨o, f.k0 h⟩)
  · exact .inr h
/-! ### the pool -/
/-- a pool at p, good for n more draws -/
def PoolAt (H : Hp) (p : Addr) (n : Nat) : Prop := ∃ c0 c1 c2 c3 c4 : Int, H p = some (.lst [.int c0, .int c1, .int c2, .int c3, .int c4]) ∧ 0 ≤ c0 ∧ 0 ≤ c1 ∧ c1 + (n : Int) ≤ 536870912 ∧ 0 ≤ c3 ∧ c3 < 2147483648
theorem PoolAt.keep {M : List Addr} {H H' : Hp} {p : Addr} {n : Nat} (h : PoolAt H p n) (f : Fr M H H') (hn : p ∉ M) : PoolAt H' p n := by
  obtain ⟨c0, c1, c2, c3, c4, e, r⟩ := h
  exact ⟨c0, c1, c2, c3, c4, f.k _ _ e hn, r⟩
theorem PoolAt.k0 {H H' : Hp} {p : Addr} {n : Nat} (h : PoolAt H p n) (f : Fr [] H H') : PoolAt H' p n := h.keep f (by simp)
theorem PoolAt.there {H : Hp} {p : Addr} {n : Nat} (h : PoolAt H p n) : ∃ xs, H p = some (.lst xs) := by
  obtain ⟨c0, c1, c2, c3, c4, e, r⟩ := h
  exact ⟨_, e⟩
def spTake : Sp := fun vs H Q _ => ∃ (p : Addr) (many : Int) (n : Nat), vs = [.ref p, .int many] ∧ PoolAt H p n ∧ 1 ≤ n ∧ 0 < many ∧ many < 1073741824 ∧ ∀ (r : Int) (H' : Hp), 0 ≤ r → r < many → Fr [p] H H' → PoolAt H' p (n - 1) → Q (.int r) H'

end K45

set_option maxHeartbeats 4000000
namespace K45
open PySem PySem.Spec PyProof.Rows L2
/-! ### signs -/
abbrev ch (c : Nat) : Str := ⟨#[c]⟩
theorem ch_S (c : Nat) : ch c = SX.S [c] := rfl
theorem ch_inj {a b : Nat} (h : ch a = ch b) : a = b := by
  have h2 : SX.S [a] = SX.S [b] := h
  have := SX.S_inj h2
  simpa using this
def restL : List Nat := [97, 98, 99, 100, 101, 102, 103, 104, 105, 106, 107, 108, 109, 110, 111, 112, 113, 114, 115, 116, 117, 118, 119, 120, 121, 122, 65, 66, 67, 68, 69, 70, 71, 72, 73, 74, 75, 76, 77, 78, 79, 80, 81, 82, 83, 84, 85, 86, 87, 88, 89, 90, 46, 44, 59, 58, 33, 63, 39, 40, 41]
def figL : List Nat := [48, 49, 50, 51, 52, 53, 54, 55, 56, 57]
def fig (c : Nat) : Bool := decide (48 ≤ c) && decide (c ≤ 57)
theorem fig_mem {c : Nat} : fig c = true ↔ c ∈ figL := by
  unfold fig figL
  simp only [Bool.and_eq_true, decide_eq_true_eq, List.mem_cons, List.not_mem_nil, or_false]
  omega
theorem rest_plain : ∀ c ∈ restL, fig c = false ∧ c ≠ 32 ∧ c ≠ 124 ∧ c ≠ 45 := by decide
def mk (c : Nat) : Nat := if fig c = true then 48 else c
/-! ### data at an address: ints, texts, tuples of these -/
inductive Dt where
  | int (i : Int) | str (x : Str) | tup (xs : List Dt)
mutual
inductive Tr (H : Hp) : V → Dt → Prop
  | int (i : Int) : Tr H (.int i) (.int i)
  | str (x : Str) : Tr H (.str x) (.str x)
  | tup {a : Addr} {vs : List V} {ds : List Dt} (h : H a = some (.tup vs)) (t : Trs H vs ds) : Tr H (.ref a) (.tup ds)
inductive Trs (H : Hp) : List V → List Dt → Prop
  | nil : Trs H [] []
  | cons {v : V} {vs : List V} {d : Dt} {ds : List Dt} (h : Tr H v d) (t : Trs H vs ds) : Trs H (v :: vs) (d :: ds)
end
def KeepT (H H' : Hp) : Prop := ∀ b xs, H b = some (.tup xs) → H' b = some (.tup xs)
mutual
theorem Tr.mono {H H' : Hp} (k : KeepT H H') : ∀ {v : V} {d : Dt}, Tr H v d → Tr H' v d
  | _, _, .int i => .int i
  | _, _, .str x => .str x
  | _, _, .tup h t => .tup (k _ _ h) (Trs.mono k t)
theorem Trs.mono {H H' : Hp} (k : KeepT H H') : ∀ {vs : List V} {ds : List Dt}, Trs H vs ds → Trs H' vs ds
  | _, _, .nil => .nil
  | _, _, .cons h t => .cons (Tr.mono k h) (Trs.mono k t)
end
theorem Trs.length {H : Hp} : ∀ {vs : List V} {ds : List Dt}, Trs H vs ds → vs.length = ds.length
  | _, _, .nil => rfl
  | _, _, .cons _ t => by rw [List.length_cons, List.length_cons, Trs.length t]
theorem Trs.get {H : Hp} : ∀ {vs : List V} {ds : List Dt} {i : Nat} {d : Dt}, Trs H vs ds → ds[i]? = some d → ∃ v, vs[i]? = some v ∧ Tr H v d
  | _, _, _, _, .nil, e => by simp at e
  | _, _, 0, d, .cons (v := v) h _, e => by
    simp at e
    subst e
    exact ⟨v, rfl, h⟩
  | _, _, i + 1, d, .cons _ t, e => by
    obtain ⟨v, h1, h2⟩ := Trs.get (i := i) (d := d) t (by simpa using e)
    exact ⟨v, by simpa using h1, h2⟩
theorem Trs.get' {H : Hp} : ∀ {vs : List V} {ds : List Dt} {i : Nat} {v : V}, Trs H vs ds → vs[i]? = some v → ∃ d, ds[i]? = some d ∧ Tr H v d
  | _, _, _, _, .nil, e => by simp at e
  | _, _, 0, v, .cons (d := d) h _, e => by
    simp at e
    subst e
    exact ⟨d, rfl, h⟩
  | _, _, i + 1, v, .cons _ t, e => by
    obtain ⟨d, h1, h2⟩ := Trs.get' (i := i) (v := v) t (by simpa using e)
    exact ⟨d, by simpa using h1, h2⟩
theorem Trs.append {H : Hp} : ∀ {vs ws : List V} {ds es : List Dt}, Trs H vs ds → Trs H ws es → Trs H (vs ++ ws) (ds ++ es)
  | _, _, _, _, .nil, u => u
  | _, _, _, _, .cons h t, u => .cons h (Trs.append t u)
theorem Trs.snoc {H : Hp} {vs : List V} {ds : List Dt} {v : V} {d : Dt} (t : Trs H vs ds) (h : Tr H v d) : Trs H (vs ++ [v]) (ds ++ [d]) := t.append (.cons h .nil)
theorem Tr.inv {H : Hp} {v : V} {ds : List Dt} (h : Tr H v (.tup ds)) : ∃ a vs, v = .ref a ∧ H a = some (.tup vs) ∧ Trs H vs ds := by
  cases h with
  | tup h t => exact ⟨_, _, rfl, h, t⟩
theorem Tr.inv_int {H : Hp} {v : V} {i : Int} (h : Tr H v (.int i)) : v = .int i := by
  cases h
  rfl
theorem Tr.inv_str {H : Hp} {v : V} {x : Str} (h : Tr H v (.str x)) : v = .str x := by
  cases h
  rfl
theorem Trs.inv {H : Hp} {vs : List V} {d : Dt} {ds : List Dt} (h : Trs H vs (d :: ds)) : ∃ v ws, vs = v :: ws ∧ Tr H v d ∧ Trs H ws ds := by
  cases h with
  | cons h t => exact ⟨_, _, rfl, h, t⟩
theorem Trs.inv0 {H : Hp} {vs : List V} (h : Trs H vs []) : vs = [] := by
  cases h
  rfl
/-! ### outlines -/
abbrev Rect : Type := Int × Int × Int × Int
def lineD (a b : Int) : Dt := .tup [.str "line", .int a, .int b]
def rectD (r : Rect) : Dt := .tup [.int r.1, .int r.2.1, .tup [lineD r.2.2.1 0, lineD 0 r.2.2.2, lineD (-r.2.2.1) 0, lineD 0 (-r.2.2.2)]]
def RectOk (r : Rect) : Prop := (-20 ≤ r.1 ∧ r.1 ≤ 40) ∧ (-20 ≤ r.2.1 ∧ r.2.1 ≤ 40) ∧ (1 ≤ r.2.2.1 ∧ r.2.2.1 ≤ 20) ∧ (1 ≤ r.2.2.2 ∧ r.2.2.2 ≤ 20)
def LetAt (H : Hp) (v : V) (adv : Int) (rs : List Rect) : Prop := ∃ t o, v = .ref t ∧ H t = some (.tup [.int adv, .ref o]) ∧ Tr H (.ref o) (.tup (rs.map rectD)) ∧ rs.length ≤ 3 ∧ ∀ r ∈ rs, RectOk r
theorem LetAt.mono {H H' : Hp} (k : KeepT H H') {v : V} {adv : Int} {rs : List Rect} (h : LetAt H v adv rs) : LetAt H' v adv rs := by
  obtain ⟨t, o, e, h1, h2, h3⟩ := h
  exact ⟨t, o, e, k _ _ h1, h2.mono k, h3⟩
/-! ### a house -/
def KernOk (kk : List (L2.Key × V)) : Prop := ∀ kv ∈ kk, ∃ (x : Str) (i : Int), kv = (Sum.inr x, V.int i)
structure TabOk (H : Hp) (kvs : List (L2.Key × V)) (need : List Nat) (A : Nat → Int) : Prop where
  len : kvs.length ≤ 1000
  all : ∀ kv ∈ kvs, ∃ c, kv.1 = Sum.inr (ch c) ∧ c ∈ need
  has : ∀ c ∈ need, ∃ v rs, valV kvs (Sum.inr (ch c)) = some v ∧ LetAt H v (A c) rs ∧ 1 ≤ A c ∧ A c ≤ 30
  fig : ∀ c, fig c = true → A c = A 48
theorem TabOk.mono {H H' : Hp} (k : KeepT H H') {kvs : List (L2.Key × V)} {need : List Nat} {A : Nat → Int} (h : TabOk H kvs need A) : TabOk H' kvs need A :=
  ⟨h.len, h.all, fun c hc => let ⟨v, rs, h1, h2, h3⟩ := h.has c hc; ⟨v, rs, h1, h2.mono k, h3⟩, h.fig⟩
structure HouseD where
  tb : Addr
  en : Addr
  gp : Addr
  nu : Addr
  pr : Addr
  kvs : List (L2.Key × V)
  kk : List (L2.Key × V)
structure HouseAt (H : Hp) (h : Addr) (D : HouseD) : Prop where
  l : H h = some (.lst [.ref D.tb, .ref D.en, .ref D.gp, .ref D.nu, .ref D.pr])
  t : H D.tb = some (.dK D.kvs)
  g : ∃ i j k : Int, H D.gp = some (.tup [.int i, .int j, .int k])
  n : ∃ i j : Int, H D.nu = some (.lst [.int i, .int j])
  p : H D.pr = some (.dK D.kk)
  k : KernOk D.kk
  kl : D.kk.length ≤ 1000
  ne : D.tb ≠ D.pr
theorem HouseAt.k0 {H H' : Hp} {h : Addr} {D : HouseD} (x : HouseAt H h D) (f : Fr [] H H') : HouseAt H' h D :=
  ⟨f.k0 x.l, f.k0 x.t, let ⟨i, j, k, e⟩ := x.g; ⟨i, j, k, f.k0 e⟩, let ⟨i, j, e⟩ := x.n; ⟨i, j, f.k0 e⟩, f.k0 x.p, x.k, x.kl, x.ne⟩
/-! ### runs -/
inductive Run where
  | text (t : List Nat) (z : Int) (f : Str) | mark (n : Int) | ref (k : Int) (z : Int) (f : Str)
def runD : Run → Dt
  | .text t z f => .tup [.str "text", .str (SX.S t), .int z, .str f]
  | .mark n => .tup [.str "mark", .str "note", .int n]
  | .ref k z f => .tup [.str "ref", .int k, .int z, .str f]
def FaceN (f : Str) : Prop := f = "plain" ∨ f = "bold"
def Al (signs : List Nat) (c : Nat) : Prop := c = 32 ∨ c = 124 ∨ c ∈ signs
def SzOk (z : Int) (f : Str) : Prop := 1 ≤ z ∧ z ≤ 12 ∧ FaceN f
def RunOk (signs : List Nat) : Run → Prop
  | .text t z f => (∀ c ∈ t, Al signs c) ∧ t.length ≤ 100 ∧ SzOk z f
  | .mark _ => True
  | .ref k z f => 0 ≤ k ∧ k ≤ 2 ∧ SzOk z f
inductive RR where
  | text (t : List Nat) (z : Int) (f : Str) | mark (n : Int) | shown (k : Int) (t : List Nat) (z : Int) (f : Str)
def rrD : RR → Dt
  | .text t z f => .tup [.str "text", .str (SX.S t), .int z, .str f]
  | .mark n => .tup [.str "mark", .str "note", .int n]
  | .shown k t z f => .tup [.str "shown", .int k, .str (SX.S t), .int z, .str f]
def resol1 (ts : List (List Nat)) : Run → RR
  | .text t z f => .text t z f
  | .mark n => .mark n
  | .ref k z f => .shown k (ts.getD k.toNat []) z f
theorem big : 1000000 < sizeLine := by rw [sizeLine_eq]; decide
theorem PoolAt.le {H : Hp} {p : Addr} {n m : Nat} (h : PoolAt H p n) (e : m ≤ n) : PoolAt H p m := by
  obtain ⟨c0, c1, c2, c3, c4, h1, h2, h3, h4, h5⟩ := h
  exact ⟨c0, c1, c2, c3, c4, h1, h2, h3, by omega, h5⟩
theorem nat_of {i : Int} (h : 0 ≤ i) : ∃ j : Nat, i = (j : Int) := ⟨i.toNat, by omega⟩
theorem get_of {α : Type} {l : List α} {j : Nat} (h : j < l.length) : ∃ c, l[j]? = some c ∧ c ∈ l := ⟨l[j], List.getElem?_eq_getElem h, List.getElem_mem h⟩
theorem PoolAt.ne {H : Hp} {p l : Addr} {n : Nat} (h : PoolAt H p n) (e : H l = none) : l ≠ p := by
  obtain ⟨xs, h1⟩ := h.there
  exact (ne_of_none h1 e).symm
theorem gi {ns : List Int} {j : Nat} (h : j < ns.length) : ∃ z, (ns.map V.int)[j]? = some (V.int z) ∧ z ∈ ns := by
  obtain ⟨z, h1, h2⟩ := get_of h
  exact ⟨z, by rw [List.getElem?_map, h1] <;> rfl, h2⟩
theorem mem_putK {κ : Type} [DecidableEq κ] {kvs : List (κ × V)} {k : κ} {v : V} {x : κ × V} (h : x ∈ putK kvs k v) : x = (k, v) ∨ x ∈ kvs := by
  unfold putK at h
  split at h
  · obtain ⟨y, hy, e⟩ := List.mem_map.mp h
    by_cases hk : y.1 = k
    · rw [if_pos hk, hk] at e
      exact .inl e.symm
    · rw [if_neg hk] at e
      exact .inr (by rw [← e]; exact hy)
  · rcases List.mem_append.mp h with h | h
    · exact .inr h
    · exact .inl (List.mem_singleton.mp h)
theorem KernOk.put {kk : List (L2.Key × V)} (h : KernOk kk) (x : Str) (i : Int) : KernOk (putK kk (Sum.inr x) (V.int i)) := fun kv hv => by
  rcases mem_putK hv with e | e
  · exact ⟨x, i, e⟩
  · exact h kv e
theorem join_chs (g : List Nat) : Txt.join (Str.ofString "") (g.map ch) = SX.S g := by
  have e1 : (Str.ofString "") = SX.S [] := rfl
  have e2 : g.map ch = (g.map fun c => [c]).map SX.S := by rw [List.map_map] <;> rfl
  rw [e1, e2, SX.join_S]
  refine congrArg SX.S ?_
  induction g with
  | nil => rfl
  | cons c r ih =>
    cases r with
    | nil => rfl
    | cons d t =>
      show [c] ++ ([] ++ TL.joinL [] (([d] :: t.map fun c => [c]))) = c :: d :: t
      have ih2 : TL.joinL [] ([d] :: t.map fun c => [c]) = d :: t := ih (by rw [List.map_map] <;> rfl)
      rw [ih2] <;> rfl
theorem sum_chs (g : List Nat) : ((g.map ch).map (·.length)).sum = g.length := by
  induction g with
  | nil => rfl
  | cons c r ih => rw [List.map_cons, List.map_cons, List.sum_cons, ih, List.length_cons] <;> (show 1 + r.length = r.length + 1; omega)
/-! ### promises of the draws -/
def spPool (K : PySem.W.Frag) : Sp := fun vs H Q _ => ∃ (a : Addr) (ns : List Int) (i : Int), vs = [.ref a, .int i] ∧ SqL K H a (ns.map V.int) ∧ ns.length ≤ 63 ∧ 0 ≤ i ∧ i ≤ 3 ∧ ∀ (p : Addr) (H' : Hp), H p = none → Fr [] H H' → PoolAt H' p 536870912 → Q (.ref p) H'
def spChars : Sp := fun vs H Q _ => ∃ (p : Addr) (many : Int) (n : Nat), vs = [.ref p, .int many] ∧ PoolAt H p n ∧ 61 ≤ n ∧ 0 ≤ many ∧ many ≤ 61 ∧ ∀ (r : List Nat) (H' : Hp), (r.length : Int) = many → (∀ c ∈ r, c ∈ restL) → Fr [p] H H' → PoolAt H' p (n - 61) → Q (.str (SX.S r)) H'
def spKnown : Sp := fun vs H Q _ => ∃ (p : Addr) (n : Nat), vs = [.ref p] ∧ PoolAt H p n ∧ 63 ≤ n ∧ ∀ (r : List Nat) (H' : Hp), 1 ≤ r.length → r.length ≤ 61 → (∀ c ∈ r, c ∈ restL) → Fr [p] H H' → PoolAt H' p (n - 63) → Q (.str (SX.S r)) H'
def spGlyph : Sp := fun vs H Q _ => ∃ (p : Addr) (signs : List Nat) (n : Nat), vs = [.ref p, .str (SX.S signs)] ∧ PoolAt H p n ∧ 2 ≤ n ∧ 1 ≤ signs.length ∧ signs.length ≤ 10000 ∧ ∀ (c : Nat) (H' : Hp), Al signs c → Fr [p] H H' → PoolAt H' p (n - 2) → Q (.str (ch c)) H'
def spLetter : Sp := fun vs H Q _ => ∃ (p : Addr) (wide : Int) (n : Nat), vs = [.ref p, .int wide] ∧ PoolAt H p n ∧ 20 ≤ n ∧ 1 ≤ wide ∧ wide ≤ 30 ∧ ∀ (l t x : Addr) (rs : List Rect) (H' : Hp), H l = none → H' l = some (.lst [.ref t, .ref x]) → LetAt H' (.ref t) wide rs → Fr [p] H H' → PoolAt H' p (n - 20) → Q (.ref l) H'
def spPairs : Sp := fun vs H Q _ => ∃ (p : Addr) (cs : List Nat) (n : Nat), vs = [.ref p, .str (SX.S cs)] ∧ PoolAt H p n ∧ 10 ≤ n ∧ 1 ≤ cs.length ∧ cs.length ≤ 10000 ∧ ∀ (d : Addr) (kk : List (L2.Key × V)) (H' : Hp), H d = none → H' d = some (.dK kk) → KernOk kk → kk.length ≤ 3 → Fr [p] H H' → PoolAt H' p (n - 10) → Q (.ref d) H'
/-- a house of one's own: nothing of it stood before -/
def Fresh (H : Hp) (h : Addr) (D : HouseD) : Prop := H h = none ∧ H D.tb = none ∧ H D.en = none ∧ H D.nu = none ∧ H D.pr = none
def spHouse : Sp := fun vs H Q _ => ∃ (p : Addr) (cs more : List Nat) (n : Nat), vs = [.ref p, .str (SX.S cs), .str (SX.S more)] ∧ PoolAt H p n ∧ 2000 ≤ n ∧ (∀ c ∈ cs, c ∈ restL) ∧ cs.length ≤ 61 ∧ more.length ≤ 100 ∧
  ∀ (h : Addr) (D : HouseD) (A : Nat → Int) (H' : Hp), HouseAt H' h D → D.kk.length ≤ 3 → D.kvs.length ≤ 900 → TabOk H' D.kvs (figL ++ 45 :: cs) A → Fresh H h D → Fr [p] H H' → PoolAt H' p (n - 2000) → Q (.ref h) H'
def spFHouse : Sp := fun vs H Q _ => ∃ (p : Addr) (cs fs : List Nat) (n : Nat), vs = [.ref p, .str (SX.S cs), .str (SX.S fs)] ∧ PoolAt H p n ∧ 3000 ≤ n ∧ (∀ c ∈ cs, c ∈ restL) ∧ cs.length ≤ 61 ∧ 1 ≤ cs.length ∧ fs.length = 2 ∧ (∀ c ∈ fs, c ∈ figL) ∧
  ∀ (h : Addr) (D : HouseD) (A : Nat → Int) (H' : Hp), HouseAt H' h D → TabOk H' D.kvs (figL ++ 45 :: cs) A → Fresh H h D → Fr [p] H H' → PoolAt H' p (n - 3000) → Q (.ref h) H'
def spTrun : Sp := fun vs H Q _ => ∃ (p tl : Addr) (signs : List Nat) (a b : Int) (n : Nat), vs = [.ref p, .str (SX.S signs), .ref tl] ∧ PoolAt H p n ∧ 210 ≤ n ∧ 1 ≤ signs.length ∧ signs.length ≤ 10000 ∧ H tl = some (.lst [.int a, .int b]) ∧ (1 ≤ a ∧ a ≤ 12) ∧ (1 ≤ b ∧ b ≤ 12) ∧ tl ≠ p ∧
  ∀ (v : V) (t : List Nat) (z : Int) (f : Str) (H' : Hp), Tr H' v (runD (.text t z f)) → RunOk signs (.text t z f) → Fr [p] H H' → PoolAt H' p (n - 210) → Q v H'
def spRruns : Sp := fun vs H Q _ => ∃ (p : Addr) (signs : List Nat) (n : Nat), vs = [.ref p, .str (SX.S signs)] ∧ PoolAt H p n ∧ 2000 ≤ n ∧ 1 ≤ signs.length ∧ signs.length ≤ 10000 ∧
  ∀ (v : V) (rs : List Run) (H' : Hp), Tr H' v (.tup (rs.map runD)) → (∀ r ∈ rs, RunOk signs r) → rs.length ≤ 12 → (∃ k z f, Run.ref k z f ∈ rs) → Fr [p] H H' → PoolAt H' p (n - 2000) → Q v H'
def WordOk (signs : List Nat) (t : List Nat) : Prop := (∀ c ∈ t, Al signs c ∨ c ∈ figL) ∧ t.length ≤ 10 ∧ ∃ c ∈ t, c ∈ signs
def spWtext : Sp := fun vs H Q _ => ∃ (p : Addr) (signs : List Nat) (n : Nat), vs = [.ref p, .str (SX.S signs)] ∧ PoolAt H p n ∧ 20 ≤ n ∧ 1 ≤ signs.length ∧ signs.length ≤ 10000 ∧
  ∀ (t : List Nat) (H' : Hp), (∀ c ∈ t, Al signs c) → t.length ≤ 6 → (∃ c ∈ t, c ∈ signs) → Fr [p] H H' → PoolAt H' p (n - 20) → Q (.str (SX.S t)) H'
def SV (t : List Nat) : V := .str (SX.S t)
def spTwo : Sp := fun vs H Q _ => ∃ (p : Addr) (signs fs : List Nat) (n : Nat), vs = [.ref p, .str (SX.S signs), .str (SX.S fs)] ∧ PoolAt H p n ∧ 100 ≤ n ∧ 1 ≤ signs.length ∧ signs.length ≤ 10000 ∧ fs.length = 2 ∧ (∀ c ∈ fs, c ∈ figL) ∧
  ∀ (l t1 t2 : Addr) (ns ms : List (List Nat)) (H' : Hp), H l = none → H' l = some (.lst [.ref t1, .ref t2]) → H' t1 = some (.tup (ns.map SV)) → H' t2 = some (.tup (ms.map SV)) → ns.length = 3 → ms.length = 3 →
    (∀ t ∈ ns, WordOk signs t) → (∀ t ∈ ms, WordOk signs t) → ns.map (List.map mk) = ms.map (List.map mk) → Fr [p] H H' → PoolAt H' p (n - 100) → Q (.ref l) H'
def spResol : Sp := fun vs H Q _ => ∃ (v : V) (t : Addr) (rs : List Run) (ts : List (List Nat)), vs = [v, .ref t] ∧ Tr H v (.tup (rs.map runD)) ∧ H t = some (.tup (ts.map SV)) ∧ ts.length = 3 ∧ rs.length ≤ 1000 ∧ (∀ k z f, Run.ref k z f ∈ rs → 0 ≤ k ∧ k ≤ 2) ∧
  ∀ (u : V) (H' : Hp), Tr H' u (.tup ((rs.map (resol1 ts)).map rrD)) → Fr [] H H' → Q u H'

end K45

set_option maxHeartbeats 4000000
namespace K45
open PySem PySem.Spec PyProof.Rows L2
/-! ### a tuple of ints and texts -/
def fv : Dt → V
  | .int i => .int i
  | .str x => .str x
  | .tup _ => .non
def isF : Dt → Bool
  | .tup _ => false
  | _ => true
theorem Trs.flat {H : Hp} : ∀ {vs : List V} {ds : List Dt}, Trs H vs ds → ds.all isF = true → vs = ds.map fv
  | _, _, .nil, _ => rfl
  | _, _, .cons (d := d) h t, e => by
    rw [List.all_cons, Bool.and_eq_true] at e
    rw [List.map_cons, ← Trs.flat t e.2]
    cases h with
    | int i => rfl
    | str x => rfl
    | tup _ _ => exact absurd e.1 (by simp [isF])
theorem Tr.flat {H : Hp} {v : V} {ds : List Dt} (h : Tr H v (.tup ds)) (e : ds.all isF = true) : ∃ b, v = .ref b ∧ H b = some (.tup (ds.map fv)) := by
  obtain ⟨b, vs, rfl, h1, h2⟩ := h.inv
  rw [h2.flat e] at h1
  exact ⟨b, rfl, h1⟩
theorem Trs.of_flat {H : Hp} : ∀ {ds : List Dt}, ds.all isF = true → Trs H (ds.map fv) ds
  | [], _ => .nil
  | d :: ds, e => by
    rw [List.all_cons, Bool.and_eq_true] at e
    refine .cons ?_ (Trs.of_flat e.2)
    cases d with
    | int i => exact .int i
    | str x => exact .str x
    | tup _ => exact absurd e.1 (by simp [isF])
theorem Tr.of_flat {H : Hp} {a : Addr} {ds : List Dt} (h : H a = some (.tup (ds.map fv))) (e : ds.all isF = true) : Tr H (.ref a) (.tup ds) := .tup h (Trs.of_flat e)
/-! ### a text times a number -/
theorem foldl_rep (l : List Nat) : ∀ (n : Nat) (acc : Array Nat), (List.replicate n l.toArray).foldl (· ++ ·) acc = acc ++ (List.replicate n l).flatten.toArray
  | 0, acc => by simp
  | n + 1, acc => by
    rw [List.replicate_succ, List.foldl_cons, foldl_rep l n, List.replicate_succ, List.flatten_cons]
    simp [Array.append_assoc]
theorem mul_S (l : List Nat) (n : Nat) : Txt.mul (SX.S l) (n : Int) = SX.S (List.replicate n l).flatten := by
  unfold Txt.mul
  by_cases h1 : (n : Int) < 1
  · rw [if_pos h1]
    have : n = 0 := by omega
    subst this
    rfl
  · rw [if_neg h1]
    by_cases h2 : ((n : Int) == 1 || (SX.S l).length == 0) = true
    · rw [if_pos h2]
      rw [Bool.or_eq_true] at h2
      rcases h2 with h | h
      · have : n = 1 := by
          have := beq_iff_eq.mp h
          omega
        subst this
        simp
      · have h3 : (SX.S l).length = 0 := beq_iff_eq.mp h
        rw [SX.S_len] at h3
        have : l = [] := List.length_eq_zero_iff.mp h3
        subst this
        simp
    · rw [if_neg h2]
      have e := foldl_rep l n #[]
      rw [Int.toNat_natCast]
      show (⟨(List.replicate n l.toArray).foldl (· ++ ·) #[]⟩ : Str) = _
      rw [e]
      simp
theorem mulOk_small {x : Str} {n : Nat} (h1 : x.length ≤ 10000) (h2 : n ≤ 100) : MulOk x (n : Int) := by
  refine ⟨?_, fun h _ => ?_, fun h _ => ?_⟩
  · rw [Bool.or_eq_false_iff]
    exact ⟨decide_eq_false (by omega), decide_eq_false (by omega)⟩
  · have hn : (1 : Int) ≤ n := by omega
    have h3 : (10000 : Int) ≤ (2 ^ 63 - 1) / (n : Int) := by
      refine (Int.le_ediv_iff_mul_le (by omega)).mpr ?_
      have : (10000 : Int) * n ≤ 10000 * 100 := Int.mul_le_mul_of_nonneg_left (by omega) (by decide)
      omega
    omega
  · rw [Int.toNat_natCast]
    have h4 : x.length * n ≤ 10000 * 100 := Nat.mul_le_mul h1 h2
    have := big
    show decide (x.length * n > sizeLine) = false
    exact decide_eq_false (by omega)
section
variable {X : Cx}
theorem op_mul_str : OpR X (binaryOp .Mult) (fun x y H Q => ∃ (z : Str) (n : Int), x = .str z ∧ y = .int n ∧ MulOk z n ∧ Q (.str (Txt.mul z n)) H) := by
  intro pins s σ H x y v u Q I rx ry h
  obtain ⟨z, n, rfl, rfl, hok, q⟩ := h
  obtain ⟨t, rfl⟩ := rx
  obtain ⟨t', rfl⟩ := ry
  exact SB.mul hok fun t2 k2 => ⟨.str _, H, I.tok _, ⟨_, rfl⟩, q⟩
/-- o[i] = e, a dict's, as a target -/
def rSetD : V → V → V → Hp → (Hp → Prop) → Prop := fun o i v H Q => ∃ a H', o = .ref a ∧ DPut H a i v H' ∧ Q H'
theorem set_dict (hu : X.A.units + 1 < cLine) : PSet X rSetD := by
  intro pins s σ H o i v ov iv u Q I ro ri rv h
  obtain ⟨a, H', rfl, g, q⟩ := h
  obtain rfl : ov = Value.ref a := ro
  exact d_setItem hu I g ri rv fun s' I' => ⟨H', I', q⟩
end
/-! ### a text walked sign by sign -/
theorem walk_sign {l : List Nat} : Walk (Its (SX.S l)) l.length (fun _ => True) (fun i H v H' => H' = H ∧ ∃ c, l[i]? = some c ∧ v = .str (ch c)) := by
  refine ⟨fun i _ hi _ => ?_, fun _ _ => ?_, fun i H v H' _ _ y => ?_⟩
  · show i < l.toArray.size
    simpa using hi
  · show l.toArray.size ≤ l.length
    simp
  · obtain ⟨h1, c, h2, h3⟩ := y
    have h4 : l.toArray[i]? = some c := h2
    exact ⟨h1, c, by simpa using h4, h3⟩
/-! ### a table that is filled -/
theorem TabOk.nil (H : Hp) (a : Int) : TabOk H [] [] (fun _ => a) := ⟨Nat.zero_le _, fun kv h => (by cases h), fun c h => (by cases h), fun _ _ => rfl⟩
theorem TabOk.put {H : Hp} {kvs : List (L2.Key × V)} {need : List Nat} {A : Nat → Int} (T : TabOk H kvs need A) {c : Nat} {v : V} {adv : Int} {rs : List Rect} (hv : LetAt H v adv rs) (h1 : 1 ≤ adv) (h30 : adv ≤ 30) (hf : K45.fig c = true → adv = A 48)
    (hl : kvs.length ≤ 990) : TabOk H (putK kvs (Sum.inr (ch c)) v) (need ++ [c]) (fun d => if d = c then adv else A d) := by
  refine ⟨Nat.le_trans (length_putK _ _ _) (by omega), fun kv hkv => ?_, fun d hd => ?_, fun d hd => ?_⟩
  · rcases mem_putK hkv with e | e
    · exact ⟨c, by rw [e], List.mem_append_right _ (List.mem_singleton.mpr rfl)⟩
    · obtain ⟨d, e1, e2⟩ := T.all kv e
      exact ⟨d, e1, List.mem_append_left _ e2⟩
  · by_cases e : d = c
    · refine ⟨v, rs, ?_, ?_, ?_, ?_⟩
      · rw [valV_put, if_pos (by rw [e])]
      · rw [if_pos e]; exact hv
      · rw [if_pos e]; exact h1
      · rw [if_pos e]; exact h30
    · have hd2 : d ∈ need := by
        rcases List.mem_append.mp hd with h | h
        · exact h
        · exact absurd (List.mem_singleton.mp h) e
      obtain ⟨u, qs, e1, e2, e3, e4⟩ := T.has d hd2
      refine ⟨u, qs, ?_, ?_, ?_, ?_⟩
      · rw [valV_put, if_neg (fun z => e (ch_inj (Sum.inr.inj z)))]; exact e1
      · rw [if_neg e]; exact e2
      · rw [if_neg e]; exact e3
      · rw [if_neg e]; exact e4
  · have h48 : (if 48 = c then adv else A 48) = A 48 := by
      by_cases z : 48 = c
      · rw [if_pos z]
        exact hf (by rw [← z]; decide)
      · rw [if_neg z]
    rw [h48]
    by_cases e : d = c
    · rw [if_pos e]
      exact hf (by rw [← e]; exact hd)
    · rw [if_neg e]
      exact T.fig d hd
theorem TabOk.need {H : Hp} {kvs : List (L2.Key × V)} {need need' : List Nat} {A : Nat → Int} (T : TabOk H kvs need A) (h : ∀ c, c ∈ need ↔ c ∈ need') : TabOk H kvs need' A :=
  ⟨T.len, fun kv hkv => let ⟨c, e1, e2⟩ := T.all kv hkv; ⟨c, e1, (h c).mp e2⟩, fun c hc => T.has c ((h c).mpr hc), T.fig⟩

end K45

set_option maxHeartbeats 4000000
namespace K45
open PySem PySem.Spec PyProof.Rows L2
/-! ### enumerate of a tuple -/
theorem meets_enumerate_newT (l : Addr) (items : Array Value) :
    Meets (Builtin.«enumerate.__new__» ⟨[.type "enumerate", .ref l], []⟩) (fun _ R s => s.heap.IsTuple l items ∧
      R (.ok (.ret (.ref (s.heap.push { cls := .type "tuple_iterator", data := .fields #[.ref l, .int 0 0] }).objs.size)))
        { s with heap := (s.heap.push { cls := .type "tuple_iterator", data := .fields #[.ref l, .int 0 0] }).push { cls := .type "enumerate", data := .fields #[.none, .bool false, .ref s.heap.objs.size, rawInt 0, .none, .none] } }) :=
  .of_wp fun prog w A R s h => by
    obtain ⟨hp, g, d, tk, os⟩ := s; obtain ⟨hl, h⟩ := h
    have hsub := sub_enumerate
    have q1 : ∀ {A' : Around} {E : Value → Shared → Prop} {Q : Value → Shared → Prop}, Q (.ref hp.objs.size) ⟨hp.push { cls := .type "tuple_iterator", data := .fields #[.ref l, .int 0 0] }, g, d, tk, os⟩ → wpAny (model prog w) A' (pyIter (.ref l)) Q E ⟨hp, g, d, tk, os⟩ :=
      fun q => wpAny_pyIter_tuple hl q
    wp_walk using q1
    refine wpAny_stack_any fun st => wpAny_pure ?_
    split
    · rename_i c _ _ _ _ _
      cases (c == Value.type "enumerate")
      · wp_walk using q1
        exact ⟨_, rfl, h⟩
      · wp_walk using q1
        exact ⟨_, rfl, h⟩
    · wp_walk using q1
      exact ⟨_, rfl, h⟩
section
variable {prog : Program} {w : World} {A : Around} {E : Value → Shared → Prop} {s : Shared}
theorem call_enumerate_tuple {l : Addr} {items : Array Value} {Q : Value → Shared → Prop} (hL : s.heap.IsTuple l items)
    (h : ∀ h', IsEnum h' (s.heap.objs.size + 1) s.heap.objs.size 0 .none → h'.IsTupleIter s.heap.objs.size l 0 → h'.objs.size = s.heap.objs.size + 2 →
      (∀ b o, s.heap.get? b = some o → h'.get? b = some o) → Q (.ref (s.heap.objs.size + 1)) { s with heap := h' }) :
    wpAny (model prog w) A (call (.type "enumerate") [.ref l]) Q E s := by
  refine callType_new F.called_enumerate (by decide) (F.typeCall_enumerate_1 _) (F.newCall_enumerate_1 _) (fun obj => F.args_object_init_2 obj _) F.entry_enumerate_new
    (meets_enumerate_newT l items) ⟨hL, ?_⟩
  have hz : (s.heap.push { cls := .type "tuple_iterator", data := .fields #[.ref l, .int 0 0] }).objs.size = s.heap.objs.size + 1 := Heap.size_push ..
  show _ ∧ _
  rw [hz]
  have he : IsEnum ((s.heap.push { cls := .type "tuple_iterator", data := .fields #[.ref l, .int 0 0] }).push
      { cls := .type "enumerate", data := .fields #[.none, .bool false, .ref s.heap.objs.size, rawInt 0, .none, .none] }) (s.heap.objs.size + 1) s.heap.objs.size 0 .none := by
    have := Heap.get?_push_size (s.heap.push { cls := .type "tuple_iterator", data := .fields #[.ref l, .int 0 0] })
      (o := { cls := .type "enumerate", data := .fields #[.none, .bool false, .ref s.heap.objs.size, rawInt 0, .none, .none] }) rfl
    rw [hz] at this; exact this
  refine ⟨⟨_, he, rfl⟩, h _ he ⟨_, Heap.get?_push_of_some _ (Heap.get?_push_size _ rfl), rfl, rfl⟩ (by rw [Heap.size_push, hz]) fun b o x => Heap.get?_push_of_some _ (Heap.get?_push_of_some _ x)⟩
end
section
variable {prog : Program} {w : World} {A : Around} {E : Value → Shared → Prop} {s : Shared}
/-- the count's next where the tuple has come to its end -/
theorem enumT_stops {e it a : Addr} {j : Nat} {c : Int} {old : Value} {items : Array Value} {Q : Option Value → Shared → Prop} (hh : A.in1.handled = none) (he : IsEnum s.heap e it c old) (hit : s.heap.IsTupleIter it a j) (ht : s.heap.IsTuple a items)
    (hj : items[j]? = none) (hQ : ∀ h', Heap.ExtBut it s.heap h' → Q none { s with heap := h' }) : wpAny (model prog w) A (pyNext (.ref e)) Q E s := by
  have ty : s.TypeIs (.ref e) "enumerate" := ⟨_, he, rfl⟩
  have body : ∀ (E' : Value → Shared → Prop) (Q' : Value → Shared → Prop), (∀ h' x, Heap.ExtBut it s.heap h' → (∃ o, h'.get? x = some o ∧ o.cls = .type "StopIteration") → E' (.ref x) { s with heap := h' }) →
      wpAny (model prog w) A.in1 (Builtin.SmallTypes.nextOf (.ref it)) Q' E' s := fun E' Q' q => wpAny_nextOf_tuple_end hh hit ht hj q
  unfold pyNext
  refine wpAny_bind (wpAny_attempt (wpAny_callSpecial?_slot (name := Str.ofString "__next__") ty F.slot_enumerate_next (wpAny_call_entry F.slot_enumerate_next ty F.entry_enumerate_next ?_ (F.args_enumerate_next_1 _))))
  show wpAny _ _ (field (.ref e) 2 >>= _) _ _ _
  refine wpAny_bind (wpAny_field he rfl (x := .ref it) rfl (wpAny_bind (body _ _ fun h' x kx ⟨o, ho, hc⟩ => ?_)))
  exact wpAny_bind (wpAny_isInstance (T := "StopIteration") (b := true) ⟨o, ho, hc⟩ isSubtype_stop (wpAny_pure (hQ h' kx)))
end
/-- the tuple at a, each item in a new pair with its place -/
def IteT (K : PySem.W.Frag) (a : Addr) : It where
  go i H := ∃ (xs : List V) (x : V), SqT K H a xs ∧ xs[i]? = some x
  yld i H v H' := ∃ T x, v = .ref T ∧ H T = none ∧ H' = upd H T (.tup [.int (i : Nat), x]) ∧ ∀ xs, SqT K H a xs → xs[i]? = some x
  stop i H := ∃ xs : List V, SqT K H a xs ∧ xs.length ≤ i
/-- the two cells of such a walk, at turn i -/
structure EnT (a e it : Addr) (i : Nat) (h : Heap) : Prop where
  en : ∃ old, IsEnum h e it ((i : Nat) : Int) old
  tu : h.IsTupleIter it a i
  ne : e ≠ it
theorem EnT.apart {a e it : Addr} {i : Nat} {h : Heap} {items : Array Value} (t : EnT a e it i h) (p : h.IsTuple a items) : e ≠ a ∧ a ≠ it := by
  obtain ⟨⟨old, he⟩, ⟨o2, ho2, hc2, _⟩, _⟩ := t
  obtain ⟨ot, hot, hct, _⟩ := p
  have no : ∀ n : String, n ≠ "tuple" → Value.type n ≠ Value.type "tuple" := fun n hn z => by
    injection z with z
    exact hn z
  constructor
  · rintro rfl
    have q : h.get? e = some _ := he
    rw [q] at hot
    rw [← Option.some.inj hot] at hct
    exact no "enumerate" (by decide) hct
  · rintro rfl
    rw [ho2] at hot
    rw [← Option.some.inj hot, hc2] at hct
    exact no "tuple_iterator" (by decide) hct
theorem turn_enumT {P : Program} {w : World} {K : PySem.W.Frag} {elts : List Expr} {kk : Nat} {tpos : Pos} (a e it : Addr) : Turn P w K (.Tuple elts kk tpos) (IteT K a) [e, it] e (EnT a e it) where
  mem := List.mem_cons_self
  obj i h t b hb := by
    obtain ⟨⟨old, he⟩, ⟨o, ho, hc, hd⟩, _⟩ := t
    rcases List.mem_cons.mp hb with rfl | hb
    · exact ⟨_, he, fun v q => by cases q⟩
    · rw [List.mem_singleton.mp hb]
      exact ⟨o, ho, fun v q => by rw [hd] at q; cases q⟩
  keep i h h' t k := ⟨let ⟨old, he⟩ := t.en; ⟨old, k e List.mem_cons_self _ he⟩, t.tu.at fun o q => k it (List.mem_cons_of_mem _ List.mem_cons_self) o q, t.ne⟩
  item := by
    rintro X rfl rfl rfl hc i pins s σ H E I hf t ⟨xs, x, hq, hx⟩
    obtain ⟨its, rv, p, _⟩ := I.tuple hq
    obtain ⟨u, hu, ru⟩ := rv.get hx
    obtain ⟨ea, ai⟩ := t.apart p
    obtain ⟨⟨old, he⟩, hit, ne⟩ := t
    have le : e < s.heap.objs.size := Heap.lt_size he
    have li : it < s.heap.objs.size := let ⟨_, q, _⟩ := hit; Heap.lt_size q
    have small : ∀ b ∈ [e, it], b < s.heap.objs.size := fun b hb => by
      rcases List.mem_cons.mp hb with rfl | hb
      · exact le
      · rw [List.mem_singleton.mp hb]; exact li
    have hu2 : its.toArray[i]? = some u := by simpa using hu
    have D := Draws.tuple (prog := X.prog) (w := X.w) (A := X.A.in1) (I.ok.hd hc) it a ai its.toArray
    refine wpAny_pyNext_enum_itemD D he ⟨hit, p⟩ (by have := (List.getElem?_eq_some_iff.mp hu).1; simpa using this) ne (by simp [ne, ea]) fun y h' tk hy ho hs' hT _ hk => ?_
    have ey : u = y := Option.some.inj (hu2.symm.trans hy)
    subst ey
    refine ⟨_, rfl, wpAny_letOwnedTupleGo_enum (s := { s with heap := h', toks := tk + 1 }) ho fun h2 he2 sb => ?_⟩
    have old2 : ∀ b ob, b ∉ [e, it] → s.heap.get? b = some ob → h2.get? b = some ob := fun b ob hb q =>
      (sb.2 b fun z => hb (by rw [z]; exact List.mem_cons_self)).trans (hk b ob (fun z => hb (by rw [z]; exact List.mem_cons_self)) (fun z => hb (by rw [z]; exact List.mem_cons_of_mem _ List.mem_cons_self)) q)
    have made : ObjOk X.prog X.w (upd H s.heap.objs.size (.tup [.int (i : Nat), x])) h2 s.heap.objs.size (.tup [.int (i : Nat), x]) :=
      ⟨by show 2 ≤ sizeLine; decide, [.int i tk, u], .cons ⟨_, rfl⟩ (.cons ru .nil), _, (sb.2 _ (Nat.ne_of_gt le)).trans hT, rfl, _, rfl⟩
    have I1 := I.turnedNew (t' := tk + 1) (ch := [e, it]) old2 hf (Nat.le_refl _) made
    refine ⟨.ref s.heap.objs.size, _, I1, rfl, ⟨_, x, rfl, I.hok.fresh (Nat.le_refl _), rfl, fun ys hy => by rw [I.tuple_inj hy hq]; exact hx⟩, ⟨⟨u, ?_⟩, hs'.1.at fun o q => (sb.2 it ne.symm).trans q, ne⟩, fun b hb => ?_⟩
    · rw [show ((i + 1 : Nat) : Int) = (i : Int) + 1 by omega]
      exact he2
    · rw [upd_ne (Nat.ne_of_lt (small b hb))]
      exact (hf b hb).1
  done := by
    rintro X rfl rfl rfl hc i pins s σ H E I hf t ⟨xs, hq, hx⟩
    obtain ⟨its, rv, p, _⟩ := I.tuple hq
    obtain ⟨⟨old, he⟩, hit, ne⟩ := t
    obtain ⟨f0, f1, f2, f3, f4, f5⟩ := hf it (List.mem_cons_of_mem _ List.mem_cons_self)
    have hl := rv.length
    refine enumT_stops (I.ok.hd hc) he hit p (by simp; omega) fun h' eb => ⟨rfl, I.turned (t' := s.toks) (fun b o hb q => eb b o hb q) f0 f1 f3 f4 f5⟩
  self A i s Q E t q := let ⟨_, he⟩ := t.en; wpAny_pyIter_enum he q
def iEnumT (K : PySem.W.Frag) (ta : TA) : TI := fun σ H R => ta σ H fun vs H1 => ∃ a xs, vs = [.ref a] ∧ SqT K H1 a xs ∧ R (IteT K a) H1
theorem pi_enumT {X : Cx} {e : Expr} {ta : TA} {p pos tpos : Pos} {elts : List Expr} {kk : Nat} (hg : Gl X "enumerate") (hm : X.mg "enumerate" = none) (ha : PA X [e] ta) (hs : starEach [e] X.env = [(false, eval e X.env)] := by rfl) :
    PI X (.Tuple elts kk tpos) (.Call (.Name "enumerate" p) [e] [] pos) (iEnumT X.K ta) := by
  constructor
  intro pins s σ H R I h
  refine Call_ (ld_blt I hg hm boot_enumerate (PyProof.Rows.callWith_type1 (thn (ha.run pos pins s σ H _ I h) ?_) hs rfl))
  rintro us s1 ⟨vs, H1, I1, r1, a, xs, rfl, hq, q⟩
  obtain ⟨u, rfl, ru⟩ := vals1 r1
  obtain rfl : u = Value.ref a := ru
  obtain ⟨its, rv, p', _⟩ := I1.tuple hq
  refine call_enumerate_tuple p' fun h' he hit hsz hk => wpAny_pyIter_enum he ?_
  refine ⟨_, [s1.heap.objs.size + 1, s1.heap.objs.size], _, _, H1, rfl, I1.kept (t' := s1.toks) hk, turn_enumT a (s1.heap.objs.size + 1) s1.heap.objs.size, ⟨⟨.none, he⟩, hit, Nat.succ_ne_self _⟩, fun b hb => ?_, q⟩
  have hle : s1.heap.objs.size ≤ b := by
    rcases List.mem_cons.mp hb with z | z
    · rw [z]; exact Nat.le_succ _
    · rw [List.mem_singleton.mp z]; exact Nat.le_refl _
  exact I1.fpOk hle (I1.hok.fresh hle)
theorem walk_enumT {K : PySem.W.Frag} {a : Addr} {xs : List V} : Walk (IteT K a) xs.length (fun H => SqT K H a xs) (YPair (fun i => some (.int (i : Nat))) (fun i => xs[i]?)) := by
  refine ⟨fun i _ hi q => ⟨xs, xs[i], q, by simp [hi]⟩, fun _ q => ⟨xs, q, Nat.le_refl _⟩, fun i H v H' _ q y => ?_⟩
  obtain ⟨T, x, h1, h2, h3, h4⟩ := y
  exact ⟨T, .int (i : Nat), x, h1, h2, h3, rfl, h4 xs q⟩
/-! ### sorted of texts, any number -/
def rSortedSA (K : PySem.W.Frag) : List V → Hp → VK → Prop := fun vs H Q => ∃ (a : Addr) (xs : List Str), vs = [V.ref a] ∧ SqL K H a (xs.map V.str) ∧ ∀ (ys : List Str) (p : Addr), ys.Perm xs → H p = none → Q (.ref p) (upd H p (.lst (ys.map V.str)))
theorem cr_sortedSA {X : Cx} : CallR X (.builtin "sorted") (rSortedSA X.K) := by
  intro pins s σ H vs us Q I r h
  obtain ⟨a, xs, rfl, hs, q⟩ := h
  obtain ⟨its, rv, hl, hz⟩ := I.list hs
  rw [Vals.ref1 r]
  have hlen0 := rv.length
  refine PyProof.Rows.sorted_strsAny hl.isList rv.strs (by rw [← hlen0]; exact hz) fun out ys h1 h2 h3 => ?_
  obtain ⟨ep, he'⟩ := PyProof.Rows.sortedAll_at s.heap its out
  have hlen : (ys.map V.str).length ≤ sizeLine := by
    rw [List.length_map, h2.length_eq]
    rw [List.length_map] at hz
    exact hz
  exact ⟨.ref _, upd H (s.heap.objs.size + 1) (.lst (ys.map V.str)), I.laid (t' := s.toks) (fun _ _ => PyProof.Rows.sortedAll_old) (Nat.le_succ _) ⟨hlen, out.toList, ep, vals_of_strs h1, he'⟩, rfl, q ys _ h2 (I.hok.fresh (Nat.le_succ _))⟩

end K45

set_option maxHeartbeats 4000000
namespace K45
open PySem PySem.Spec PyProof.Rows L2
section
variable {P : Program} {w : World} {K : PySem.W.Frag} {mg : Str → Option Value} {base : Heap}
abbrev s_take : Stmt := top 39
abbrev N_take : List Str := ["_law_pool_here", "_law_many", "_law_got", "_law_one", "_law_two"]
theorem sc_take : FnScope ["_law_pool_here", "_law_many", "_law_got", "_law_one", "_law_two"] ["_law_pool_here", "_law_many"] (defScope s_take) := ⟨rfl, rfl, rfl, by decide +kernel, rfl, by decide +kernel, by decide +kernel⟩
theorem c_take (F : Df K mg "_law_take" s_take) (G : Gn mg)   : C8.Cal P w K mg base 1 "_law_take" spTake [] := by
  refine cal_by F sc_take (fun _ _ _ _ _ _ us hl => match us, hl with | [_, _], _ => rfl) (fun vs H Q E h => ?_) (fun f cdv A outer s H vs Q E hr h => ?_)
  · obtain ⟨p, many, n, rfl, _⟩ := h
    rfl
  · obtain ⟨p, many, n, rfl, ⟨c0, c1, c2, c3, c4, hp, h0, h1, hn, h3, h4⟩, n1, hm, hm2, k⟩ := h
    have sc := sc_take
    refine ⟨_, (pss_cons (ps_asg (pe_op op_add (pe_ix ix_list (pv 0) pe_int (fun _ _ => rfl)) pe_int) (pg_sub (pv 0) pe_int set_list))
      (pss_cons (ps_if (pt_cmpR op_eq (pe_ix ix_list (pv 0) pe_int (fun _ _ => rfl)) pe_int (nomark _))
        (pss_cons (ps_set (i := 2) sc.nd rfl (Or.inl rfl) (pe_op op_modN (pe_callTy call_int1 rfl G.n_int (by decide +kernel) (pa_cons (pe_ix ix_list (pv 0) pe_int (fun _ _ => rfl)) pa_nil)) (pv 1)))
        (pss_cons (ps_asg (pe_op op_fdivN (pe_ix ix_list (pv 0) pe_int (fun _ _ => rfl)) (pv 1)) (pg_sub (pv 0) pe_int set_list))
        (pss_one (ps_ret (pv 2)))))
        pss_nil)
      (pss_cons (ps_set (i := 3) sc.nd rfl (Or.inl rfl) (pe_op op_modN (pe_callTy call_int1 rfl G.n_int (by decide +kernel) (pa_cons (pe_op op_add (pe_op op_add (pe_op op_mul (pe_ix ix_list (pv 0) pe_int (fun _ _ => rfl)) pe_int) (pe_op op_mul (pe_ix ix_list (pv 0) pe_int (fun _ _ => rfl)) pe_int)) pe_int) pa_nil)) pe_int))
      (pss_cons (ps_set (i := 4) sc.nd rfl (Or.inl rfl) (pe_op op_modN (pe_callTy call_int1 rfl G.n_int (by decide +kernel) (pa_cons (pe_op op_add (pe_op op_add (pe_op op_mul (pv 3) pe_int) (pe_op op_fdivN (pv 3) pe_int)) (pe_op op_mul (pe_op op_mul (pe_ix ix_list (pv 0) pe_int (fun _ _ => rfl)) (pe_ix ix_list (pv 0) pe_int (fun _ _ => rfl))) pe_int)) pa_nil)) pe_int))
      (pss_one (ps_ret (pe_op op_modN (pe_callTy call_int1 rfl G.n_int (by decide +kernel) (pa_cons (pe_op op_fdivN (pv 4) (pe_op op_add (pe_ix ix_list (pv 0) pe_int (fun _ _ => rfl)) pe_int)) pa_nil)) (pv 1)))))))), ?_⟩
    have q1 : c1 + 1 ≤ 536870912 := by omega
    refine ⟨_, rfl, p, _, _, _, rfl, rfl, SqL.of hp, rfl, _, _, rfl, rfl, _, rfl, p, _, _, 1, rfl, rfl, hp, rfl, ?_⟩
    generalize eH : upd H p _ = H1
    have f1 : Fr [p] H H1 := by rw [← eH]; exact Fr.put hp
    have hp1 : H1 p = some (.lst [.int c0, .int (c1 + 1), .int c2, .int c3, .int c4]) := by rw [← eH]; exact upd_same
    refine ⟨_, rfl, p, _, _, _, rfl, rfl, SqL.of hp1, rfl, rfl, _, rfl, ?_⟩
    refine ite2 (fun hc => ?_) (fun hc => ?_)
    · refine ⟨_, rfl, p, _, _, _, rfl, rfl, SqL.of hp1, rfl, Or.inl ⟨_, rfl, _, rfl, _, _, rfl, rfl, (by omega), ?_⟩⟩
      refine ⟨_, rfl, p, _, _, _, rfl, rfl, SqL.of hp1, rfl, _, rfl, _, _, rfl, rfl, ⟨by omega, by omega⟩, _, rfl, p, _, _, 0, rfl, rfl, hp1, rfl, _, rfl, ?_⟩
      have e0 : Int.fmod c0 many = c0 % many := Int.fmod_eq_emod_of_nonneg _ (by omega)
      have e1 : Int.fdiv c0 many = c0 / many := Int.fdiv_eq_ediv_of_nonneg _ (by omega)
      refine k _ _ ?_ ?_ (f1.ts (Fr.put hp1)) ⟨_, _, _, _, _, upd_same, ?_, by omega, by omega, h3, h4⟩
      · rw [e0]; exact Int.emod_nonneg _ (by omega)
      · rw [e0]; exact Int.emod_lt_of_pos _ (by omega)
      · rw [e1]; exact Int.ediv_nonneg h0 (by omega)
    · refine ⟨_, rfl, p, _, _, _, rfl, rfl, SqL.of hp1, rfl, _, _, rfl, rfl, .inl ⟨by omega, by omega⟩, _, rfl, p, _, _, _, rfl, rfl, SqL.of hp1, rfl, _, _, rfl, rfl, .inl ⟨by omega, by omega⟩, _, _, rfl, rfl, _, _, rfl, rfl, Or.inl ⟨_, rfl, _, _, rfl, rfl, (by show (2147483647 : Int) ≠ 0; decide), ?_⟩⟩
      have r1 : 0 ≤ (c3 * 48271 + (c1 + 1) * 69621 + 11).fmod 2147483647 ∧ (c3 * 48271 + (c1 + 1) * 69621 + 11).fmod 2147483647 < 2147483647 := by
        rw [Int.fmod_eq_emod_of_nonneg _ (by decide)]
        omega
      obtain ⟨r1, r2⟩ := r1
      refine ⟨_, rfl, _, _, rfl, rfl, .inl ⟨by omega, by omega⟩, _, rfl, _, _, rfl, rfl, ⟨by decide, by decide⟩, _, _, rfl, rfl, _, rfl, p, _, _, _, rfl, rfl, SqL.of hp1, rfl, _, rfl, p, _, _, _, rfl, rfl, SqL.of hp1, rfl, _, _, rfl, rfl, .inl ⟨by omega, by omega⟩, _, _, rfl, rfl, .inr ⟨by decide, by decide⟩, _, _, rfl, rfl, Or.inl ⟨_, rfl, _, _, rfl, rfl, (by show (2147483399 : Int) ≠ 0; decide), ?_⟩⟩
      refine ⟨_, rfl, _, rfl, p, _, _, _, rfl, rfl, SqL.of hp1, rfl, _, _, rfl, rfl, _, _, rfl, rfl, ⟨by omega, by omega⟩, Or.inl ⟨_, rfl, _, rfl, _, _, rfl, rfl, (by omega), ?_⟩⟩
      refine k _ _ ?_ ?_ f1 ⟨_, _, _, _, _, hp1, h0, by omega, by omega, h3, h4⟩
      · rw [Int.fmod_eq_emod_of_nonneg _ (by omega)]; exact Int.emod_nonneg _ (by omega)
      · rw [Int.fmod_eq_emod_of_nonneg _ (by omega)]; exact Int.emod_lt_of_pos _ (by omega)
end

end K45

set_option maxHeartbeats 4000000
namespace K45
open PySem PySem.Spec PyProof.Rows L2
section
variable {P : Program} {w : World} {K : PySem.W.Frag} {mg : Str → Option Value} {base : Heap}
abbrev s_pool : Stmt := top 38
abbrev N_pool : List Str := ["_law_script", "_law_at", "_law_cell"]
theorem sc_pool : FnScope ["_law_script", "_law_at", "_law_cell"] ["_law_script", "_law_at"] (defScope s_pool) := ⟨rfl, rfl, rfl, by decide +kernel, rfl, by decide +kernel, by decide +kernel⟩
theorem c_pool (F : Df K mg "_law_pool" s_pool) (G : Gn mg)   : C8.Cal P w K mg base 1 "_law_pool" (spPool K) [] := by
  refine cal_by F sc_pool (fun _ _ _ _ _ _ us hl => match us, hl with | [_, _], _ => rfl) (fun vs H Q E h => ?_) (fun f cdv A outer s H vs Q E hr h => ?_)
  · obtain ⟨a, ns, i, rfl, _⟩ := h
    rfl
  · obtain ⟨a, ns, i, rfl, hS, hlen, hi0, hi3, k⟩ := h
    have sc := sc_pool
    refine ⟨_, (pss_cons (ps_set (i := 2) sc.nd rfl (Or.inl rfl) pe_int)
      (pss_cons (ps_if (pt_cmpR op_lt (pv 1) (pe_callB call_len_seq rfl G.n_len (by decide +kernel) (pa_cons (pv 0) pa_nil)) (nomark _))
        (pss_one (ps_set (i := 2) sc.nd rfl (Or.inl rfl) (pe_callB call_abs rfl G.n_abs (by decide +kernel) (pa_cons (pe_callTy call_int1 rfl G.n_int (by decide +kernel) (pa_cons (pe_ix ix_list (pv 0) (pv 1) (fun _ _ => rfl)) pa_nil)) pa_nil))))
        pss_nil)
      (pss_one (ps_ret (pe_lst (pa_cons (pv 2) (pa_cons pe_int (pa_cons (pe_callTy call_int1 rfl G.n_int (by decide +kernel) (pa_cons (pe_cmpR op_ge (pv 2) (pe_op op_pow pe_int pe_int) (nomark _)) pa_nil)) (pa_cons (pe_op op_modN (pe_callTy call_int1 rfl G.n_int (by decide +kernel) (pa_cons (pe_op op_add (pv 2) (pe_op op_mul (pv 1) pe_int)) pa_nil)) pe_int) (pa_cons pe_int pa_nil)))))))))), ?_⟩
    have hz := big
    have fin : ∀ c : Int, 0 ≤ c → ∀ p, H p = none → Q (.ref p) (upd H p (.lst [.int c, .int 0, .int (if decide (10 ^ (18 : Int).toNat ≤ c) = true then 1 else 0), .int ((c + i * 7919).fmod 2147483647), .int 3])) := by
      intro c hc p hp
      refine k _ _ hp (Fr.new hp) ⟨_, _, _, _, _, upd_same, hc, by decide, by decide, ?_, ?_⟩
      · rw [Int.fmod_eq_emod_of_nonneg _ (by decide)]; exact Int.emod_nonneg _ (by decide)
      · rw [Int.fmod_eq_emod_of_nonneg _ (by decide)]; have := Int.emod_lt_of_pos (c + i * 7919) (show (0 : Int) < 2147483647 by decide); omega
    refine ⟨_, rfl, _, rfl, _, _, rfl, Or.inl hS, _, _, rfl, rfl, _, rfl, ?_⟩
    refine ite2 (fun hc => ?_) (fun hc => ?_)
    · obtain ⟨j, rfl⟩ := nat_of hi0
      have hj : j < ns.length := by
        have := of_decide_eq_true hc
        rw [List.length_map] at this
        omega
      obtain ⟨z, hz1, _⟩ := get_of hj
      refine ⟨_, rfl, _, rfl, _, _, _, _, rfl, rfl, hS, at_of (v := .int z) rfl (by rw [List.getElem?_map, hz1]; rfl), Or.inl ⟨_, rfl, _, rfl, ?_⟩⟩
      have hp0 : 0 ≤ (if z < 0 then -z else z) := by split <;> omega
      refine ⟨_, rfl, _, rfl, _, _, rfl, rfl, ⟨by decide, by decide, by decide⟩, _, _, rfl, rfl, Or.inr ⟨_, rfl, _, rfl, _, rfl, _, _, rfl, rfl, .inr ⟨by decide, by decide⟩, _, _, rfl, rfl, Or.inl ⟨_, rfl, _, _, rfl, rfl, (by show (2147483647 : Int) ≠ 0; decide), ?_⟩⟩⟩
      exact ⟨by show 5 ≤ sizeLine; omega, fin _ hp0⟩
    · refine ⟨_, rfl, _, rfl, _, _, rfl, rfl, ⟨by decide, by decide, by decide⟩, _, _, rfl, rfl, Or.inr ⟨_, rfl, _, rfl, _, rfl, _, _, rfl, rfl, .inr ⟨by decide, by decide⟩, _, _, rfl, rfl, Or.inl ⟨_, rfl, _, _, rfl, rfl, (by show (2147483647 : Int) ≠ 0; decide), ?_⟩⟩⟩
      exact ⟨by show 5 ≤ sizeLine; omega, fin _ (Int.le_refl 0)⟩
abbrev s_chars : Stmt := top 41
abbrev N_chars : List Str := ["_law_pool_here", "_law_many", "_law_rest", "_law_chars_here", "_law_k", "_law_at"]
theorem sc_chars : FnScope ["_law_pool_here", "_law_many", "_law_rest", "_law_chars_here", "_law_k", "_law_at"] ["_law_pool_here", "_law_many"] (defScope s_chars) := ⟨rfl, rfl, rfl, by decide +kernel, rfl, by decide +kernel, by decide +kernel⟩
theorem c_chars (F : Df K mg "_law_chars" s_chars) (G : Gn mg)  (c__law_take : C8.Cal P w K mg base 1 "_law_take" spTake []) : C8.Cal P w K mg base 2 "_law_chars" spChars [] := by
  refine cal_by F sc_chars (fun _ _ _ _ _ _ us hl => match us, hl with | [_, _], _ => rfl) (fun vs H Q E h => ?_) (fun f cdv A outer s H vs Q E hr h => ?_)
  · obtain ⟨p, many, n, rfl, _⟩ := h
    rfl
  · obtain ⟨p, many, n, rfl, hp, hn, h0, h1, k⟩ := h
    have sc := sc_chars
    refine ⟨_, (pss_cons (ps_set (i := 2) sc.nd rfl (Or.inl rfl) pe_str)
      (pss_cons (ps_set (i := 3) sc.nd rfl (Or.inl rfl) pe_str)
      (pss_cons (ps_for PassesOwn.never rfl (pi_range1 rfl G.n_range (pa_cons (pv 1) pa_nil)) (pg_name (i := 4) sc.nd rfl (Or.inl rfl))
        (pss_cons (ps_set (i := 5) sc.nd rfl (Or.inl rfl) (C8.pe_c c__law_take hr (by decide) rfl (pa_cons (pv 0) (pa_cons (pe_callB call_len_str rfl G.n_len (by decide +kernel) (pa_cons (pv 2) pa_nil)) pa_nil))))
        (pss_cons (ps_set (i := 3) sc.nd rfl (Or.inl rfl) (pe_op op_add_str (pv 3) (pe_ix ix_str (pv 2) (pv 5) (fun _ _ => rfl))))
        (pss_one (ps_set (i := 2) sc.nd rfl (Or.inl rfl) (pe_op op_add_str (pe_slice C8.sl_txt (pv 2) po_none (po_some (pv 5))) (pe_slice C8.sl_txt (pv 2) (po_some (pe_op op_add (pv 5) pe_int)) po_none)))))))
      (pss_one (ps_ret (pv 3)))))), ?_⟩
    have hz := big
    refine ⟨_, rfl, _, rfl, by omega, by omega, for_range (n := many.toNat) (fun i σ H' => ∃ (r s : List Nat) (v4 v5 : Option V), σ = [some (.ref p), some (.int many), some (.str (SX.S s)), some (.str (SX.S r)), v4, v5] ∧ r.length = i ∧ s.length + i = 61 ∧ (∀ c ∈ r, c ∈ restL) ∧ (∀ c ∈ s, c ∈ restL) ∧ Fr [p] H H' ∧ PoolAt H' p (n - i)) ?_ ?_ ?_⟩
    · exact ⟨[], restL, none, none, by rfl, rfl, rfl, by simp, fun _ h => h, Fr.refl _ _, hp⟩
    · rintro i σ H1 hi ⟨r, s, v4, v5, rfl, hr1, hs1, hr2, hs2, fr, hp⟩
      have hsl : (SX.S s).length = s.length := SX.S_len s
      have hrl : (SX.S r).length = r.length := SX.S_len r
      refine ⟨_, rfl, _, rfl, _, rfl, (by omega), _, _, _, rfl, hp, (by omega), (by omega), (by omega), fun at_ H2 a0 a1 f2 hp => ?_⟩
      obtain ⟨j, rfl⟩ := nat_of a0
      have hj : j < s.length := by omega
      obtain ⟨c, hc, hm⟩ := get_of hj
      have hc1 : (ch c).length = 1 := rfl
      refine ⟨_, rfl, _, rfl, _, rfl, _, _, c, rfl, rfl, (by omega), atI_nat hc, _, _, rfl, rfl, (by show (SX.S r).length + (ch c).length ≤ sizeLine; omega), ?_⟩
      have e1 : Txt.slice (SX.S s) none (some (j : Int)) = SX.S (s.take j) := SX.slice_to (by omega)
      have e2 : Txt.slice (SX.S s) (some ((j : Int) + 1)) none = SX.S (s.drop (j + 1)) := SX.slice_from (i := (j : Int) + 1) (by omega)
      refine ⟨_, rfl, _, rfl, _, rfl, _, rfl, (by omega), _, rfl, _, rfl, _, _, rfl, rfl, _, rfl, _, rfl, (by omega), _, _, rfl, rfl, ?_, ?_⟩
      · rw [e1, e2, SX.S_len, SX.S_len, List.length_take, List.length_drop]; omega
      · refine ⟨r ++ [c], s.take j ++ s.drop (j + 1), some (.int (0 + (i : Int))), some (.int (j : Int)), ?_, ?_, ?_, ?_, ?_, fr.ts f2, hp⟩
        · rw [← SX.S_cat, ← SX.S_cat, ← e1, ← e2] <;> rfl
        · simp [hr1]
        · rw [List.length_append, List.length_take, List.length_drop]; omega
        · intro d hd
          rcases List.mem_append.mp hd with hd | hd
          · exact hr2 d hd
          · rw [List.mem_singleton.mp hd]; exact hs2 c hm
        · intro d hd
          rcases List.mem_append.mp hd with hd | hd
          · exact hs2 d (List.mem_of_mem_take hd)
          · exact hs2 d (List.mem_of_mem_drop hd)
    · rintro σ H1 ⟨r, s, v4, v5, rfl, hr1, hs1, hr2, hs2, fr, hp⟩
      exact ⟨_, rfl, k r H1 (by omega) hr2 fr (hp.le (by omega))⟩
end

end K45

set_option maxHeartbeats 4000000
namespace K45
open PySem PySem.Spec PyProof.Rows L2
section
variable {P : Program} {w : World} {K : PySem.W.Frag} {mg : Str → Option Value} {base : Heap}
abbrev s_known : Stmt := top 47
abbrev N_known : List Str := ["_law_pool_here", "_law_many"]
theorem sc_known : FnScope ["_law_pool_here", "_law_many"] ["_law_pool_here"] (defScope s_known) := ⟨rfl, rfl, rfl, by decide +kernel, rfl, by decide +kernel, by decide +kernel⟩
theorem c_known (F : Df K mg "_law_known" s_known) (G : Gn mg)  (c__law_take : C8.Cal P w K mg base 1 "_law_take" spTake []) (c__law_chars : C8.Cal P w K mg base 2 "_law_chars" spChars []) : C8.Cal P w K mg base 3 "_law_known" spKnown [] := by
  refine cal_by F sc_known (fun _ _ _ _ _ _ us hl => match us, hl with | [_], _ => rfl) (fun vs H Q E h => ?_) (fun f cdv A outer s H vs Q E hr h => ?_)
  · obtain ⟨p, n, rfl, _⟩ := h
    rfl
  · obtain ⟨p, n, rfl, hp, hn, k⟩ := h
    have sc := sc_known
    refine ⟨_, (pss_cons (ps_set (i := 1) sc.nd rfl (Or.inl rfl) (pe_ix ix_list (pe_lst (pa_cons pe_int (pa_cons pe_int (pa_cons pe_int (pa_cons pe_int (pa_cons pe_int (pa_cons pe_int (pa_cons pe_int (pa_cons pe_int pa_nil))))))))) (C8.pe_c c__law_take hr (by decide) rfl (pa_cons (pv 0) (pa_cons pe_int pa_nil))) (fun _ _ => rfl)))
      (pss_cons (ps_if (pt_cmpR op_eq (pv 1) pe_int (nomark _))
        (pss_one (ps_set (i := 1) sc.nd rfl (Or.inl rfl) (pe_op op_add pe_int (C8.pe_c c__law_take hr (by decide) rfl (pa_cons (pv 0) (pa_cons pe_int pa_nil))))))
        pss_nil)
      (pss_one (ps_ret (C8.pe_c c__law_chars hr (by decide) rfl (pa_cons (pv 0) (pa_cons (pv 1) pa_nil))))))), ?_⟩
    have hz := big
    refine ⟨(by show 8 ≤ sizeLine; omega), fun l hl => ?_⟩
    have hlp := hp.ne hl
    have fr : Fr [p] H (upd H l (.lst (([1, 2, 2, 3, 3, 3, 4, 0] : List Int).map V.int))) := Fr.new hl
    have hp := hp.k0 (Fr.new hl (o := .lst (([1, 2, 2, 3, 3, 3, 4, 0] : List Int).map V.int)))
    refine ⟨_, rfl, _, _, _, rfl, hp, (by omega), (by omega), (by omega), fun r H1 r0 r1 f1 hp => ?_⟩
    obtain ⟨j, rfl⟩ := nat_of r0
    have h8 : j < ([1, 2, 2, 3, 3, 3, 4, 0] : List Int).length := by show j < 8; omega
    obtain ⟨z, e1, e2⟩ := gi h8
    have fr := fr.ts f1
    have zb : 0 ≤ z ∧ z ≤ 4 := by
      simp only [List.mem_cons, List.not_mem_nil, or_false] at e2
      omega
    have hl1 := f1.k1 (upd_same (H := H) (a := l) (o := .lst (([1, 2, 2, 3, 3, 3, 4, 0] : List Int).map V.int))) hlp
    refine ⟨_, _, _, _, rfl, rfl, SqL.of hl1, atI_nat e1, _, rfl, rfl, _, rfl, ?_⟩
    refine ite2 (fun hc => ?_) (fun hc => ?_)
    · refine ⟨_, rfl, _, _, _, rfl, hp, (by omega), (by omega), (by omega), fun r2 H2 r20 r21 f2 hp => ?_⟩
      refine ⟨_, _, rfl, rfl, _, rfl, _, rfl, _, _, _, rfl, hp, (by omega), (by omega), (by omega), fun g H3 g1 g2 f3 hp => ?_⟩
      exact k g H3 (by omega) (by omega) g2 ((fr.ts f2).ts f3) (hp.le (by omega))
    · have hc2 : z ≠ 0 := fun e => hc (by rw [e]; exact decide_eq_true rfl)
      refine ⟨_, rfl, _, rfl, _, _, _, rfl, hp, (by omega), (by omega), (by omega), fun g H3 g1 g2 f3 hp => ?_⟩
      exact k g H3 (by omega) (by omega) g2 (fr.ts f3) (hp.le (by omega))
abbrev s_glyph : Stmt := top 48
abbrev N_glyph : List Str := ["_law_pool_here", "_law_signs", "_law_sort"]
theorem sc_glyph : FnScope ["_law_pool_here", "_law_signs", "_law_sort"] ["_law_pool_here", "_law_signs"] (defScope s_glyph) := ⟨rfl, rfl, rfl, by decide +kernel, rfl, by decide +kernel, by decide +kernel⟩
theorem c_glyph (F : Df K mg "_law_glyph" s_glyph) (G : Gn mg)  (c__law_take : C8.Cal P w K mg base 1 "_law_take" spTake []) : C8.Cal P w K mg base 2 "_law_glyph" spGlyph [] := by
  refine cal_by F sc_glyph (fun _ _ _ _ _ _ us hl => match us, hl with | [_, _], _ => rfl) (fun vs H Q E h => ?_) (fun f cdv A outer s H vs Q E hr h => ?_)
  · obtain ⟨p, signs, n, rfl, _⟩ := h
    rfl
  · obtain ⟨p, signs, n, rfl, hp, hn, hs1, hs2, k⟩ := h
    have sc := sc_glyph
    refine ⟨_, (pss_cons (ps_set (i := 2) sc.nd rfl (Or.inl rfl) (C8.pe_c c__law_take hr (by decide) rfl (pa_cons (pv 0) (pa_cons pe_int pa_nil))))
      (pss_cons (ps_if (pt_cmpR op_lt (pv 2) pe_int (nomark _))
        (pss_one (ps_ret (pe_ix ix_str pe_str (pv 2) (fun _ _ => rfl))))
        pss_nil)
      (pss_one (ps_ret (pe_ix ix_str (pv 1) (C8.pe_c c__law_take hr (by decide) rfl (pa_cons (pv 0) (pa_cons (pe_callB call_len_str rfl G.n_len (by decide +kernel) (pa_cons (pv 1) pa_nil)) pa_nil))) (fun _ _ => rfl)))))), ?_⟩
    have hz := big
    have hsl : (SX.S signs).length = signs.length := SX.S_len signs
    refine ⟨_, rfl, _, _, _, rfl, hp, (by omega), (by omega), (by omega), fun r H1 r0 r1 f1 hp => ?_⟩
    refine ⟨_, rfl, _, _, rfl, rfl, _, rfl, ?_⟩
    refine ite2 (fun hc => ?_) (fun hc => ?_)
    · have hc2 := of_decide_eq_true hc
      have hb : r = 0 ∨ r = 1 := by omega
      have e : (Str.ofString " |").cps.toList = [32, 124] := by decide +kernel
      rcases hb with rfl | rfl
      · exact ⟨_, rfl, _, _, 32, rfl, rfl, (by show 2 ≤ sizeLine; omega), (by rw [e] <;> rfl), k 32 H1 (.inl rfl) f1 (hp.le (by omega))⟩
      · exact ⟨_, rfl, _, _, 124, rfl, rfl, (by show 2 ≤ sizeLine; omega), (by rw [e] <;> rfl), k 124 H1 (.inr (.inl rfl)) f1 (hp.le (by omega))⟩
    · refine ⟨_, rfl, _, rfl, _, rfl, _, rfl, (by omega), _, _, _, rfl, hp, (by omega), (by omega), (by omega), fun r2 H2 r20 r21 f2 hp => ?_⟩
      obtain ⟨j, rfl⟩ := nat_of r20
      obtain ⟨c, hc1, hm⟩ := get_of (l := signs) (j := j) (by omega)
      exact ⟨_, _, c, rfl, rfl, (by omega), atI_nat hc1, k c H2 (.inr (.inr hm)) (f1.ts f2) (hp.le (by omega))⟩
abbrev s_pairs : Stmt := top 43
abbrev N_pairs : List Str := ["_law_pool_here", "_law_chars_here", "_law_pairs_here", "_law_k", "_law_one"]
theorem sc_pairs : FnScope ["_law_pool_here", "_law_chars_here", "_law_pairs_here", "_law_k", "_law_one"] ["_law_pool_here", "_law_chars_here"] (defScope s_pairs) := ⟨rfl, rfl, rfl, by decide +kernel, rfl, by decide +kernel, by decide +kernel⟩
theorem c_pairs (F : Df K mg "_law_pairs" s_pairs) (G : Gn mg)  (c__law_take : C8.Cal P w K mg base 1 "_law_take" spTake []) : C8.Cal P w K mg base 2 "_law_pairs" spPairs [] := by
  refine cal_by F sc_pairs (fun _ _ _ _ _ _ us hl => match us, hl with | [_, _], _ => rfl) (fun vs H Q E h => ?_) (fun f cdv A outer s H vs Q E hr h => ?_)
  · obtain ⟨p, cs, n, rfl, _⟩ := h
    rfl
  · obtain ⟨p, cs, n, rfl, hp, hn, hs1, hs2, k⟩ := h
    have sc := sc_pairs
    have hu := hu_of hr
    refine ⟨_, (pss_cons (ps_set (i := 2) sc.nd rfl (Or.inl rfl) pe_dnewK)
      (pss_cons (ps_for PassesOwn.never rfl (pi_range1 rfl G.n_range (pa_cons (C8.pe_c c__law_take hr (by decide) rfl (pa_cons (pv 0) (pa_cons pe_int pa_nil))) pa_nil)) (pg_name (i := 3) sc.nd rfl (Or.inl rfl))
        (pss_cons (ps_set (i := 4) sc.nd rfl (Or.inl rfl) (pe_ix ix_str (pv 1) (C8.pe_c c__law_take hr (by decide) rfl (pa_cons (pv 0) (pa_cons (pe_callB call_len_str rfl G.n_len (by decide +kernel) (pa_cons (pv 1) pa_nil)) pa_nil))) (fun _ _ => rfl)))
        (pss_one (ps_dput hu (pv 2) (pe_op op_add_str (pv 4) (pe_ix ix_str (pv 1) (C8.pe_c c__law_take hr (by decide) rfl (pa_cons (pv 0) (pa_cons (pe_callB call_len_str rfl G.n_len (by decide +kernel) (pa_cons (pv 1) pa_nil)) pa_nil))) (fun _ _ => rfl))) (C8.pe_c c__law_take hr (by decide) rfl (pa_cons (pv 0) (pa_cons pe_int pa_nil))) rfl))))
      (pss_one (ps_ret (pv 2))))), ?_⟩
    have hz := big
    have hsl : (SX.S cs).length = cs.length := SX.S_len cs
    intro d hd
    have hdp := hp.ne hd
    have fr : Fr [p] H (upd H d (.dK [])) := Fr.new hd
    have hp := hp.k0 (Fr.new hd (o := .dK []))
    have hd1 : upd H d (.dK []) d = some (.dK []) := upd_same
    generalize upd H d (.dK []) = H0 at fr hp hd1
    refine ⟨_, rfl, _, _, _, rfl, hp, (by omega), (by omega), (by omega), fun r H1 r0 r1 f1 hp => ?_⟩
    have fr := fr.ts f1
    have hd1 := f1.k1 hd1 hdp
    refine ⟨_, rfl, by omega, by omega, for_range (n := r.toNat) (fun i σ H' => ∃ (kk : List (L2.Key × V)) (v3 v4 : Option V), σ = [some (.ref p), some (.str (SX.S cs)), some (.ref d), v3, v4] ∧ KernOk kk ∧ kk.length ≤ i ∧ H' d = some (.dK kk) ∧ Fr [p] H H' ∧ PoolAt H' p (n - 1 - i * 3)) ?_ ?_ ?_⟩
    · exact ⟨[], none, none, by rfl, (fun kv h => by cases h), Nat.le_refl _, hd1, fr, hp⟩
    · rintro i σ H2 hi ⟨kk, v3, v4, rfl, hk, hkl, hd2, fr, hp⟩
      refine ⟨_, rfl, _, rfl, _, rfl, _, rfl, (by omega), _, _, _, rfl, hp, (by omega), (by omega), (by omega), fun r2 H3 r20 r21 f3 hp => ?_⟩
      obtain ⟨j, rfl⟩ := nat_of r20
      obtain ⟨c, hc1, hm⟩ := get_of (l := cs) (j := j) (by omega)
      refine ⟨_, _, c, rfl, rfl, (by omega), atI_nat hc1, ?_⟩
      refine ⟨_, rfl, _, _, _, rfl, hp, (by omega), (by omega), (by omega), fun r4 H4 r40 r41 f4 hp => ?_⟩
      refine ⟨_, rfl, _, rfl, _, rfl, _, rfl, _, rfl, _, rfl, (by omega), _, _, _, rfl, hp, (by omega), (by omega), (by omega), fun r5 H5 r50 r51 f5 hp => ?_⟩
      obtain ⟨j5, rfl⟩ := nat_of r50
      obtain ⟨c5, hc5, hm5⟩ := get_of (l := cs) (j := j5) (by omega)
      have hd5 := f5.k1 (f4.k1 (f3.k1 hd2 hdp) hdp) hdp
      refine ⟨_, _, c5, rfl, rfl, (by omega), atI_nat hc5, _, _, rfl, rfl, (by show 1 + 1 ≤ sizeLine; omega), _, _, rfl, DPut.k (k := Sum.inr (ch c ++ ch c5)) hd5 (by omega), ?_⟩
      have q : Fr [p] H (upd H5 d (.dK (putK kk (Sum.inr (ch c ++ ch c5)) (.int r4)))) := (((fr.ts f3).ts f4).ts f5).t1 (Fr.put hd5) (.inr hd)
      exact ⟨putK kk (Sum.inr (ch c ++ ch c5)) (.int r4), _, _, rfl, hk.put _ _, Nat.le_trans (length_putK _ _ _) (by omega), upd_same, q, (hp.keep (Fr.put hd5) (by simpa using hdp.symm)).le (by omega)⟩
    · rintro σ H2 ⟨kk, v3, v4, rfl, hk, hkl, hd2, fr, hp⟩
      exact ⟨_, rfl, k d kk H2 hd hd2 hk (by omega) fr (hp.le (by omega))⟩
abbrev s_wtext : Stmt := top 51
abbrev N_wtext : List Str := ["_law_pool_here", "_law_signs", "_law_text", "_law_k"]
theorem sc_wtext : FnScope ["_law_pool_here", "_law_signs", "_law_text", "_law_k"] ["_law_pool_here", "_law_signs"] (defScope s_wtext) := ⟨rfl, rfl, rfl, by decide +kernel, rfl, by decide +kernel, by decide +kernel⟩
theorem c_wtext (F : Df K mg "_law_word_text" s_wtext) (G : Gn mg)  (c__law_take : C8.Cal P w K mg base 1 "_law_take" spTake []) (c__law_glyph : C8.Cal P w K mg base 2 "_law_glyph" spGlyph []) : C8.Cal P w K mg base 3 "_law_word_text" spWtext [] := by
  refine cal_by F sc_wtext (fun _ _ _ _ _ _ us hl => match us, hl with | [_, _], _ => rfl) (fun vs H Q E h => ?_) (fun f cdv A outer s H vs Q E hr h => ?_)
  · obtain ⟨p, signs, n, rfl, _⟩ := h
    rfl
  · obtain ⟨p, signs, n, rfl, hp, hn, hs1, hs2, k⟩ := h
    have sc := sc_wtext
    refine ⟨_, (pss_cons (ps_set (i := 2) sc.nd rfl (Or.inl rfl) (pe_join pe_str (pe_lc (own := [("_law_k", 3)])  rfl sc.nd (pi_range1 rfl G.n_range (pa_cons (C8.pe_c c__law_take hr (by decide) rfl (pa_cons (pv 0) (pa_cons pe_int pa_nil))) pa_nil)) (blkOk_by (N := N_wtext) (sc := defScope s_wtext) (by decide +kernel)) (fun _ _ _ _ _ => (pg_name (i := 3) sc.nd rfl (Or.inl rfl))) (fun _ _ _ _ _ => pts_nil) (fun _ _ _ _ _ => (C8.pe_c c__law_glyph hr (by decide) rfl (pa_cons (pv 0) (pa_cons (pv 1) pa_nil)))))))
      (pss_cons (ps_set (i := 2) sc.nd rfl (Or.inl rfl) (pe_op op_add_str (pv 2) (pe_ix ix_str (pv 1) (C8.pe_c c__law_take hr (by decide) rfl (pa_cons (pv 0) (pa_cons (pe_callB call_len_str rfl G.n_len (by decide +kernel) (pa_cons (pv 1) pa_nil)) pa_nil))) (fun _ _ => rfl))))
      (pss_one (ps_ret (pe_op op_add_str (pv 2) (pe_join pe_str (pe_lc (own := [("_law_k", 3)])  rfl sc.nd (pi_range1 rfl G.n_range (pa_cons (C8.pe_c c__law_take hr (by decide) rfl (pa_cons (pv 0) (pa_cons pe_int pa_nil))) pa_nil)) (blkOk_by (N := N_wtext) (sc := defScope s_wtext) (by decide +kernel)) (fun _ _ _ _ _ => (pg_name (i := 3) sc.nd rfl (Or.inl rfl))) (fun _ _ _ _ _ => pts_nil) (fun _ _ _ _ _ => (C8.pe_c c__law_glyph hr (by decide) rfl (pa_cons (pv 0) (pa_cons (pv 1) pa_nil))))))))))), ?_⟩
    have hz := big
    have hsl : (SX.S signs).length = signs.length := SX.S_len signs
    have nep : ∀ (D : Addr) (g : List Nat) {H' : Hp} {m : Nat}, H' D = some (.lst ((g.map ch).map V.str)) → PoolAt H' p m → D ≠ p := by
      rintro D g H' m h1 ⟨c0, c1, c2, c3, c4, h2, _⟩
      refine ne_of h1 h2 fun e => ?_
      injection e with e
      cases g with
      | nil => cases e
      | cons c r => cases e
    have hj0 : ∀ g : List Nat, g.length ≤ 200 → ((g.map ch).map (·.length)).sum + (g.map ch).length * (Str.ofString "").length ≤ 16777216 := fun g hg => by
      have e0 : (Str.ofString "").length = 0 := rfl
      rw [sum_chs, e0]
      omega
    refine ⟨⟨_, rfl⟩, _, rfl, _, _, _, rfl, hp, (by omega), (by omega), (by omega), fun r H1 r0 r1 f1 hp => ⟨_, rfl, by omega, by omega, fun D hD => lc_range (lo := 0) (n := r.toNat) (fun i H' => ∃ g : List Nat, H' D = some (.lst ((g.map ch).map V.str)) ∧ g.length = i ∧ (∀ c ∈ g, Al signs c) ∧ Fr [p] H H' ∧ PoolAt H' p (n - 1 - 2 * i)) ?_ ?_ ?_⟩⟩
    · exact ⟨[], upd_same, rfl, (fun c h => by cases h), f1.t0 (Fr.new hD), hp.k0 (Fr.new hD)⟩
    · rintro i H2 hi ⟨g, hD2, hgl, hga, fr, hp⟩
      have hDp := nep D g hD2 hp
      refine ⟨rfl, _, rfl, _, rfl, _, _, _, rfl, hp, (by omega), (by omega), (by omega), fun c H3 hc f3 hp => ?_⟩
      have hD3 := f3.k1 hD2 hDp
      refine ⟨_, hD3, (by rw [List.length_map, List.length_map]; omega), g ++ [c], ?_, ?_, ?_, (fr.ts f3).t1 (Fr.put hD3) (.inr (f1.d _ hD)), (hp.keep (Fr.put hD3) (by simpa using hDp.symm)).le (by omega)⟩
      · rw [List.map_append, List.map_append]; exact upd_same
      · rw [List.length_append, hgl] <;> rfl
      · intro d hd
        rcases List.mem_append.mp hd with hd | hd
        · exact hga d hd
        · rw [List.mem_singleton.mp hd]; exact hc
    · rintro H2 ⟨g, hD2, hgl, hga, fr, hp⟩
      refine ⟨_, _, g.map ch, rfl, rfl, Or.inl (SqL.of hD2), hj0 g (by omega), ?_⟩
      rw [join_chs]
      refine ⟨_, rfl, _, rfl, _, rfl, _, rfl, _, rfl, (by omega), _, _, _, rfl, hp, (by omega), (by omega), (by omega), fun r2 H3 r20 r21 f3 hp => ?_⟩
      obtain ⟨j, rfl⟩ := nat_of r20
      obtain ⟨c, hc1, hm⟩ := get_of (l := signs) (j := j) (by omega)
      have hgs : (SX.S g).length = g.length := SX.S_len g
      refine ⟨_, _, c, rfl, rfl, (by omega), atI_nat hc1, _, _, rfl, rfl, (by show (SX.S g).length + 1 ≤ sizeLine; omega), ?_⟩
      have e1 : SX.S g ++ (⟨#[c]⟩ : Str) = SX.S (g ++ [c]) := SX.S_cat g [c]
      rw [e1]
      have hgs : (SX.S (g ++ [c])).length = g.length + 1 := by rw [SX.S_len, List.length_append] <;> rfl
      have fr := fr.ts f3
      refine ⟨_, rfl, ⟨_, rfl⟩, _, rfl, _, _, _, rfl, hp, (by omega), (by omega), (by omega), fun r4 H4 r40 r41 f4 hp => ⟨_, rfl, by omega, by omega, fun D2 hD4 => lc_range (lo := 0) (n := r4.toNat) (fun i H' => ∃ g2 : List Nat, H' D2 = some (.lst ((g2.map ch).map V.str)) ∧ g2.length = i ∧ (∀ c ∈ g2, Al signs c) ∧ Fr [p] H H' ∧ PoolAt H' p (n - 7 - 2 * i)) ?_ ?_ ?_⟩⟩
      · exact ⟨[], upd_same, rfl, (fun c h => by cases h), (fr.ts f4).t0 (Fr.new hD4), (hp.k0 (Fr.new hD4)).le (by omega)⟩
      · rintro i H5 hi ⟨g2, hD5, hgl2, hga2, fr', hp⟩
        have hDp := nep D2 g2 hD5 hp
        refine ⟨rfl, _, rfl, _, rfl, _, _, _, rfl, hp, (by omega), (by omega), (by omega), fun c2 H6 hc2 f6 hp => ?_⟩
        have hD6 := f6.k1 hD5 hDp
        refine ⟨_, hD6, (by rw [List.length_map, List.length_map]; omega), g2 ++ [c2], ?_, ?_, ?_, (fr'.ts f6).t1 (Fr.put hD6) (.inr (fr.d _ (f4.d _ hD4))), (hp.keep (Fr.put hD6) (by simpa using hDp.symm)).le (by omega)⟩
        · rw [List.map_append, List.map_append]; exact upd_same
        · rw [List.length_append, hgl2] <;> rfl
        · intro d hd
          rcases List.mem_append.mp hd with hd | hd
          · exact hga2 d hd
          · rw [List.mem_singleton.mp hd]; exact hc2
      · rintro H5 ⟨g2, hD5, hgl2, hga2, fr, hp⟩
        refine ⟨_, _, g2.map ch, rfl, rfl, Or.inl (SqL.of hD5), hj0 g2 (by omega), ?_⟩
        rw [join_chs]
        have hgs2 : (SX.S g2).length = g2.length := SX.S_len g2
        refine ⟨_, _, rfl, rfl, (by omega), ?_⟩
        show Q (V.str (SX.S (g ++ [c]) ++ SX.S g2)) H5
        rw [SX.S_cat]
        refine k _ H5 ?_ ?_ ?_ fr (hp.le (by omega))
        · intro d hd
          rcases List.mem_append.mp hd with hd | hd
          · rcases List.mem_append.mp hd with hd | hd
            · exact hga d hd
            · rw [List.mem_singleton.mp hd]; exact .inr (.inr hm)
          · exact hga2 d hd
        · rw [List.length_append, List.length_append]
          show g.length + 1 + g2.length ≤ 6
          omega
        · exact ⟨c, by simp, hm⟩
end

end K45

set_option maxHeartbeats 4000000
namespace K45
open PySem PySem.Spec PyProof.Rows L2
section
variable {P : Program} {w : World} {K : PySem.W.Frag} {mg : Str → Option Value} {base : Heap}
abbrev s_trun : Stmt := top 49
abbrev N_trun : List Str := ["_law_pool_here", "_law_signs", "_law_talls", "_law_tall", "_law_face_here", "_law_many", "_law_k"]
theorem sc_trun : FnScope ["_law_pool_here", "_law_signs", "_law_talls", "_law_tall", "_law_face_here", "_law_many", "_law_k"] ["_law_pool_here", "_law_signs", "_law_talls"] (defScope s_trun) := ⟨rfl, rfl, rfl, by decide +kernel, rfl, by decide +kernel, by decide +kernel⟩
theorem c_trun (F : Df K mg "_law_text_run" s_trun) (G : Gn mg)  (c__law_take : C8.Cal P w K mg base 1 "_law_take" spTake []) (c__law_glyph : C8.Cal P w K mg base 2 "_law_glyph" spGlyph []) : C8.Cal P w K mg base 3 "_law_text_run" spTrun [] := by
  refine cal_by F sc_trun (fun _ _ _ _ _ _ us hl => match us, hl with | [_, _, _], _ => rfl) (fun vs H Q E h => ?_) (fun f cdv A outer s H vs Q E hr h => ?_)
  · obtain ⟨p, tl, signs, a, b, n, rfl, _⟩ := h
    rfl
  · obtain ⟨p, tl, signs, a, b, n, rfl, hp, hn, hs1, hs2, htl, ha, hb, tlp, k⟩ := h
    have sc := sc_trun
    refine ⟨_, (pss_cons (ps_set (i := 3) sc.nd rfl (Or.inl rfl) (pe_ix ix_list (pe_op op_cat (pe_op op_cat (pv 2) (pv 2)) (pe_lst (pa_cons (pe_op op_add pe_int (C8.pe_c c__law_take hr (by decide) rfl (pa_cons (pv 0) (pa_cons pe_int pa_nil)))) pa_nil))) (C8.pe_c c__law_take hr (by decide) rfl (pa_cons (pv 0) (pa_cons pe_int pa_nil))) (fun _ _ => rfl)))
      (pss_cons (ps_set (i := 4) sc.nd rfl (Or.inl rfl) (pe_ix ix_list (pe_lst (pa_cons pe_str (pa_cons pe_str pa_nil))) (C8.pe_c c__law_take hr (by decide) rfl (pa_cons (pv 0) (pa_cons pe_int pa_nil))) (fun _ _ => rfl)))
      (pss_cons (ps_set (i := 5) sc.nd rfl (Or.inl rfl) (pe_op op_add pe_int (C8.pe_c c__law_take hr (by decide) rfl (pa_cons (pv 0) (pa_cons (pe_ix ix_list (pe_lst (pa_cons pe_int (pa_cons pe_int (pa_cons pe_int (pa_cons pe_int pa_nil))))) (C8.pe_c c__law_take hr (by decide) rfl (pa_cons (pv 0) (pa_cons pe_int pa_nil))) (fun _ _ => rfl)) pa_nil)))))
      (pss_one (ps_ret (pe_tup (pa_cons pe_str (pa_cons (pe_join pe_str (pe_lc (own := [("_law_k", 6)])  rfl sc.nd (pi_range1 rfl G.n_range (pa_cons (pv 5) pa_nil)) (blkOk_by (N := N_trun) (sc := defScope s_trun) (by decide +kernel)) (fun _ _ _ _ _ => (pg_name (i := 6) sc.nd rfl (Or.inl rfl))) (fun _ _ _ _ _ => pts_nil) (fun _ _ _ _ _ => (C8.pe_c c__law_glyph hr (by decide) rfl (pa_cons (pv 0) (pa_cons (pv 1) pa_nil)))))) (pa_cons (pv 3) (pa_cons (pv 4) pa_nil)))))))))), ?_⟩
    have hz := big
    have nep : ∀ (D : Addr) (g : List Nat) {H' : Hp} {m : Nat}, H' D = some (.lst ((g.map ch).map V.str)) → PoolAt H' p m → D ≠ p := by
      rintro D g H' m h1 ⟨c0, c1, c2, c3, c4, h2, _⟩
      refine ne_of h1 h2 fun e => ?_
      injection e with e
      cases g with
      | nil => cases e
      | cons c r => cases e
    -- tall
    refine ⟨_, rfl, _, rfl, tl, tl, _, _, rfl, rfl, htl, htl, (by show 2 + 2 ≤ sizeLine; omega), fun q n_q => ?_⟩
    have qp := hp.ne n_q
    generalize eH_q : upd H q _ = H1
    have ev_q : ∀ {M : List Addr}, Fr M H H1 := by intro M; rw [← eH_q]; exact Fr.new n_q
    have h_q : H1 q = some (.lst (([a, b, a, b] : List Int).map V.int)) := by rw [← eH_q]; exact upd_same
    clear eH_q
    have hp := hp.k0 ev_q
    refine ⟨_, rfl, _, _, _, rfl, hp, (by omega), (by omega), (by omega), fun r H2 r0 r1 f2 hp => ?_⟩
    have h_q := f2.k1 h_q qp
    have fr : Fr [p] H H2 := ev_q.ts f2
    refine ⟨_, _, rfl, rfl, (by show 1 ≤ sizeLine; omega), fun q2 n_q2 => ?_⟩
    have qq := ne_of_none h_q n_q2
    generalize eH_q2 : upd H2 q2 _ = H3
    have ev_q2 : ∀ {M : List Addr}, Fr M H2 H3 := by intro M; rw [← eH_q2]; exact Fr.new n_q2
    have h_q2 : H3 q2 = some (.lst (([1 + r] : List Int).map V.int)) := by rw [← eH_q2]; exact upd_same
    clear eH_q2
    have hp := hp.k0 ev_q2
    have fr := fr.t0 ev_q2
    have h_q := ev_q2.k0 h_q
    refine ⟨q, q2, _, _, rfl, rfl, h_q, h_q2, (by show 4 + 1 ≤ sizeLine; omega), fun q3 n_q3 => ?_⟩
    have q3p := hp.ne n_q3
    generalize eH_q3 : upd H3 q3 _ = H4
    have ev_q3 : ∀ {M : List Addr}, Fr M H3 H4 := by intro M; rw [← eH_q3]; exact Fr.new n_q3
    have h_q3 : H4 q3 = some (.lst (([a, b, a, b, 1 + r] : List Int).map V.int)) := by rw [← eH_q3]; exact upd_same
    clear eH_q3
    have hp := hp.k0 ev_q3
    have fr := fr.t0 ev_q3
    refine ⟨_, rfl, _, _, _, rfl, hp, (by omega), (by omega), (by omega), fun r5 H5 r50 r51 f5 hp => ?_⟩
    have fr := fr.ts f5
    have h_q3 := f5.k1 h_q3 q3p
    obtain ⟨j, rfl⟩ := nat_of r50
    obtain ⟨z, hz1, hz2⟩ := gi (ns := [a, b, a, b, 1 + r]) (j := j) (by show j < 5; omega)
    have hz3 : 1 ≤ z ∧ z ≤ 12 := by
      simp only [List.mem_cons, List.not_mem_nil, or_false] at hz2
      omega
    refine ⟨_, _, _, _, rfl, rfl, SqL.of h_q3, atI_nat hz1, ?_⟩
    -- face
    refine ⟨(by show 2 ≤ sizeLine; omega), fun q6 n_q6 => ?_⟩
    have q6p := hp.ne n_q6
    generalize eH_q6 : upd H5 q6 _ = H6
    have ev_q6 : ∀ {M : List Addr}, Fr M H5 H6 := by intro M; rw [← eH_q6]; exact Fr.new n_q6
    have h_q6 : H6 q6 = some (.lst [.str "plain", .str "bold"]) := by rw [← eH_q6]; exact upd_same
    clear eH_q6
    have hp := hp.k0 ev_q6
    have fr := fr.t0 ev_q6
    refine ⟨_, rfl, _, _, _, rfl, hp, (by omega), (by omega), (by omega), fun r7 H7 r70 r71 f7 hp => ?_⟩
    have fr := fr.ts f7
    have h_q6 := f7.k1 h_q6 q6p
    obtain ⟨fn, hf, hat⟩ : ∃ fn : Str, FaceN fn ∧ atI [V.str "plain", V.str "bold"] r7 = some (.str fn) := by
      have : r7 = 0 ∨ r7 = 1 := by omega
      rcases this with rfl | rfl
      · exact ⟨_, .inl rfl, rfl⟩
      · exact ⟨_, .inr rfl, rfl⟩
    refine ⟨_, _, _, _, rfl, rfl, SqL.of h_q6, hat, ?_⟩
    -- many
    refine ⟨_, rfl, (by show 4 ≤ sizeLine; omega), fun q8 n_q8 => ?_⟩
    have q8p := hp.ne n_q8
    generalize eH_q8 : upd H7 q8 _ = H8
    have ev_q8 : ∀ {M : List Addr}, Fr M H7 H8 := by intro M; rw [← eH_q8]; exact Fr.new n_q8
    have h_q8 : H8 q8 = some (.lst (([6, 6, 9, 100] : List Int).map V.int)) := by rw [← eH_q8]; exact upd_same
    clear eH_q8
    have hp := hp.k0 ev_q8
    have fr := fr.t0 ev_q8
    refine ⟨_, rfl, _, _, _, rfl, hp, (by omega), (by omega), (by omega), fun r9 H9 r90 r91 f9 hp => ?_⟩
    have fr := fr.ts f9
    have h_q8 := f9.k1 h_q8 q8p
    obtain ⟨j9, rfl⟩ := nat_of r90
    obtain ⟨m, hm1, hm2⟩ := gi (ns := [6, 6, 9, 100]) (j := j9) (by show j9 < 4; omega)
    have hm3 : 6 ≤ m ∧ m ≤ 100 := by
      simp only [List.mem_cons, List.not_mem_nil, or_false] at hm2
      omega
    refine ⟨_, _, _, _, rfl, rfl, SqL.of h_q8, atI_nat hm1, _, _, _, rfl, hp, (by omega), (by omega), (by omega), fun r10 H10 r100 r101 f10 hp => ?_⟩
    have fr := fr.ts f10
    refine ⟨_, _, rfl, rfl, ?_⟩
    -- the text
    refine ⟨⟨_, rfl⟩, _, rfl, _, rfl, by omega, by omega, fun D n_D => lc_range (lo := 0) (n := (1 + r10).toNat) (fun i H' => ∃ g : List Nat, H' D = some (.lst ((g.map ch).map V.str)) ∧ g.length = i ∧ (∀ c ∈ g, Al signs c) ∧ Fr [p] H H' ∧ PoolAt H' p (n - 5 - 2 * i)) ?_ ?_ ?_⟩
    · exact ⟨[], upd_same, rfl, (fun c h => by cases h), fr.t0 (Fr.new n_D), (hp.k0 (Fr.new n_D)).le (by omega)⟩
    · rintro i H2 hi ⟨g, hD2, hgl, hga, fr', hp⟩
      have hDp := nep D g hD2 hp
      refine ⟨rfl, _, rfl, _, rfl, _, _, _, rfl, hp, (by omega), (by omega), (by omega), fun c H3 hc f3 hp => ?_⟩
      have hD3 := f3.k1 hD2 hDp
      refine ⟨_, hD3, (by rw [List.length_map, List.length_map]; omega), g ++ [c], ?_, ?_, ?_, (fr'.ts f3).t1 (Fr.put hD3) (.inr (fr.d _ n_D)), (hp.keep (Fr.put hD3) (by simpa using hDp.symm)).le (by omega)⟩
      · rw [List.map_append, List.map_append]; exact upd_same
      · rw [List.length_append, hgl] <;> rfl
      · intro d hd
        rcases List.mem_append.mp hd with hd | hd
        · exact hga d hd
        · rw [List.mem_singleton.mp hd]; exact hc
    · rintro H2 ⟨g, hD2, hgl, hga, fr, hp⟩
      refine ⟨_, _, g.map ch, rfl, rfl, Or.inl (SqL.of hD2), ?_, ?_⟩
      · have e0 : (Str.ofString "").length = 0 := rfl
        rw [sum_chs, e0]
        omega
      · rw [join_chs]
        refine ⟨_, rfl, _, rfl, (by show 4 ≤ sizeLine; omega), fun t n_t => ?_⟩
        refine k _ g z fn _ (.tup upd_same (.cons (.str _) (.cons (.str _) (.cons (.int _) (.cons (.str _) .nil))))) ⟨hga, by omega, hz3.1, hz3.2, hf⟩ (fr.t0 (Fr.new n_t)) ((hp.k0 (Fr.new n_t)).le (by omega))
end

end K45

set_option maxHeartbeats 4000000
namespace K45
open PySem PySem.Spec PyProof.Rows L2
section
variable {P : Program} {w : World} {K : PySem.W.Frag} {mg : Str → Option Value} {base : Heap}
/-- the runs so far -/
structure RunsI (p tl l : Addr) (signs : List Nat) (a b : Int) (H0 : Hp) (len m : Nat) (H' : Hp) (rs : List Run) (vs : List V) : Prop where
  l : H' l = some (.lst vs)
  t : Trs H' vs (rs.map runD)
  ok : ∀ r ∈ rs, RunOk signs r
  len : rs.length ≤ len
  tl : H' tl = some (.lst [.int a, .int b])
  fr : Fr [p] H0 H'
  p : PoolAt H' p m
theorem RunsI.k1 {p tl l : Addr} {signs : List Nat} {a b : Int} {H0 : Hp} {len m m' : Nat} {H1 H2 : Hp} {rs : List Run} {vs : List V} (I : RunsI p tl l signs a b H0 len m H1 rs vs) (f : Fr [p] H1 H2) (hp : PoolAt H2 p m') (lp : l ≠ p) (tp : tl ≠ p) : RunsI p tl l signs a b H0 len m' H2 rs vs :=
  ⟨f.k1 I.l lp, I.t.mono f.t, I.ok, I.len, f.k1 I.tl tp, I.fr.ts f, hp⟩
theorem RunsI.app {p tl l : Addr} {signs : List Nat} {a b : Int} {H0 : Hp} {len m : Nat} {H1 : Hp} {rs : List Run} {vs : List V} (I : RunsI p tl l signs a b H0 len m H1 rs vs) {v : V} {r : Run} (hv : Tr H1 v (runD r)) (hr : RunOk signs r) (lp : l ≠ p) (tl' : tl ≠ l) (l0 : H0 l = none) :
    RunsI p tl l signs a b H0 (len + 1) m (upd H1 l (.lst (vs ++ [v]))) (rs ++ [r]) (vs ++ [v]) :=
  ⟨upd_same, by
    rw [List.map_append]
    exact (I.t.mono (Fr.put I.l).t).snoc (hv.mono (Fr.put I.l).t), fun x hx => by
    rcases List.mem_append.mp hx with hx | hx
    · exact I.ok x hx
    · rw [List.mem_singleton.mp hx]; exact hr, by
    rw [List.length_append]
    exact Nat.succ_le_succ I.len, (Fr.put I.l).k1 I.tl tl', I.fr.t1 (Fr.put I.l) (.inr l0), I.p.keep (Fr.put I.l) (by simpa using lp.symm)⟩
theorem RunsI.le {p tl l : Addr} {signs : List Nat} {a b : Int} {H0 : Hp} {len len' m m' : Nat} {H1 : Hp} {rs : List Run} {vs : List V} (I : RunsI p tl l signs a b H0 len m H1 rs vs) (h : len ≤ len') (h' : m' ≤ m) : RunsI p tl l signs a b H0 len' m' H1 rs vs :=
  ⟨I.l, I.t, I.ok, Nat.le_trans I.len h, I.tl, I.fr, I.p.le h'⟩
theorem RunsI.small {p tl l : Addr} {signs : List Nat} {a b : Int} {H0 : Hp} {len m : Nat} {H1 : Hp} {rs : List Run} {vs : List V} (I : RunsI p tl l signs a b H0 len m H1 rs vs) (h : len ≤ 1000) : vs.length < sizeLine := by
  have := I.t.length
  have := I.len
  have := big
  rw [List.length_map] at *
  omega
abbrev s_rruns : Stmt := top 50
abbrev N_rruns : List Str := ["_law_pool_here", "_law_signs", "_law_talls", "_law_note", "_law_runs", "_law_k", "_law_tall"]
theorem sc_rruns : FnScope ["_law_pool_here", "_law_signs", "_law_talls", "_law_note", "_law_runs", "_law_k", "_law_tall"] ["_law_pool_here", "_law_signs"] (defScope s_rruns) := ⟨rfl, rfl, rfl, by decide +kernel, rfl, by decide +kernel, by decide +kernel⟩
theorem c_rruns (F : Df K mg "_law_ref_runs" s_rruns) (G : Gn mg)  (c__law_take : C8.Cal P w K mg base 1 "_law_take" spTake []) (c__law_text_run : C8.Cal P w K mg base 3 "_law_text_run" spTrun []) : C8.Cal P w K mg base 4 "_law_ref_runs" spRruns [] := by
  refine cal_by F sc_rruns (fun _ _ _ _ _ _ us hl => match us, hl with | [_, _], _ => rfl) (fun vs H Q E h => ?_) (fun f cdv A outer s H vs Q E hr h => ?_)
  · obtain ⟨p, signs, n, rfl, _⟩ := h
    rfl
  · obtain ⟨p, signs, n, rfl, hp, hn, hs1, hs2, k⟩ := h
    have sc := sc_rruns
    refine ⟨_, (pss_cons (ps_set (i := 2) sc.nd rfl (Or.inl rfl) (pe_lst (pa_cons (pe_op op_add pe_int (C8.pe_c c__law_take hr (by decide) rfl (pa_cons (pv 0) (pa_cons pe_int pa_nil)))) (pa_cons (pe_op op_add pe_int (C8.pe_c c__law_take hr (by decide) rfl (pa_cons (pv 0) (pa_cons pe_int pa_nil)))) pa_nil))))
      (pss_cons (ps_set (i := 3) sc.nd rfl (Or.inl rfl) (C8.pe_c c__law_take hr (by decide) rfl (pa_cons (pv 0) (pa_cons pe_int pa_nil))))
      (pss_cons (ps_set (i := 4) sc.nd rfl (Or.inl rfl) (pe_lst pa_nil))
      (pss_cons (ps_for PassesOwn.never rfl (pi_range1 rfl G.n_range (pa_cons (pe_op op_add pe_int (C8.pe_c c__law_take hr (by decide) rfl (pa_cons (pv 0) (pa_cons pe_int pa_nil)))) pa_nil)) (pg_name (i := 5) sc.nd rfl (Or.inl rfl))
        (C8.pss_cut (ps_if (pt_cmpR op_gt (C8.pe_c c__law_take hr (by decide) rfl (pa_cons (pv 0) (pa_cons pe_int pa_nil))) pe_int (nomark _))
          (pss_one (ps_expr (pe_bm PySem.F.plainAttrs_list PySem.F.slot_list_append PySem.F.type_list_append mt_append (pv 4) (pa_cons (C8.pe_c c__law_text_run hr (by decide) rfl (pa_cons (pv 0) (pa_cons (pv 1) (pa_cons (pv 2) pa_nil)))) pa_nil))))
          pss_nil)
        (C8.pss_cut (ps_if (pt_cmpR op_eq (C8.pe_c c__law_take hr (by decide) rfl (pa_cons (pv 0) (pa_cons pe_int pa_nil))) pe_int (nomark _))
          (pss_cons (ps_expr (pe_bm PySem.F.plainAttrs_list PySem.F.slot_list_append PySem.F.type_list_append mt_append (pv 4) (pa_cons (pe_tup (pa_cons pe_str (pa_cons pe_str (pa_cons (pv 3) pa_nil)))) pa_nil)))
          (pss_one (ps_set (i := 3) sc.nd rfl (Or.inl rfl) (pe_op op_add (pv 3) pe_int))))
          pss_nil)
        (pss_cons (ps_set (i := 6) sc.nd rfl (Or.inl rfl) (pe_ix ix_list (pe_op op_cat (pe_op op_cat (pv 2) (pv 2)) (pe_lst (pa_cons (pe_op op_add pe_int (C8.pe_c c__law_take hr (by decide) rfl (pa_cons (pv 0) (pa_cons pe_int pa_nil)))) pa_nil))) (C8.pe_c c__law_take hr (by decide) rfl (pa_cons (pv 0) (pa_cons pe_int pa_nil))) (fun _ _ => rfl)))
        (pss_one (ps_expr (pe_bm PySem.F.plainAttrs_list PySem.F.slot_list_append PySem.F.type_list_append mt_append (pv 4) (pa_cons (pe_tup (pa_cons pe_str (pa_cons (pv 5) (pa_cons (pv 6) (pa_cons (pe_ix ix_list (pe_lst (pa_cons pe_str (pa_cons pe_str pa_nil))) (C8.pe_c c__law_take hr (by decide) rfl (pa_cons (pv 0) (pa_cons pe_int pa_nil))) (fun _ _ => rfl)) pa_nil))))) pa_nil))))))))
      (C8.pss_cut (ps_if (pt_cmpR op_eq (C8.pe_c c__law_take hr (by decide) rfl (pa_cons (pv 0) (pa_cons pe_int pa_nil))) pe_int (nomark _))
        (pss_one (ps_expr (pe_bm PySem.F.plainAttrs_list PySem.F.slot_list_append PySem.F.type_list_append mt_append (pv 4) (pa_cons (C8.pe_c c__law_text_run hr (by decide) rfl (pa_cons (pv 0) (pa_cons (pv 1) (pa_cons (pv 2) pa_nil)))) pa_nil))))
        pss_nil)
      (pss_one (ps_ret (pe_callTy call_tuple_of rfl G.n_tuple (by decide +kernel) (pa_cons (pv 4) pa_nil))))))))), ?_⟩
    have hz := big
    -- talls, note, runs
    refine ⟨_, rfl, _, _, _, rfl, hp, (by omega), (by omega), (by omega), fun a H1 a0 a1 f1 hp => ⟨_, _, rfl, rfl, _, rfl, _, _, _, rfl, hp, (by omega), (by omega), (by omega), fun b H2 b0 b1 f2 hp => ?_⟩⟩
    have fr := f1.ts f2
    refine ⟨_, _, rfl, rfl, (by show 2 ≤ sizeLine; omega), fun tl n_tl => ?_⟩
    have tlp := hp.ne n_tl
    generalize eH_tl : upd H2 tl _ = H3
    have ev_tl : ∀ {M : List Addr}, Fr M H2 H3 := by intro M; rw [← eH_tl]; exact Fr.new n_tl
    have h_tl : H3 tl = some (.lst (([1 + a, 1 + b] : List Int).map V.int)) := by rw [← eH_tl]; exact upd_same
    clear eH_tl
    have hp := hp.k0 ev_tl
    have fr := fr.t0 ev_tl
    refine ⟨_, rfl, _, _, _, rfl, hp, (by omega), (by omega), (by omega), fun note H4 _ _ f4 hp => ?_⟩
    have fr := fr.ts f4
    have h_tl := f4.k1 h_tl tlp
    refine ⟨(by show 0 ≤ sizeLine; omega), fun l n_l => ?_⟩
    have lp := hp.ne n_l
    have tll := ne_of_none h_tl n_l
    have l0 := fr.d _ n_l
    generalize eH_l : upd H4 l _ = H5
    have ev_l : ∀ {M : List Addr}, Fr M H4 H5 := by intro M; rw [← eH_l]; exact Fr.new n_l
    have h_l : H5 l = some (.lst []) := by rw [← eH_l]; exact upd_same
    clear eH_l
    have hp := hp.k0 ev_l
    have fr := fr.t0 ev_l
    have h_tl := ev_l.k0 h_tl
    refine ⟨_, rfl, _, _, _, rfl, hp, (by omega), (by omega), (by omega), fun r6 H6 r60 r61 f6 hp => ⟨_, _, rfl, rfl, _, rfl, by omega, by omega, for_range (n := (1 + r6).toNat) (fun i σ H' => ∃ (rs : List Run) (vs : List V) (nt : Int) (v5 v6 : Option V), σ = [some (.ref p), some (.str (SX.S signs)), some (.ref tl), some (.int nt), some (.ref l), v5, v6] ∧ RunsI p tl l signs (1 + a) (1 + b) H (3 * i) (n - 4 - 300 * i) H' rs vs ∧ (1 ≤ i → ∃ k z f, Run.ref k z f ∈ rs)) ?_ ?_ ?_⟩⟩
    · exact ⟨[], [], note, none, none, by rfl, ⟨f6.k1 h_l lp, .nil, (fun r h => by cases h), Nat.le_refl _, f6.k1 h_tl tlp, fr.ts f6, hp.le (by omega)⟩, fun h => by omega⟩
    · rintro i σ H1 hi ⟨rs, vs, nt, v5, v6, rfl, I, hx⟩
      have hp := I.p
      refine ⟨fun σ' H' => ∃ (rs : List Run) (vs : List V), σ' = [some (.ref p), some (.str (SX.S signs)), some (.ref tl), some (.int nt), some (.ref l), some (.int (0 + (i : Int))), v6] ∧ RunsI p tl l signs (1 + a) (1 + b) H (3 * i + 1) (n - 4 - 300 * i - 211) H' rs vs, ?_, ?_⟩
      · refine ⟨_, rfl, _, _, _, rfl, hp, (by omega), (by omega), (by omega), fun r2 H2 r20 r21 f2 hp => ?_⟩
        have I := I.k1 f2 hp lp tlp
        refine ⟨_, _, rfl, rfl, _, rfl, ite2 (fun hc => ?_) (fun hc => ?_)⟩
        · refine ⟨_, rfl, Or.inl ⟨rfl, _, SqL.of I.l⟩, _, rfl, _, rfl, _, rfl, _, _, _, _, _, _, rfl, hp, (by omega), hs1, hs2, I.tl, (by omega), (by omega), tlp, fun v t z g H3 hv hok f3 hp => ?_⟩
          have I := I.k1 f3 hp lp tlp
          exact ⟨_, _, _, rfl, rfl, I.l, I.small (by omega), _, _, rfl, (I.app hv hok lp tll l0).le (by omega) (by omega)⟩
        · exact ⟨_, _, rfl, I.le (by omega) (by omega)⟩
      · rintro σ2 H2 ⟨rs, vs, rfl, I⟩
        have hp := I.p
        refine ⟨fun σ' H' => ∃ (rs : List Run) (vs : List V) (nt : Int), σ' = [some (.ref p), some (.str (SX.S signs)), some (.ref tl), some (.int nt), some (.ref l), some (.int (0 + (i : Int))), v6] ∧ RunsI p tl l signs (1 + a) (1 + b) H (3 * i + 2) (n - 4 - 300 * i - 212) H' rs vs, ?_, ?_⟩
        · refine ⟨_, rfl, _, _, _, rfl, hp, (by omega), (by omega), (by omega), fun r3 H3 r30 r31 f3 hp => ?_⟩
          have I := I.k1 f3 hp lp tlp
          refine ⟨rfl, _, rfl, ite2 (fun hc => ?_) (fun hc => ?_)⟩
          · refine ⟨_, rfl, Or.inl ⟨rfl, _, SqL.of I.l⟩, _, rfl, (by show 3 ≤ sizeLine; omega), fun t n_t => ?_⟩
            generalize eH_t : upd H3 t _ = H4
            have ev_t : ∀ {M : List Addr}, Fr M H3 H4 := by intro M; rw [← eH_t]; exact Fr.new n_t
            have h_t : H4 t = some (.tup [.str "mark", .str "note", .int nt]) := by rw [← eH_t]; exact upd_same
            clear eH_t
            have I := I.k1 ev_t (hp.k0 ev_t) lp tlp
            refine ⟨_, _, _, rfl, rfl, I.l, I.small (by omega), _, rfl, _, _, rfl, rfl, _, _, _, rfl, (I.app (r := .mark nt) (.tup h_t (.cons (.str _) (.cons (.str _) (.cons (.int _) .nil)))) trivial lp tll l0).le (by omega) (by omega)⟩
          · exact ⟨_, _, _, rfl, I.le (by omega) (by omega)⟩
        · rintro σ3 H3 ⟨rs, vs, nt, rfl, I⟩
          have hp := I.p
          refine ⟨_, rfl, _, rfl, tl, tl, _, _, rfl, rfl, I.tl, I.tl, (by show 2 + 2 ≤ sizeLine; omega), fun q n_q => ?_⟩
          have qp := hp.ne n_q
          generalize eH_q : upd H3 q _ = H4
          have ev_q : ∀ {M : List Addr}, Fr M H3 H4 := by intro M; rw [← eH_q]; exact Fr.new n_q
          have h_q : H4 q = some (.lst (([1 + a, 1 + b, 1 + a, 1 + b] : List Int).map V.int)) := by rw [← eH_q]; exact upd_same
          clear eH_q
          have hp := hp.k0 ev_q
          have I := I.k1 ev_q hp lp tlp
          refine ⟨_, rfl, _, _, _, rfl, hp, (by omega), (by omega), (by omega), fun r H5 r0 r1 f5 hp => ?_⟩
          have I := I.k1 f5 hp lp tlp
          have h_q := f5.k1 h_q qp
          refine ⟨_, _, rfl, rfl, (by show 1 ≤ sizeLine; omega), fun q2 n_q2 => ?_⟩
          generalize eH_q2 : upd H5 q2 _ = H6
          have ev_q2 : ∀ {M : List Addr}, Fr M H5 H6 := by intro M; rw [← eH_q2]; exact Fr.new n_q2
          have h_q2 : H6 q2 = some (.lst (([1 + r] : List Int).map V.int)) := by rw [← eH_q2]; exact upd_same
          clear eH_q2
          have hp := hp.k0 ev_q2
          have I := I.k1 ev_q2 hp lp tlp
          have h_q := ev_q2.k0 h_q
          refine ⟨q, q2, _, _, rfl, rfl, h_q, h_q2, (by show 4 + 1 ≤ sizeLine; omega), fun q3 n_q3 => ?_⟩
          have q3p := hp.ne n_q3
          generalize eH_q3 : upd H6 q3 _ = H7
          have ev_q3 : ∀ {M : List Addr}, Fr M H6 H7 := by intro M; rw [← eH_q3]; exact Fr.new n_q3
          have h_q3 : H7 q3 = some (.lst (([1 + a, 1 + b, 1 + a, 1 + b, 1 + r] : List Int).map V.int)) := by rw [← eH_q3]; exact upd_same
          clear eH_q3
          have hp := hp.k0 ev_q3
          have I := I.k1 ev_q3 hp lp tlp
          refine ⟨_, rfl, _, _, _, rfl, hp, (by omega), (by omega), (by omega), fun r5 H8 r50 r51 f8 hp => ?_⟩
          have I := I.k1 f8 hp lp tlp
          have h_q3 := f8.k1 h_q3 q3p
          obtain ⟨j, rfl⟩ := nat_of r50
          obtain ⟨z, hz1, hz2⟩ := gi (ns := [1 + a, 1 + b, 1 + a, 1 + b, 1 + r]) (j := j) (by show j < 5; omega)
          have hz3 : 1 ≤ z ∧ z ≤ 12 := by
            simp only [List.mem_cons, List.not_mem_nil, or_false] at hz2
            omega
          refine ⟨_, _, _, _, rfl, rfl, SqL.of h_q3, atI_nat hz1, ?_⟩
          refine ⟨_, rfl, Or.inl ⟨rfl, _, SqL.of I.l⟩, _, rfl, _, rfl, (by show 2 ≤ sizeLine; omega), fun q6 n_q6 => ?_⟩
          have q6p := hp.ne n_q6
          generalize eH_q6 : upd H8 q6 _ = H9
          have ev_q6 : ∀ {M : List Addr}, Fr M H8 H9 := by intro M; rw [← eH_q6]; exact Fr.new n_q6
          have h_q6 : H9 q6 = some (.lst [.str "plain", .str "bold"]) := by rw [← eH_q6]; exact upd_same
          clear eH_q6
          have hp := hp.k0 ev_q6
          have I := I.k1 ev_q6 hp lp tlp
          refine ⟨_, rfl, _, _, _, rfl, hp, (by omega), (by omega), (by omega), fun r7 H10 r70 r71 f10 hp => ?_⟩
          have I := I.k1 f10 hp lp tlp
          have h_q6 := f10.k1 h_q6 q6p
          obtain ⟨fn, hf, hat⟩ : ∃ fn : Str, FaceN fn ∧ atI [V.str "plain", V.str "bold"] r7 = some (.str fn) := by
            have : r7 = 0 ∨ r7 = 1 := by omega
            rcases this with rfl | rfl
            · exact ⟨_, .inl rfl, rfl⟩
            · exact ⟨_, .inr rfl, rfl⟩
          refine ⟨_, _, _, _, rfl, rfl, SqL.of h_q6, hat, (by show 4 ≤ sizeLine; omega), fun t n_t => ?_⟩
          generalize eH_t : upd H10 t _ = H11
          have ev_t : ∀ {M : List Addr}, Fr M H10 H11 := by intro M; rw [← eH_t]; exact Fr.new n_t
          have h_t : H11 t = some (.tup [.str "ref", .int (0 + (i : Int)), .int z, .str fn]) := by rw [← eH_t]; exact upd_same
          clear eH_t
          have hp := hp.k0 ev_t
          have I := I.k1 ev_t hp lp tlp
          have I2 := I.app (r := .ref (0 + (i : Int)) z fn) (.tup h_t (.cons (.str _) (.cons (.int _) (.cons (.int _) (.cons (.str _) .nil))))) ⟨by omega, by omega, hz3.1, hz3.2, hf⟩ lp tll l0
          exact ⟨_, _, _, rfl, rfl, I.l, I.small (by omega), _, _, _, _, _, rfl, I2.le (by omega) (by omega), fun _ => ⟨_, _, _, List.mem_append_right _ (List.mem_singleton.mpr rfl)⟩⟩
    · rintro σ H1 ⟨rs, vs, nt, v5, v6, rfl, I, hx⟩
      have hx := hx (by omega)
      have hp := I.p
      have fin : ∀ (rs : List Run) (vs : List V) (H' : Hp), RunsI p tl l signs (1 + a) (1 + b) H 12 (n - 2000) H' rs vs → (∃ k z f, Run.ref k z f ∈ rs) → ∀ t, H' t = none → Q (.ref t) (upd H' t (.tup vs)) := fun rs vs H' I hx t n_t =>
        k _ rs _ (.tup upd_same (I.t.mono (Fr.new (M := []) n_t).t)) I.ok I.len hx (I.fr.t0 (Fr.new n_t)) (I.p.k0 (Fr.new n_t))
      refine ⟨fun σ' H' => ∃ (rs : List Run) (vs : List V), σ' = [some (.ref p), some (.str (SX.S signs)), some (.ref tl), some (.int nt), some (.ref l), v5, v6] ∧ RunsI p tl l signs (1 + a) (1 + b) H 12 (n - 2000) H' rs vs ∧ (∃ k z f, Run.ref k z f ∈ rs), ?_, ?_⟩
      · refine ⟨_, rfl, _, _, _, rfl, hp, (by omega), (by omega), (by omega), fun r2 H2 r20 r21 f2 hp => ?_⟩
        have I := I.k1 f2 hp lp tlp
        refine ⟨rfl, _, rfl, ite2 (fun hc => ?_) (fun hc => ?_)⟩
        · refine ⟨_, rfl, Or.inl ⟨rfl, _, SqL.of I.l⟩, _, rfl, _, rfl, _, rfl, _, _, _, _, _, _, rfl, hp, (by omega), hs1, hs2, I.tl, (by omega), (by omega), tlp, fun v t z g H3 hv hok f3 hp => ?_⟩
          have I := I.k1 f3 hp lp tlp
          obtain ⟨k1, z1, f1, hm⟩ := hx
          exact ⟨_, _, _, rfl, rfl, I.l, I.small (by omega), _, _, rfl, (I.app hv hok lp tll l0).le (by omega) (by omega), k1, z1, f1, List.mem_append_left _ hm⟩
        · exact ⟨_, _, rfl, I.le (by omega) (by omega), hx⟩
      · rintro σ2 H2 ⟨rs, vs, rfl, I, hx⟩
        exact ⟨_, rfl, _, _, rfl, Or.inl ⟨SqL.of I.l, fin rs vs H2 I hx⟩⟩
end

end K45

set_option maxHeartbeats 4000000
namespace K45
open PySem PySem.Spec PyProof.Rows L2
section
variable {P : Program} {w : World} {K : PySem.W.Frag} {mg : Str → Option Value} {base : Heap}
theorem mk_fig {c : Nat} (h : c ∈ figL) : mk c = 48 := by
  unfold mk
  rw [if_pos (fig_mem.mpr h)]
theorem map_mk_figs : ∀ {g : List Nat}, (∀ c ∈ g, c ∈ figL) → g.map mk = List.replicate g.length 48
  | [], _ => rfl
  | c :: r, h => by
    rw [List.map_cons, mk_fig (h c List.mem_cons_self), map_mk_figs fun d hd => h d (List.mem_cons_of_mem _ hd)]
    rfl
abbrev s_two : Stmt := top 52
abbrev N_two : List Str := ["_law_pool_here", "_law_signs", "_law_figs", "_law_there", "_law_here", "_law_noughts", "_law_numbers", "_law_k", "_law_many", "_law_digits", "_law_j"]
theorem sc_two : FnScope ["_law_pool_here", "_law_signs", "_law_figs", "_law_there", "_law_here", "_law_noughts", "_law_numbers", "_law_k", "_law_many", "_law_digits", "_law_j"] ["_law_pool_here", "_law_signs", "_law_figs"] (defScope s_two) := ⟨rfl, rfl, rfl, by decide +kernel, rfl, by decide +kernel, by decide +kernel⟩
theorem c_two (F : Df K mg "_law_two_shown" s_two) (G : Gn mg)  (c__law_word_text : C8.Cal P w K mg base 3 "_law_word_text" spWtext []) (c__law_take : C8.Cal P w K mg base 1 "_law_take" spTake []) : C8.Cal P w K mg base 4 "_law_two_shown" spTwo [] := by
  refine cal_by F sc_two (fun _ _ _ _ _ _ us hl => match us, hl with | [_, _, _], _ => rfl) (fun vs H Q E h => ?_) (fun f cdv A outer s H vs Q E hr h => ?_)
  · obtain ⟨p, signs, fs, n, rfl, _⟩ := h
    rfl
  · obtain ⟨p, signs, fs, n, rfl, hp, hn, hs1, hs2, hf1, hf2, k⟩ := h
    have sc := sc_two
    refine ⟨_, (pss_cons (ps_set (i := 3) sc.nd rfl (Or.inl rfl) (C8.pe_c c__law_word_text hr (by decide) rfl (pa_cons (pv 0) (pa_cons (pv 1) pa_nil))))
      (pss_cons (ps_set (i := 4) sc.nd rfl (Or.inl rfl) (C8.pe_c c__law_word_text hr (by decide) rfl (pa_cons (pv 0) (pa_cons (pv 1) pa_nil))))
      (pss_cons (ps_set (i := 5) sc.nd rfl (Or.inl rfl) (pe_lst pa_nil))
      (pss_cons (ps_set (i := 6) sc.nd rfl (Or.inl rfl) (pe_lst pa_nil))
      (pss_cons (ps_for PassesOwn.never rfl (pi_range1 rfl G.n_range (pa_cons pe_int pa_nil)) (pg_name (i := 7) sc.nd rfl (Or.inl rfl))
        (pss_cons (ps_set (i := 8) sc.nd rfl (Or.inl rfl) (C8.pe_c c__law_take hr (by decide) rfl (pa_cons (pv 0) (pa_cons pe_int pa_nil))))
        (pss_cons (ps_set (i := 9) sc.nd rfl (Or.inl rfl) pe_str)
        (pss_cons (ps_for PassesOwn.never rfl (pi_range1 rfl G.n_range (pa_cons (pv 8) pa_nil)) (pg_name (i := 10) sc.nd rfl (Or.inl rfl))
          (pss_one (ps_set (i := 9) sc.nd rfl (Or.inl rfl) (pe_op op_add_str (pv 9) (pe_ix ix_str (pe_op op_add_str pe_str (pe_op op_mul_str (pv 2) pe_int)) (C8.pe_c c__law_take hr (by decide) rfl (pa_cons (pv 0) (pa_cons pe_int pa_nil))) (fun _ _ => rfl))))))
        (pss_one (ps_if (pt_cmpR op_eq (pv 8) pe_int (nomark _))
          (pss_cons (ps_expr (pe_bm PySem.F.plainAttrs_list PySem.F.slot_list_append PySem.F.type_list_append mt_append (pv 5) (pa_cons (pv 4) pa_nil)))
          (pss_one (ps_expr (pe_bm PySem.F.plainAttrs_list PySem.F.slot_list_append PySem.F.type_list_append mt_append (pv 6) (pa_cons (pv 4) pa_nil)))))
          (pss_cons (ps_expr (pe_bm PySem.F.plainAttrs_list PySem.F.slot_list_append PySem.F.type_list_append mt_append (pv 5) (pa_cons (pe_op op_add_str (pv 3) (pe_op op_mul_str pe_str (pv 8))) pa_nil)))
          (pss_one (ps_expr (pe_bm PySem.F.plainAttrs_list PySem.F.slot_list_append PySem.F.type_list_append mt_append (pv 6) (pa_cons (pe_op op_add_str (pv 3) (pv 9)) pa_nil)))))))))))
      (pss_one (ps_ret (pe_lst (pa_cons (pe_callTy call_tuple_of rfl G.n_tuple (by decide +kernel) (pa_cons (pv 5) pa_nil)) (pa_cons (pe_callTy call_tuple_of rfl G.n_tuple (by decide +kernel) (pa_cons (pv 6) pa_nil)) pa_nil)))))))))), ?_⟩
    have hz := big
    refine ⟨_, rfl, _, rfl, _, _, _, rfl, hp, (by omega), hs1, hs2, fun th H1 ht1 ht2 ht3 f1 hp => ⟨_, rfl, _, rfl, _, _, _, rfl, hp, (by omega), hs1, hs2, fun he H2 he1 he2 he3 f2 hp => ?_⟩⟩
    have fr := f1.ts f2
    refine ⟨(by show 0 ≤ sizeLine; omega), fun l1 n_l1 => ?_⟩
    have l1p := hp.ne n_l1
    have l10 := fr.d _ n_l1
    generalize eH_l1 : upd H2 l1 _ = H3
    have ev_l1 : ∀ {M : List Addr}, Fr M H2 H3 := by intro M; rw [← eH_l1]; exact Fr.new n_l1
    have h_l1 : H3 l1 = some (.lst []) := by rw [← eH_l1]; exact upd_same
    clear eH_l1
    have fr := fr.t0 ev_l1
    have hp := hp.k0 ev_l1
    refine ⟨(by show 0 ≤ sizeLine; omega), fun l2 n_l2 => ?_⟩
    have l2p := hp.ne n_l2
    have l20 := fr.d _ n_l2
    have l12 := ne_of_none h_l1 n_l2
    generalize eH_l2 : upd H3 l2 _ = H4
    have ev_l2 : ∀ {M : List Addr}, Fr M H3 H4 := by intro M; rw [← eH_l2]; exact Fr.new n_l2
    have h_l2 : H4 l2 = some (.lst []) := by rw [← eH_l2]; exact upd_same
    clear eH_l2
    have fr := fr.t0 ev_l2
    have hp := hp.k0 ev_l2
    have h_l1 := (ev_l2 (M := [])).k0 h_l1
    refine ⟨3, rfl, by decide, by decide, for_range (n := 3) (fun i σ H' => ∃ (ns ms : List (List Nat)) (v7 v8 v9 v10 : Option V), σ = [some (.ref p), some (.str (SX.S signs)), some (.str (SX.S fs)), some (.str (SX.S th)), some (.str (SX.S he)), some (.ref l1), some (.ref l2), v7, v8, v9, v10] ∧
      H' l1 = some (.lst (ns.map SV)) ∧ H' l2 = some (.lst (ms.map SV)) ∧ ns.length = i ∧ ms.length = i ∧ (∀ t ∈ ns, WordOk signs t) ∧ (∀ t ∈ ms, WordOk signs t) ∧ ns.map (List.map mk) = ms.map (List.map mk) ∧ Fr [p] H H' ∧ PoolAt H' p (n - 40 - 5 * i)) ?_ ?_ ?_⟩
    · exact ⟨[], [], none, none, none, none, by rfl, h_l1, h_l2, rfl, rfl, (fun t h => by cases h), (fun t h => by cases h), rfl, fr, hp.le (by omega)⟩
    · rintro i σ H1 hi ⟨ns, ms, v7, v8, v9, v10, rfl, h_l1, h_l2, hns, hms, hn1, hm1, hnm, fr, hp⟩
      refine ⟨_, rfl, _, _, _, rfl, hp, (by omega), (by omega), (by omega), fun many H2 m0 m1 f2 hp => ?_⟩
      have fr := fr.ts f2
      have h_l1 := f2.k1 h_l1 l1p
      have h_l2 := f2.k1 h_l2 l2p
      obtain ⟨m, rfl⟩ := nat_of m0
      refine ⟨_, rfl, _, rfl, by omega, by omega, for_range (n := m) (fun j σ H' => ∃ (g : List Nat) (v10 : Option V), σ = [some (.ref p), some (.str (SX.S signs)), some (.str (SX.S fs)), some (.str (SX.S th)), some (.str (SX.S he)), some (.ref l1), some (.ref l2), some (.int (0 + (i : Int))), some (.int (m : Int)), some (.str (SX.S g)), v10] ∧
        H' l1 = some (.lst (ns.map SV)) ∧ H' l2 = some (.lst (ms.map SV)) ∧ g.length = j ∧ (∀ c ∈ g, c ∈ figL) ∧ Fr [p] H H' ∧ PoolAt H' p (n - 41 - 5 * i - j)) ?_ ?_ ?_⟩
      · exact ⟨[], v10, by rfl, h_l1, h_l2, rfl, (fun c h => by cases h), fr, hp.le (by omega)⟩
      · rintro j σ H3 hj ⟨g, v10, rfl, h_l1, h_l2, hg, hgf, fr, hp⟩
        have e5 : Txt.mul (SX.S fs) 5 = SX.S (List.replicate 5 fs).flatten := mul_S fs 5
        have hfl : (SX.S fs).length = 2 := by rw [SX.S_len]; exact hf1
        have e6 : (List.replicate 5 fs).flatten.length = 10 := by
          rw [List.length_flatten]
          simp [hf1]
        have e7 : (SX.S (List.replicate 5 fs).flatten).length = 10 := by rw [SX.S_len]; exact e6
        have e8 : Str.ofString "0123456789" = SX.S figL := by decide +kernel
        have hgl : (SX.S g).length = g.length := SX.S_len g
        refine ⟨_, rfl, _, rfl, _, _, rfl, rfl, mulOk_small (n := 5) (by omega) (by omega), _, _, rfl, rfl, ?_⟩
        rw [e5, e8]
        refine ⟨(by rw [e7]; show 10 + 10 ≤ sizeLine; omega), ?_⟩
        rw [SX.S_cat]
        refine ⟨_, rfl, _, _, _, rfl, hp, (by omega), (by omega), (by omega), fun r H4 r0 r1 f4 hp => ?_⟩
        obtain ⟨q, rfl⟩ := nat_of r0
        obtain ⟨c, hc, hm⟩ := get_of (l := figL ++ (List.replicate 5 fs).flatten) (j := q) (by
          rw [List.length_append, e6]
          show q < 10 + 10
          omega)
        have hcf : c ∈ figL := by
          rcases List.mem_append.mp hm with h | h
          · exact h
          · obtain ⟨l, h1, h2⟩ := List.mem_flatten.mp h
            rw [(List.mem_replicate.mp h1).2] at h2
            exact hf2 c h2
        refine ⟨_, _, c, rfl, rfl, (by rw [SX.S_len, List.length_append, e6]; show 10 + 10 ≤ sizeLine; omega), atI_nat hc, _, _, rfl, rfl, (by show (SX.S g).length + 1 ≤ sizeLine; omega), ?_⟩
        refine ⟨g ++ [c], some (.int (0 + (j : Int))), ?_, f4.k1 h_l1 l1p, f4.k1 h_l2 l2p, ?_, ?_, fr.ts f4, hp.le (by omega)⟩
        · rw [← SX.S_cat] <;> rfl
        · rw [List.length_append, hg] <;> rfl
        · intro d hd
          rcases List.mem_append.mp hd with hd | hd
          · exact hgf d hd
          · rw [List.mem_singleton.mp hd]; exact hcf
      · rintro σ H3 ⟨g, v10, rfl, h_l1, h_l2, hg, hgf, fr, hp⟩
        have hthl : (SX.S th).length = th.length := SX.S_len th
        have hgl : (SX.S g).length = g.length := SX.S_len g
        have fin : ∀ (u x : List Nat), WordOk signs u → WordOk signs x → u.map mk = x.map mk → Fr [p] H (upd (upd H3 l1 (.lst (ns.map SV ++ [SV u]))) l2 (.lst (ms.map SV ++ [SV x]))) ∧ upd (upd H3 l1 (.lst (ns.map SV ++ [SV u]))) l2 (.lst (ms.map SV ++ [SV x])) l1 = some (.lst ((ns ++ [u]).map SV)) ∧
            upd (upd H3 l1 (.lst (ns.map SV ++ [SV u]))) l2 (.lst (ms.map SV ++ [SV x])) l2 = some (.lst ((ms ++ [x]).map SV)) ∧ PoolAt (upd (upd H3 l1 (.lst (ns.map SV ++ [SV u]))) l2 (.lst (ms.map SV ++ [SV x]))) p (n - 40 - 5 * (i + 1)) ∧ (∀ t ∈ ns ++ [u], WordOk signs t) ∧ (∀ t ∈ ms ++ [x], WordOk signs t) ∧ (ns ++ [u]).map (List.map mk) = (ms ++ [x]).map (List.map mk) := by
          intro u x hu hx hux
          have h2' : upd H3 l1 (.lst (ns.map SV ++ [SV u])) l2 = some (.lst (ms.map SV)) := by rw [upd_ne l12.symm]; exact h_l2
          refine ⟨(fr.t1 (Fr.put h_l1) (.inr l10)).t1 (Fr.put h2') (.inr l20), ?_, ?_, ?_, ?_, ?_, ?_⟩
          · rw [upd_ne l12, upd_same, List.map_append] <;> rfl
          · rw [upd_same, List.map_append] <;> rfl
          · exact ((hp.keep (Fr.put h_l1) (by simpa using l1p.symm)).keep (Fr.put h2') (by simpa using l2p.symm)).le (by omega)
          · intro t ht
            rcases List.mem_append.mp ht with ht | ht
            · exact hn1 t ht
            · rw [List.mem_singleton.mp ht]; exact hu
          · intro t ht
            rcases List.mem_append.mp ht with ht | ht
            · exact hm1 t ht
            · rw [List.mem_singleton.mp ht]; exact hx
          · rw [List.map_append, List.map_append, hnm]
            show ms.map (List.map mk) ++ [u.map mk] = ms.map (List.map mk) ++ [x.map mk]
            rw [hux]
        refine ⟨_, rfl, rfl, _, rfl, ite2 (fun hc => ?_) (fun hc => ?_)⟩
        · have hw : WordOk signs he := ⟨fun c hc => .inl (he1 c hc), by omega, he3⟩
          obtain ⟨q1, q2, q3, q4, q5, q6, q7⟩ := fin he he hw hw rfl
          refine ⟨_, rfl, Or.inl ⟨rfl, _, SqL.of h_l1⟩, _, rfl, _, _, _, rfl, rfl, h_l1, (by rw [List.length_map]; omega), ?_⟩
          refine ⟨_, rfl, Or.inl ⟨rfl, _, SqL.of (show upd H3 l1 _ l2 = _ by rw [upd_ne l12.symm]; exact h_l2)⟩, _, rfl, _, _, _, rfl, rfl, (show upd H3 l1 _ l2 = _ by rw [upd_ne l12.symm]; exact h_l2), (by rw [List.length_map]; omega), ?_⟩
          exact ⟨ns ++ [he], ms ++ [he], _, _, _, _, rfl, q2, q3, by rw [List.length_append, hns] <;> rfl, by rw [List.length_append, hms] <;> rfl, q5, q6, q7, q1, q4⟩
        · have e0 : Str.ofString "0" = SX.S [48] := by decide +kernel
          have e1 : Txt.mul (SX.S [48]) (m : Int) = SX.S (List.replicate m [48]).flatten := mul_S [48] m
          have e2 : (List.replicate m [48]).flatten = List.replicate m 48 := by
            have : ∀ k : Nat, (List.replicate k [48]).flatten = List.replicate k 48 := by
              intro k
              induction k with
              | zero => rfl
              | succ k ih => rw [List.replicate_succ, List.flatten_cons, ih] <;> rfl
            exact this m
          have hw1 : WordOk signs (th ++ List.replicate m 48) := by
            refine ⟨fun c hc => ?_, ?_, ?_⟩
            · rcases List.mem_append.mp hc with hc | hc
              · exact .inl (ht1 c hc)
              · rw [(List.mem_replicate.mp hc).2]; exact .inr (by decide)
            · rw [List.length_append, List.length_replicate]; omega
            · obtain ⟨c, h1, h2⟩ := ht3
              exact ⟨c, List.mem_append_left _ h1, h2⟩
          have hw2 : WordOk signs (th ++ g) := by
            refine ⟨fun c hc => ?_, ?_, ?_⟩
            · rcases List.mem_append.mp hc with hc | hc
              · exact .inl (ht1 c hc)
              · exact .inr (hgf c hc)
            · rw [List.length_append]; omega
            · obtain ⟨c, h1, h2⟩ := ht3
              exact ⟨c, List.mem_append_left _ h1, h2⟩
          have hsim : (th ++ List.replicate m 48).map mk = (th ++ g).map mk := by
            rw [List.map_append, List.map_append, map_mk_figs hgf, List.map_replicate, hg] <;> rfl
          obtain ⟨q1, q2, q3, q4, q5, q6, q7⟩ := fin _ _ hw1 hw2 hsim
          have e3 : (SX.S (List.replicate m 48)).length = m := by rw [SX.S_len, List.length_replicate]
          refine ⟨_, rfl, Or.inl ⟨rfl, _, SqL.of h_l1⟩, _, rfl, _, rfl, _, _, rfl, rfl, mulOk_small (n := m) (by show 1 ≤ 10000; omega) (by omega), _, _, rfl, rfl, ?_⟩
          rw [e0, e1, e2]
          refine ⟨(by omega), ?_⟩
          rw [SX.S_cat]
          refine ⟨_, _, _, rfl, rfl, h_l1, (by rw [List.length_map]; omega), ?_⟩
          refine ⟨_, rfl, Or.inl ⟨rfl, _, SqL.of (show upd H3 l1 _ l2 = _ by rw [upd_ne l12.symm]; exact h_l2)⟩, _, rfl, _, rfl, _, _, rfl, rfl, (by omega), ?_⟩
          rw [SX.S_cat]
          refine ⟨_, _, _, rfl, rfl, (show upd H3 l1 _ l2 = _ by rw [upd_ne l12.symm]; exact h_l2), (by rw [List.length_map]; omega), ?_⟩
          exact ⟨ns ++ [th ++ List.replicate m 48], ms ++ [th ++ g], _, _, _, _, rfl, q2, q3, by rw [List.length_append, hns] <;> rfl, by rw [List.length_append, hms] <;> rfl, q5, q6, q7, q1, q4⟩
    · rintro σ H1 ⟨ns, ms, v7, v8, v9, v10, rfl, h_l1, h_l2, hns, hms, hn1, hm1, hnm, fr, hp⟩
      refine ⟨_, rfl, _, _, rfl, Or.inl ⟨SqL.of h_l1, fun t1 n_t1 => ?_⟩⟩
      generalize eH_t1 : upd H1 t1 _ = H2
      have ev_t1 : ∀ {M : List Addr}, Fr M H1 H2 := by intro M; rw [← eH_t1]; exact Fr.new n_t1
      have h_t1 : H2 t1 = some (.tup (ns.map SV)) := by rw [← eH_t1]; exact upd_same
      clear eH_t1
      have h_l2 := (ev_t1 (M := [])).k0 h_l2
      refine ⟨_, rfl, _, _, rfl, Or.inl ⟨SqL.of h_l2, fun t2 n_t2 => ?_⟩⟩
      have n12 := ne_of_none h_t1 n_t2
      generalize eH_t2 : upd H2 t2 _ = H3
      have ev_t2 : ∀ {M : List Addr}, Fr M H2 H3 := by intro M; rw [← eH_t2]; exact Fr.new n_t2
      have h_t2 : H3 t2 = some (.tup (ms.map SV)) := by rw [← eH_t2]; exact upd_same
      clear eH_t2
      have h_t1 := (ev_t2 (M := [])).k0 h_t1
      refine ⟨(by show 2 ≤ sizeLine; omega), fun l n_l => ?_⟩
      have fr := (fr.t0 ev_t1).t0 ev_t2
      exact k l t1 t2 ns ms _ (fr.d _ n_l) upd_same ((Fr.new (M := []) n_l).k0 h_t1) ((Fr.new (M := []) n_l).k0 h_t2) hns hms hn1 hm1 hnm (fr.t0 (Fr.new n_l)) ((((hp.k0 ev_t1).k0 ev_t2).k0 (Fr.new n_l)).le (by omega))
abbrev s_resol : Stmt := top 53
abbrev N_resol : List Str := ["_law_runs", "_law_shown", "_law_rows", "_law_run"]
theorem sc_resol : FnScope ["_law_runs", "_law_shown", "_law_rows", "_law_run"] ["_law_runs", "_law_shown"] (defScope s_resol) := ⟨rfl, rfl, rfl, by decide +kernel, rfl, by decide +kernel, by decide +kernel⟩
theorem c_resol (F : Df K mg "_law_resolved" s_resol) (G : Gn mg)   : C8.Cal P w K mg base 1 "_law_resolved" spResol [] := by
  refine cal_by F sc_resol (fun _ _ _ _ _ _ us hl => match us, hl with | [_, _], _ => rfl) (fun vs H Q E h => ?_) (fun f cdv A outer s H vs Q E hr h => ?_)
  · obtain ⟨v, t, rs, ts, rfl, _⟩ := h
    rfl
  · obtain ⟨v, t, rs, ts, rfl, hv, ht, htl, hrl, hr0, k⟩ := h
    have sc := sc_resol
    refine ⟨_, (pss_cons (ps_set (i := 2) sc.nd rfl (Or.inl rfl) (pe_lst pa_nil))
      (pss_cons (ps_for PassesOwn.never rfl (pi_tup (pv 0)) (pg_name (i := 3) sc.nd rfl (Or.inl rfl))
        (pss_one (ps_if (pt_cmpR op_eq (pe_ix ix_tup (pv 3) pe_int (fun _ _ => rfl)) pe_str (nomark _))
          (pss_one (ps_expr (pe_bm PySem.F.plainAttrs_list PySem.F.slot_list_append PySem.F.type_list_append mt_append (pv 2) (pa_cons (pe_tup (pa_cons pe_str (pa_cons (pe_ix ix_tup (pv 3) pe_int (fun _ _ => rfl)) (pa_cons (pe_ix ix_tup (pv 1) (pe_ix ix_tup (pv 3) pe_int (fun _ _ => rfl)) (fun _ _ => rfl)) (pa_cons (pe_ix ix_tup (pv 3) pe_int (fun _ _ => rfl)) (pa_cons (pe_ix ix_tup (pv 3) pe_int (fun _ _ => rfl)) pa_nil)))))) pa_nil))))
          (pss_one (ps_expr (pe_bm PySem.F.plainAttrs_list PySem.F.slot_list_append PySem.F.type_list_append mt_append (pv 2) (pa_cons (pv 3) pa_nil)))))))
      (pss_one (ps_ret (pe_callTy call_tuple_of rfl G.n_tuple (by decide +kernel) (pa_cons (pv 2) pa_nil)))))), ?_⟩
    obtain ⟨a, vs, rfl, ha, hvs⟩ := hv.inv
    have hz := big
    refine ⟨(by show 0 ≤ sizeLine; omega), fun l n_l => ?_⟩
    generalize eH_l : upd H l _ = H0
    have ev_l : ∀ {M : List Addr}, Fr M H H0 := by intro M; rw [← eH_l]; exact Fr.new n_l
    have h_l : H0 l = some (.lst []) := by rw [← eH_l]; exact upd_same
    clear eH_l
    have la := ne_of_none ha n_l
    have hvl := hvs.length
    rw [List.length_map] at hvl
    refine ⟨_, rfl, a, rfl, ⟨_, SqT.of ((ev_l (M := [])).k0 ha)⟩, for_tup (xs := vs) (fun i σ H' => ∃ (ws : List V) (v3 : Option V), σ = [some (.ref a), some (.ref t), some (.ref l), v3] ∧ H' l = some (.lst ws) ∧ Trs H' ws (((rs.take i).map (resol1 ts)).map rrD) ∧ Fr [] H H') ?_ ?_ ?_ ?_⟩
    · exact ⟨[], none, by rfl, h_l, .nil, ev_l⟩
    · rintro i σ H1 _ ⟨ws, v3, rfl, h1, h2, fr⟩
      exact SqT.of (fr.k0 ha)
    · rintro i x σ H1 hi ⟨ws, v3, rfl, h1, h2, fr⟩
      obtain ⟨d, hd, hx⟩ := hvs.get' hi
      rw [List.getElem?_map] at hd
      cases er : rs[i]? with
      | none => rw [er] at hd; cases hd
      | some r =>
        rw [er] at hd
        have hd2 : runD r = d := Option.some.inj hd
        subst hd2
        have hx := hx.mono fr.t
        have hwl := h2.length
        rw [List.length_map, List.length_map, List.length_take] at hwl
        have hi2 := (List.getElem?_eq_some_iff.mp er).1
        have etake : rs.take (i + 1) = rs.take i ++ [r] := by
          rw [List.take_add_one, er] <;> rfl
        have fin : ∀ (v : V) (H2 : Hp), Fr [] H1 H2 → Tr H2 v (rrD (resol1 ts r)) → H2 l = some (.lst ws) → ws.length < sizeLine ∧ (∃ (ws2 : List V), upd H2 l (.lst (ws ++ [v])) l = some (.lst ws2) ∧ Trs (upd H2 l (.lst (ws ++ [v]))) ws2 (((rs.take (i + 1)).map (resol1 ts)).map rrD) ∧ Fr [] H (upd H2 l (.lst (ws ++ [v])))) := by
          intro v H2 f2 hv h1
          refine ⟨by omega, _, upd_same, ?_, (fr.t0 f2).t1 (Fr.put h1) (.inr n_l)⟩
          rw [etake, List.map_append, List.map_append]
          exact ((h2.mono f2.t).mono (Fr.put h1).t).snoc (hv.mono (Fr.put h1).t)
        cases r with
        | text u z f =>
          obtain ⟨b, rfl, hb⟩ := Tr.flat (hx : Tr H1 x (.tup _)) rfl
          refine ⟨_, rfl, b, _, _, _, rfl, rfl, SqT.of hb, rfl, rfl, _, rfl, ite2 (fun hc => absurd hc (by decide +kernel)) (fun hc => ?_)⟩
          obtain ⟨q1, ws2, q2, q3, q4⟩ := fin (.ref b) H1 (Fr.refl _ _) hx h1
          exact ⟨_, rfl, Or.inl ⟨rfl, _, SqL.of h1⟩, _, rfl, _, _, _, rfl, rfl, h1, q1, ws2, _, rfl, q2, q3, q4⟩
        | mark m =>
          obtain ⟨b, rfl, hb⟩ := Tr.flat (hx : Tr H1 x (.tup _)) rfl
          refine ⟨_, rfl, b, _, _, _, rfl, rfl, SqT.of hb, rfl, rfl, _, rfl, ite2 (fun hc => absurd hc (by decide +kernel)) (fun hc => ?_)⟩
          obtain ⟨q1, ws2, q2, q3, q4⟩ := fin (.ref b) H1 (Fr.refl _ _) hx h1
          exact ⟨_, rfl, Or.inl ⟨rfl, _, SqL.of h1⟩, _, rfl, _, _, _, rfl, rfl, h1, q1, ws2, _, rfl, q2, q3, q4⟩
        | ref m z f =>
          obtain ⟨m0, m2⟩ := hr0 m z f (List.mem_of_getElem? er)
          obtain ⟨b, rfl, hb⟩ := Tr.flat (hx : Tr H1 x (.tup _)) rfl
          obtain ⟨m, rfl⟩ := nat_of m0
          have hm : m < ts.length := by omega
          have ht1 := fr.k0 ht
          have et : (ts.map SV)[m]? = some (SV (ts.getD m [])) := by
            rw [List.getElem?_map, List.getElem?_eq_getElem hm, List.getD_eq_getElem?_getD, List.getElem?_eq_getElem hm] <;> rfl
          refine ⟨_, rfl, b, _, _, _, rfl, rfl, SqT.of hb, rfl, rfl, _, rfl, ite2 (fun hc => ?_) (fun hc => (hc (by decide +kernel)).elim)⟩
          refine ⟨_, rfl, Or.inl ⟨rfl, _, SqL.of h1⟩, _, rfl, b, _, _, _, rfl, rfl, SqT.of hb, rfl, _, rfl, _, rfl, b, _, _, _, rfl, rfl, SqT.of hb, rfl, t, _, _, _, rfl, rfl, SqT.of ht1, atI_nat et, _, rfl, b, _, _, _, rfl, rfl, SqT.of hb, rfl, _, rfl, b, _, _, _, rfl, rfl, SqT.of hb, rfl, (by show 5 ≤ sizeLine; omega), fun q n_q => ?_⟩
          generalize eH_q : upd H1 q _ = H2
          have ev_q : ∀ {M : List Addr}, Fr M H1 H2 := by intro M; rw [← eH_q]; exact Fr.new n_q
          have h_q : H2 q = some (.tup [.str "shown", .int (m : Int), SV (ts.getD m []), .int z, .str f]) := by rw [← eH_q]; exact upd_same
          clear eH_q
          obtain ⟨q1, ws2, q2, q3, q4⟩ := fin (.ref q) H2 ev_q (.tup h_q (.cons (.str _) (.cons (.int _) (.cons (.str _) (.cons (.int _) (.cons (.str _) .nil)))))) ((ev_q (M := [])).k0 h1)
          exact ⟨_, _, _, rfl, rfl, (ev_q (M := [])).k0 h1, q1, ws2, _, rfl, q2, q3, q4⟩
    · rintro σ H1 ⟨ws, v3, rfl, h1, h2, fr⟩
      refine ⟨_, rfl, _, _, rfl, Or.inl ⟨SqL.of h1, fun q n_q => ?_⟩⟩
      refine k _ _ (.tup upd_same ?_) (fr.t0 (Fr.new n_q))
      have e : rs.take vs.length = rs := List.take_of_length_le (by omega)
      rw [e] at h2
      exact h2.mono (Fr.new (M := []) n_q).t
end

end K45

set_option maxHeartbeats 4000000
namespace K45
open PySem PySem.Spec PyProof.Rows L2
section
variable {P : Program} {w : World} {K : PySem.W.Frag} {mg : Str → Option Value} {base : Heap}
def pick (g a b : Int) : Int := if g = 0 then a else b
theorem pick_or (g a b : Int) : pick g a b = a ∨ pick g a b = b := by
  unfold pick
  split
  · exact .inl rfl
  · exact .inr rfl
theorem pick_at {g : Int} (h : g = 0 ∨ g = 1) (a b : Int) : atI [V.int a, V.int b] g = some (V.int (pick g a b)) := by
  rcases h with rfl | rfl <;> rfl
/-- the letter so far -/
structure LetI (p lr lo : Addr) (H0 : Hp) (len rl m : Nat) (H' : Hp) (rs : List Rect) (vs : List V) : Prop where
  o : H' lo = some (.lst vs)
  t : Trs H' vs (rs.map rectD)
  ok : ∀ r ∈ rs, RectOk r
  len : rs.length ≤ len
  r : ∃ rws, H' lr = some (.lst rws) ∧ rws.length ≤ rl
  fr : Fr [p] H0 H'
  p : PoolAt H' p m
section
variable {p lr lo : Addr} {H0 H1 H2 : Hp} {len rl m m' : Nat} {rs : List Rect} {vs : List V}
theorem LetI.k1 (I : LetI p lr lo H0 len rl m H1 rs vs) (f : Fr [p] H1 H2) (hp : PoolAt H2 p m') (rp : lr ≠ p) (op : lo ≠ p) : LetI p lr lo H0 len rl m' H2 rs vs :=
  ⟨f.k1 I.o op, I.t.mono f.t, I.ok, I.len, let ⟨rws, h1, h2⟩ := I.r; ⟨rws, f.k1 h1 rp, h2⟩, I.fr.ts f, hp⟩
theorem LetI.k0 (I : LetI p lr lo H0 len rl m H1 rs vs) (f : Fr [] H1 H2) : LetI p lr lo H0 len rl m H2 rs vs :=
  ⟨f.k0 I.o, I.t.mono f.t, I.ok, I.len, let ⟨rws, h1, h2⟩ := I.r; ⟨rws, f.k0 h1, h2⟩, I.fr.t0 f, I.p.k0 f⟩
theorem LetI.app (I : LetI p lr lo H0 len rl m H1 rs vs) {v : V} {r : Rect} (hv : Tr H1 v (rectD r)) (hr : RectOk r) (op : lo ≠ p) (ro : lr ≠ lo) (o0 : H0 lo = none) :
    LetI p lr lo H0 (len + 1) rl m (upd H1 lo (.lst (vs ++ [v]))) (rs ++ [r]) (vs ++ [v]) :=
  ⟨upd_same, by
    rw [List.map_append]
    exact (I.t.mono (Fr.put I.o).t).snoc (hv.mono (Fr.put I.o).t), fun x hx => by
    rcases List.mem_append.mp hx with hx | hx
    · exact I.ok x hx
    · rw [List.mem_singleton.mp hx]; exact hr, by
    rw [List.length_append]
    exact Nat.succ_le_succ I.len, let ⟨rws, h1, h2⟩ := I.r; ⟨rws, (Fr.put I.o).k1 h1 ro, h2⟩, I.fr.t1 (Fr.put I.o) (.inr o0), I.p.keep (Fr.put I.o) (by simpa using op.symm)⟩
/-- another list of one's own is written -/
theorem LetI.put (I : LetI p lr lo H0 len rl m H1 rs vs) {D : Addr} {ys zs : List V} (h : H1 D = some (.lst ys)) (D0 : H0 D = none) (Dp : D ≠ p) (Do : lo ≠ D) (Dr : lr ≠ D) : LetI p lr lo H0 len rl m (upd H1 D (.lst zs)) rs vs :=
  ⟨(Fr.put h).k1 I.o Do, I.t.mono (Fr.put h).t, I.ok, I.len, let ⟨rws, h1, h2⟩ := I.r; ⟨rws, (Fr.put h).k1 h1 Dr, h2⟩, I.fr.t1 (Fr.put h) (.inr D0), I.p.keep (Fr.put h) (by simpa using Dp.symm)⟩
theorem LetI.ext (I : LetI p lr lo H0 len rl m H1 rs vs) {rws zs : List V} (h : H1 lr = some (.lst rws)) (hl : rws.length ≤ rl) (rp : lr ≠ p) (ro : lr ≠ lo) (r0 : H0 lr = none) : LetI p lr lo H0 len (rl + zs.length) m (upd H1 lr (.lst (rws ++ zs))) rs vs :=
  ⟨(Fr.put h).k1 I.o ro.symm, I.t.mono (Fr.put h).t, I.ok, I.len, ⟨_, upd_same, by rw [List.length_append]; omega⟩, I.fr.t1 (Fr.put h) (.inr r0), I.p.keep (Fr.put h) (by simpa using rp.symm)⟩
theorem LetI.le {len' rl' : Nat} (I : LetI p lr lo H0 len rl m H1 rs vs) (h1 : len ≤ len') (h2 : rl ≤ rl') (h3 : m' ≤ m) : LetI p lr lo H0 len' rl' m' H1 rs vs :=
  ⟨I.o, I.t, I.ok, Nat.le_trans I.len h1, let ⟨rws, a, b⟩ := I.r; ⟨rws, a, Nat.le_trans b h2⟩, I.fr, I.p.le h3⟩
end
abbrev s_letter : Stmt := top 42
abbrev N_letter : List Str := ["_law_pool_here", "_law_wide", "_law_big", "_law_rows", "_law_outlines", "_law_y", "_law_k", "_law_x", "_law_broad", "_law_high", "_law_sides", "_law_j"]
theorem sc_letter : FnScope ["_law_pool_here", "_law_wide", "_law_big", "_law_rows", "_law_outlines", "_law_y", "_law_k", "_law_x", "_law_broad", "_law_high", "_law_sides", "_law_j"] ["_law_pool_here", "_law_wide"] (defScope s_letter) := ⟨rfl, rfl, rfl, by decide +kernel, rfl, by decide +kernel, by decide +kernel⟩
theorem c_letter (F : Df K mg "_law_letter" s_letter) (G : Gn mg)  (c__law_take : C8.Cal P w K mg base 1 "_law_take" spTake []) : C8.Cal P w K mg base 2 "_law_letter" spLetter [] := by
  refine cal_by F sc_letter (fun _ _ _ _ _ _ us hl => match us, hl with | [_, _], _ => rfl) (fun vs H Q E h => ?_) (fun f cdv A outer s H vs Q E hr h => ?_)
  · obtain ⟨p, wide, n, rfl, _⟩ := h
    rfl
  · obtain ⟨p, wide, n, rfl, hp, hn, hw1, hw2, k⟩ := h
    have sc := sc_letter
    refine ⟨_, (pss_cons (ps_set (i := 2) sc.nd rfl (Or.inl rfl) (pe_callTy call_int1 rfl G.n_int (by decide +kernel) (pa_cons (pe_cmpR op_eq (C8.pe_c c__law_take hr (by decide) rfl (pa_cons (pv 0) (pa_cons pe_int pa_nil))) pe_int (nomark _)) pa_nil)))
      (pss_cons (ps_set (i := 3) sc.nd rfl (Or.inl rfl) (pe_lst pa_nil))
      (pss_cons (ps_set (i := 4) sc.nd rfl (Or.inl rfl) (pe_lst pa_nil))
      (pss_cons (ps_set (i := 5) sc.nd rfl (Or.inr rfl) (pe_op op_sub (C8.pe_c c__law_take hr (by decide) rfl (pa_cons (pv 0) (pa_cons (pe_ix ix_list (pe_lst (pa_cons pe_int (pa_cons pe_int pa_nil))) (pv 2) (fun _ _ => rfl)) pa_nil))) (pe_ix ix_list (pe_lst (pa_cons pe_int (pa_cons pe_int pa_nil))) (pv 2) (fun _ _ => rfl))))
      (pss_cons (ps_for PassesOwn.never rfl (pi_range1 rfl G.n_range (pa_cons (C8.pe_c c__law_take hr (by decide) rfl (pa_cons (pv 0) (pa_cons pe_int pa_nil))) pa_nil)) (pg_name (i := 6) sc.nd rfl (Or.inl rfl))
        (pss_cons (ps_set (i := 7) sc.nd rfl (Or.inr rfl) (pe_op op_sub (C8.pe_c c__law_take hr (by decide) rfl (pa_cons (pv 0) (pa_cons (pe_ix ix_list (pe_lst (pa_cons pe_int (pa_cons pe_int pa_nil))) (pv 2) (fun _ _ => rfl)) pa_nil))) (pe_ix ix_list (pe_lst (pa_cons pe_int (pa_cons pe_int pa_nil))) (pv 2) (fun _ _ => rfl))))
        (pss_cons (ps_set (i := 8) sc.nd rfl (Or.inr rfl) (pe_op op_add pe_int (C8.pe_c c__law_take hr (by decide) rfl (pa_cons (pv 0) (pa_cons (pe_ix ix_list (pe_lst (pa_cons (pe_callB (call_min2 rfl) rfl G.n_min (by decide +kernel) (pa_cons pe_int (pa_cons (pe_op op_add (pv 1) pe_int) pa_nil))) (pa_cons pe_int pa_nil))) (pv 2) (fun _ _ => rfl)) pa_nil)))))
        (pss_cons (ps_set (i := 9) sc.nd rfl (Or.inl rfl) (pe_op op_add pe_int (C8.pe_c c__law_take hr (by decide) rfl (pa_cons (pv 0) (pa_cons (pe_ix ix_list (pe_lst (pa_cons pe_int (pa_cons pe_int pa_nil))) (pv 2) (fun _ _ => rfl)) pa_nil)))))
        (C8.pss_cut (ps_if (pt_cmpR op_le (pv 5) pe_int (nomark _))
          (pss_cons (ps_set (i := 10) sc.nd rfl (Or.inl rfl) (pe_tup (pa_cons (pe_tup (pa_cons pe_str (pa_cons (pv 8) (pa_cons pe_int pa_nil)))) (pa_cons (pe_tup (pa_cons pe_str (pa_cons pe_int (pa_cons (pv 9) pa_nil)))) (pa_cons (pe_tup (pa_cons pe_str (pa_cons (pe_un un_neg (pv 8)) (pa_cons pe_int pa_nil)))) (pa_cons (pe_tup (pa_cons pe_str (pa_cons pe_int (pa_cons (pe_un un_neg (pv 9)) pa_nil)))) pa_nil))))))
          (pss_cons (ps_expr (pe_bm PySem.F.plainAttrs_list PySem.F.slot_list_append PySem.F.type_list_append mt_append (pv 4) (pa_cons (pe_tup (pa_cons (pv 7) (pa_cons (pv 5) (pa_cons (pv 10) pa_nil)))) pa_nil)))
          (pss_one (ps_expr (pe_bm PySem.F.plainAttrs_list PySem.F.slot_list_extend PySem.F.type_list_extend mt_extend (pv 3) (pa_cons (pe_lc (own := [("_law_j", 11)])  rfl sc.nd (pi_range1 rfl G.n_range (pa_cons (pv 9) pa_nil)) (blkOk_by (N := N_letter) (sc := defScope s_letter) (by decide +kernel)) (fun _ _ _ _ _ => (pg_name (i := 11) sc.nd rfl (Or.inl rfl))) (fun _ _ _ _ _ => pts_nil) (fun _ _ _ _ _ => (pe_tup (pa_cons (pe_op op_add (pv 5) (pv 11)) (pa_cons (pv 7) (pa_cons (pe_op op_add (pv 7) (pv 8)) pa_nil)))))) pa_nil))))))
          pss_nil)
        (pss_one (ps_set (i := 5) sc.nd rfl (Or.inr rfl) (pe_op op_add (pe_op op_add (pv 5) (pv 9)) (C8.pe_c c__law_take hr (by decide) rfl (pa_cons (pv 0) (pa_cons (pe_ix ix_list (pe_lst (pa_cons pe_int (pa_cons pe_int pa_nil))) (pv 2) (fun _ _ => rfl)) pa_nil)))))))))))
      (pss_one (ps_ret (pe_lst (pa_cons (pe_tup (pa_cons (pv 1) (pa_cons (pe_callTy call_tuple_of rfl G.n_tuple (by decide +kernel) (pa_cons (pv 4) pa_nil)) pa_nil))) (pa_cons (pv 3) pa_nil)))))))))), ?_⟩
    have hz := big
    refine ⟨_, rfl, _, _, _, rfl, hp, (by omega), (by omega), (by omega), fun r0 H1 r00 r01 f1 hp => ⟨rfl, Or.inr ⟨_, rfl, ?_⟩⟩⟩
    have hb : (if decide (V.int r0 = V.int 0) = true then (1 : Int) else 0) = 0 ∨ (if decide (V.int r0 = V.int 0) = true then (1 : Int) else 0) = 1 := by
      split
      · exact .inr rfl
      · exact .inl rfl
    generalize (if decide (V.int r0 = V.int 0) = true then (1 : Int) else 0) = g at hb
    have fr : Fr [p] H H1 := f1
    refine ⟨(by show 0 ≤ sizeLine; omega), fun lr n_lr => ?_⟩
    have rp := hp.ne n_lr
    have r0' := fr.d _ n_lr
    generalize eH_lr : upd H1 lr _ = H2
    have ev_lr : ∀ {M : List Addr}, Fr M H1 H2 := by intro M; rw [← eH_lr]; exact Fr.new n_lr
    have h_lr : H2 lr = some (.lst []) := by rw [← eH_lr]; exact upd_same
    clear eH_lr
    have hp := hp.k0 ev_lr
    have fr := fr.t0 ev_lr
    refine ⟨(by show 0 ≤ sizeLine; omega), fun lo n_lo => ?_⟩
    have op := hp.ne n_lo
    have o0 := fr.d _ n_lo
    have ro := ne_of_none h_lr n_lo
    generalize eH_lo : upd H2 lo _ = H3
    have ev_lo : ∀ {M : List Addr}, Fr M H2 H3 := by intro M; rw [← eH_lo]; exact Fr.new n_lo
    have h_lo : H3 lo = some (.lst []) := by rw [← eH_lo]; exact upd_same
    clear eH_lo
    have I : LetI p lr lo H 0 0 (n - 1) H3 [] [] := ⟨h_lo, .nil, (fun r h => by cases h), Nat.le_refl _, ⟨[], (ev_lo (M := [])).k0 h_lr, Nat.le_refl _⟩, fr.t0 ev_lo, hp.k0 ev_lo⟩
    -- y
    refine ⟨_, rfl, (by show 2 ≤ sizeLine; omega), fun q n_q => ?_⟩
    generalize eH_q : upd H3 q _ = H4
    have ev_q : ∀ {M : List Addr}, Fr M H3 H4 := by intro M; rw [← eH_q]; exact Fr.new n_q
    have h_q : H4 q = some (.lst [.int 7, .int 61]) := by rw [← eH_q]; exact upd_same
    clear eH_q
    have I := I.k0 ev_q
    have hp := I.p
    have b1 := pick_or g 7 61
    refine ⟨_, rfl, _, _, _, _, rfl, rfl, SqL.of h_q, pick_at hb 7 61, _, _, _, rfl, hp, (by omega), (by omega), (by omega), fun y0 H5 y00 y01 f5 hp => ?_⟩
    have I := I.k1 f5 hp rp op
    refine ⟨(by show 2 ≤ sizeLine; omega), fun q2 n_q2 => ?_⟩
    generalize eH_q2 : upd H5 q2 _ = H6
    have ev_q2 : ∀ {M : List Addr}, Fr M H5 H6 := by intro M; rw [← eH_q2]; exact Fr.new n_q2
    have h_q2 : H6 q2 = some (.lst [.int 3, .int 20]) := by rw [← eH_q2]; exact upd_same
    clear eH_q2
    have I := I.k0 ev_q2
    have b2 := pick_or g 3 20
    refine ⟨_, rfl, _, _, _, _, rfl, rfl, SqL.of h_q2, pick_at hb 3 20, _, _, rfl, rfl, ?_⟩
    have hp := I.p
    refine ⟨_, rfl, _, _, _, rfl, hp, (by omega), (by omega), (by omega), fun cnt H7 c0 c1 f7 hp => ⟨_, rfl, by omega, by omega, for_range (n := cnt.toNat) (fun i σ H' => ∃ (rs : List Rect) (vs : List V) (y : Int) (v6 v7 v8 v9 v10 v11 : Option V), σ = [some (.ref p), some (.int wide), some (.int g), some (.ref lr), some (.ref lo), some (.int y), v6, v7, v8, v9, v10, v11] ∧
      LetI p lr lo H i (20 * i) (n - 3 - 5 * i) H' rs vs ∧ -20 ≤ y ∧ y ≤ 80 + 60 * i) ?_ ?_ ?_⟩⟩
    · refine ⟨[], [], _, none, none, none, none, none, none, rfl, (I.k1 f7 hp rp op).le (Nat.le_refl _) (Nat.zero_le _) (by omega), ?_, ?_⟩
      · show -20 ≤ y0 - pick g 3 20
        omega
      · show y0 - pick g 3 20 ≤ 80 + 60 * ((0 : Nat) : Int)
        omega
    · rintro i σ H1 hi ⟨rs, vs, y, v6, v7, v8, v9, v10, v11, rfl, I, y0, y1⟩
      -- x
      refine ⟨_, rfl, (by show 2 ≤ sizeLine; omega), fun q n_q => ?_⟩
      generalize eH_q : upd H1 q _ = H2
      have ev_q : ∀ {M : List Addr}, Fr M H1 H2 := by intro M; rw [← eH_q]; exact Fr.new n_q
      have h_q : H2 q = some (.lst [.int 9, .int 61]) := by rw [← eH_q]; exact upd_same
      clear eH_q
      have I := I.k0 ev_q
      have hp := I.p
      have b3 := pick_or g 9 61
      refine ⟨_, rfl, _, _, _, _, rfl, rfl, SqL.of h_q, pick_at hb 9 61, _, _, _, rfl, hp, (by omega), (by omega), (by omega), fun x0 H3 x00 x01 f3 hp => ?_⟩
      have I := I.k1 f3 hp rp op
      refine ⟨(by show 2 ≤ sizeLine; omega), fun q2 n_q2 => ?_⟩
      generalize eH_q2 : upd H3 q2 _ = H4
      have ev_q2 : ∀ {M : List Addr}, Fr M H3 H4 := by intro M; rw [← eH_q2]; exact Fr.new n_q2
      have h_q2 : H4 q2 = some (.lst [.int 4, .int 20]) := by rw [← eH_q2]; exact upd_same
      clear eH_q2
      have I := I.k0 ev_q2
      have b4 := pick_or g 4 20
      have bx : -20 ≤ x0 - pick g 4 20 ∧ x0 - pick g 4 20 ≤ 40 := by
        rcases hb with rfl | rfl
        · simp only [pick, if_pos] at *
          omega
        · simp only [pick] at *
          simp at *
          omega
      refine ⟨_, rfl, _, _, _, _, rfl, rfl, SqL.of h_q2, pick_at hb 4 20, _, _, rfl, rfl, ?_⟩
      -- broad
      have bm : 5 ≤ (if wide + 4 < 20 then wide + 4 else 20) ∧ (if wide + 4 < 20 then wide + 4 else 20) ≤ 20 := by
        split <;> omega
      refine ⟨_, rfl, _, rfl, _, _, rfl, rfl, _, _, rfl, (by show 2 ≤ sizeLine; omega), fun q3 n_q3 => ?_⟩
      generalize eH_q3 : upd H4 q3 _ = H5
      have ev_q3 : ∀ {M : List Addr}, Fr M H4 H5 := by intro M; rw [← eH_q3]; exact Fr.new n_q3
      have h_q3 : H5 q3 = some (.lst [.int (if wide + 4 < 20 then wide + 4 else 20), .int 20]) := by rw [← eH_q3]; exact upd_same
      clear eH_q3
      have I := I.k0 ev_q3
      have hp := I.p
      have b5 := pick_or g (if wide + 4 < 20 then wide + 4 else 20) 20
      generalize eb : (if wide + 4 < 20 then wide + 4 else 20) = mm at *
      refine ⟨_, rfl, _, _, _, _, rfl, rfl, SqL.of h_q3, pick_at hb _ 20, _, _, _, rfl, hp, (by omega), (by omega), (by omega), fun br H6 br0 br1 f6 hp => ?_⟩
      have I := I.k1 f6 hp rp op
      refine ⟨_, _, rfl, rfl, _, rfl, (by show 2 ≤ sizeLine; omega), fun q4 n_q4 => ?_⟩
      -- high
      generalize eH_q4 : upd H6 q4 _ = H7
      have ev_q4 : ∀ {M : List Addr}, Fr M H6 H7 := by intro M; rw [← eH_q4]; exact Fr.new n_q4
      have h_q4 : H7 q4 = some (.lst [.int 3, .int 20]) := by rw [← eH_q4]; exact upd_same
      clear eH_q4
      have I := I.k0 ev_q4
      have hp := I.p
      have b6 := pick_or g 3 20
      refine ⟨_, rfl, _, _, _, _, rfl, rfl, SqL.of h_q4, pick_at hb 3 20, _, _, _, rfl, hp, (by omega), (by omega), (by omega), fun hi' H8 hi0 hi1 f8 hp => ?_⟩
      have I := I.k1 f8 hp rp op
      refine ⟨_, _, rfl, rfl, ?_⟩
      -- if y <= 40
      refine ⟨fun σ' H' => ∃ (rs : List Rect) (vs : List V) (v10 v11 : Option V), σ' = [some (.ref p), some (.int wide), some (.int g), some (.ref lr), some (.ref lo), some (.int y), some (.int (0 + (i : Int))), some (.int (x0 - pick g 4 20)), some (.int (1 + br)), some (.int (1 + hi')), v10, v11] ∧
        LetI p lr lo H (i + 1) (20 * (i + 1)) (n - 3 - 5 * i - 4) H' rs vs, ?_, ?_⟩
      · refine ⟨_, rfl, _, _, rfl, rfl, _, rfl, ite2 (fun hc => ?_) (fun hc => ?_)⟩
        · have hy40 := of_decide_eq_true hc
          refine ⟨_, rfl, (by show 3 ≤ sizeLine; omega), fun t1 n_t1 => ?_⟩
          generalize eH_t1 : upd H8 t1 _ = H9
          have ev_t1 : ∀ {M : List Addr}, Fr M H8 H9 := by intro M; rw [← eH_t1]; exact Fr.new n_t1
          have h_t1 : H9 t1 = some (.tup [.str "line", .int (1 + br), .int 0]) := by rw [← eH_t1]; exact upd_same
          clear eH_t1
          have I := I.k0 ev_t1
          refine ⟨_, rfl, (by show 3 ≤ sizeLine; omega), fun t2 n_t2 => ?_⟩
          generalize eH_t2 : upd H9 t2 _ = H10
          have ev_t2 : ∀ {M : List Addr}, Fr M H9 H10 := by intro M; rw [← eH_t2]; exact Fr.new n_t2
          have h_t2 : H10 t2 = some (.tup [.str "line", .int 0, .int (1 + hi')]) := by rw [← eH_t2]; exact upd_same
          clear eH_t2
          have I := I.k0 ev_t2
          have h_t1 := (ev_t2 (M := [])).k0 h_t1
          refine ⟨_, rfl, _, rfl, (by show 3 ≤ sizeLine; omega), fun t3 n_t3 => ?_⟩
          generalize eH_t3 : upd H10 t3 _ = H11
          have ev_t3 : ∀ {M : List Addr}, Fr M H10 H11 := by intro M; rw [← eH_t3]; exact Fr.new n_t3
          have h_t3 : H11 t3 = some (.tup [.str "line", .int (-(1 + br)), .int 0]) := by rw [← eH_t3]; exact upd_same
          clear eH_t3
          have I := I.k0 ev_t3
          have h_t1 := (ev_t3 (M := [])).k0 h_t1
          have h_t2 := (ev_t3 (M := [])).k0 h_t2
          refine ⟨_, rfl, _, rfl, (by show 3 ≤ sizeLine; omega), fun t4 n_t4 => ?_⟩
          generalize eH_t4 : upd H11 t4 _ = H12
          have ev_t4 : ∀ {M : List Addr}, Fr M H11 H12 := by intro M; rw [← eH_t4]; exact Fr.new n_t4
          have h_t4 : H12 t4 = some (.tup [.str "line", .int 0, .int (-(1 + hi'))]) := by rw [← eH_t4]; exact upd_same
          clear eH_t4
          have I := I.k0 ev_t4
          have h_t1 := (ev_t4 (M := [])).k0 h_t1
          have h_t2 := (ev_t4 (M := [])).k0 h_t2
          have h_t3 := (ev_t4 (M := [])).k0 h_t3
          refine ⟨(by show 4 ≤ sizeLine; omega), fun t5 n_t5 => ?_⟩
          generalize eH_t5 : upd H12 t5 _ = H13
          have ev_t5 : ∀ {M : List Addr}, Fr M H12 H13 := by intro M; rw [← eH_t5]; exact Fr.new n_t5
          have h_t5 : H13 t5 = some (.tup [.ref t1, .ref t2, .ref t3, .ref t4]) := by rw [← eH_t5]; exact upd_same
          clear eH_t5
          have I := I.k0 ev_t5
          have h_t1 := (ev_t5 (M := [])).k0 h_t1
          have h_t2 := (ev_t5 (M := [])).k0 h_t2
          have h_t3 := (ev_t5 (M := [])).k0 h_t3
          have h_t4 := (ev_t5 (M := [])).k0 h_t4
          refine ⟨_, rfl, Or.inl ⟨rfl, _, SqL.of I.o⟩, _, rfl, _, rfl, _, rfl, (by show 3 ≤ sizeLine; omega), fun t6 n_t6 => ?_⟩
          generalize eH_t6 : upd H13 t6 _ = H14
          have ev_t6 : ∀ {M : List Addr}, Fr M H13 H14 := by intro M; rw [← eH_t6]; exact Fr.new n_t6
          have h_t6 : H14 t6 = some (.tup [.int (x0 - pick g 4 20), .int y, .ref t5]) := by rw [← eH_t6]; exact upd_same
          clear eH_t6
          have I := I.k0 ev_t6
          have h_t1 := (ev_t6 (M := [])).k0 h_t1
          have h_t2 := (ev_t6 (M := [])).k0 h_t2
          have h_t3 := (ev_t6 (M := [])).k0 h_t3
          have h_t4 := (ev_t6 (M := [])).k0 h_t4
          have h_t5 := (ev_t6 (M := [])).k0 h_t5
          have hrd : Tr H14 (.ref t6) (rectD (x0 - pick g 4 20, y, 1 + br, 1 + hi')) :=
            .tup h_t6 (.cons (.int _) (.cons (.int _) (.cons (.tup h_t5 (.cons (.of_flat (ds := [.str "line", .int (1 + br), .int 0]) h_t1 rfl) (.cons (.of_flat (ds := [.str "line", .int 0, .int (1 + hi')]) h_t2 rfl) (.cons (.of_flat (ds := [.str "line", .int (-(1 + br)), .int 0]) h_t3 rfl) (.cons (.of_flat (ds := [.str "line", .int 0, .int (-(1 + hi'))]) h_t4 rfl) .nil))))) .nil)))
          have hok : RectOk (x0 - pick g 4 20, y, 1 + br, 1 + hi') := ⟨⟨by show -20 ≤ x0 - pick g 4 20; omega, by show x0 - pick g 4 20 ≤ 40; omega⟩, ⟨by show -20 ≤ y; omega, by show y ≤ 40; omega⟩, ⟨by show 1 ≤ 1 + br; omega, by show 1 + br ≤ 20; omega⟩, ⟨by show 1 ≤ 1 + hi'; omega, by show 1 + hi' ≤ 20; omega⟩⟩
          have hvl : vs.length < sizeLine := by
            have h1 := I.t.length
            have h2 := I.len
            rw [List.length_map] at h1
            omega
          refine ⟨_, _, _, rfl, rfl, I.o, hvl, ?_⟩
          have I := I.app hrd hok op ro o0
          generalize upd H14 lo _ = H15 at I
          -- rows.extend
          obtain ⟨rws, h_r, hrl⟩ := I.r
          refine ⟨_, rfl, Or.inl ⟨rfl, _, SqL.of h_r⟩, _, rfl, _, rfl, by omega, by omega, fun D n_D => ?_⟩
          have Dp := I.p.ne n_D
          have Do := ne_of_none I.o n_D
          have Dr := ne_of_none h_r n_D
          have D0 := I.fr.d _ n_D
          refine lc_range (lo := 0) (n := (1 + hi').toNat) (fun j H' => ∃ ys : List V, H' D = some (.lst ys) ∧ ys.length = j ∧ LetI p lr lo H (i + 1) (20 * i) (n - 3 - 5 * i - 4) H' (rs ++ [(x0 - pick g 4 20, y, 1 + br, 1 + hi')]) (vs ++ [.ref t6])) ?_ ?_ ?_
          · exact ⟨[], upd_same, rfl, (I.k0 (Fr.new n_D)).le (Nat.le_refl _) (Nat.le_refl _) (by omega)⟩
          · rintro j H16 hj ⟨ys, h_D, hys, I⟩
            refine ⟨rfl, _, rfl, _, rfl, _, _, rfl, rfl, _, rfl, _, rfl, _, rfl, _, _, rfl, rfl, (by show 3 ≤ sizeLine; omega), fun t7 n_t7 => ?_⟩
            generalize eH_t7 : upd H16 t7 _ = H17
            have ev_t7 : ∀ {M : List Addr}, Fr M H16 H17 := by intro M; rw [← eH_t7]; exact Fr.new n_t7
            have h_t7 : H17 t7 = some (.tup [.int (y + (0 + (j : Int))), .int (x0 - pick g 4 20), .int (x0 - pick g 4 20 + (1 + br))]) := by rw [← eH_t7]; exact upd_same
            clear eH_t7
            have I := I.k0 ev_t7
            have h_D := (ev_t7 (M := [])).k0 h_D
            exact ⟨_, h_D, by omega, _, upd_same, by rw [List.length_append, hys] <;> rfl, I.put h_D D0 Dp Do Dr⟩
          · rintro H16 ⟨ys, h_D, hys, I⟩
            obtain ⟨rws, h_r, hrl⟩ := I.r
            refine ⟨_, _, _, _, rfl, rfl, h_r, h_D, by omega, ?_⟩
            exact ⟨_, _, _, _, rfl, (I.ext (zs := ys) h_r hrl rp ro r0').le (Nat.le_refl _) (by omega) (Nat.le_refl _)⟩
        · exact ⟨rs, vs, _, _, rfl, I.le (by omega) (by omega) (by omega)⟩
      · rintro σ2 H2 ⟨rs, vs, v10, v11, rfl, I⟩
        refine ⟨_, rfl, _, rfl, _, _, rfl, rfl, _, rfl, (by show 2 ≤ sizeLine; omega), fun q n_q => ?_⟩
        generalize eH_q : upd H2 q _ = H3
        have ev_q : ∀ {M : List Addr}, Fr M H2 H3 := by intro M; rw [← eH_q]; exact Fr.new n_q
        have h_q : H3 q = some (.lst [.int 2, .int 20]) := by rw [← eH_q]; exact upd_same
        clear eH_q
        have I := I.k0 ev_q
        have hp := I.p
        have b7 := pick_or g 2 20
        refine ⟨_, rfl, _, _, _, _, rfl, rfl, SqL.of h_q, pick_at hb 2 20, _, _, _, rfl, hp, (by omega), (by omega), (by omega), fun st H4 st0 st1 f4 hp => ?_⟩
        have I := I.k1 f4 hp rp op
        refine ⟨_, _, rfl, rfl, rs, vs, y + (1 + hi') + st, _, _, _, _, _, _, rfl, I.le (Nat.le_refl _) (Nat.le_refl _) (by omega), by omega, ?_⟩
        show y + (1 + hi') + st ≤ 80 + 60 * ((i + 1 : Nat) : Int)
        omega
    · rintro σ H1 ⟨rs, vs, y, v6, v7, v8, v9, v10, v11, rfl, I, y0, y1⟩
      refine ⟨_, rfl, _, rfl, _, _, rfl, Or.inl ⟨SqL.of I.o, fun q n_q => ?_⟩⟩
      generalize eH_q : upd H1 q _ = H2
      have ev_q : ∀ {M : List Addr}, Fr M H1 H2 := by intro M; rw [← eH_q]; exact Fr.new n_q
      have h_q : H2 q = some (.tup vs) := by rw [← eH_q]; exact upd_same
      clear eH_q
      have I := I.k0 ev_q
      refine ⟨(by show 2 ≤ sizeLine; omega), fun t n_t => ?_⟩
      generalize eH_t : upd H2 t _ = H3
      have ev_t : ∀ {M : List Addr}, Fr M H2 H3 := by intro M; rw [← eH_t]; exact Fr.new n_t
      have h_t : H3 t = some (.tup [.int wide, .ref q]) := by rw [← eH_t]; exact upd_same
      clear eH_t
      have I := I.k0 ev_t
      have h_q := (ev_t (M := [])).k0 h_q
      refine ⟨_, rfl, (by show 2 ≤ sizeLine; omega), fun l n_l => ?_⟩
      have I2 := I.k0 (Fr.new n_l (o := .lst [.ref t, .ref lr]))
      refine k l t lr rs _ (I.fr.d _ n_l) upd_same ⟨t, q, rfl, (Fr.new (M := []) n_l).k0 h_t, .tup ((Fr.new (M := []) n_l).k0 h_q) I2.t, ?_, I2.ok⟩ I2.fr (I2.p.le (by omega))
      have := I2.len
      omega
end

end K45

set_option maxHeartbeats 4000000
namespace K45
open PySem PySem.Spec PyProof.Rows L2
section
variable {P : Program} {w : World} {K : PySem.W.Frag} {mg : Str → Option Value} {base : Heap}
/-- the house so far -/
structure HoI (p tb en : Addr) (H0 : Hp) (m : Nat) (H' : Hp) (kvs : List (L2.Key × V)) (done : List Nat) (A : Nat → Int) : Prop where
  t : H' tb = some (.dK kvs)
  e : ∃ kve, H' en = some (.dK kve) ∧ kve.length ≤ done.length
  T : TabOk H' kvs done A
  kl : kvs.length ≤ done.length
  fr : Fr [p] H0 H'
  p : PoolAt H' p m
section
variable {p tb en : Addr} {H0 H1 H2 : Hp} {m m' : Nat} {kvs : List (L2.Key × V)} {done : List Nat} {A : Nat → Int}
theorem HoI.k1 (I : HoI p tb en H0 m H1 kvs done A) (f : Fr [p] H1 H2) (hp : PoolAt H2 p m') (tp : tb ≠ p) (ep : en ≠ p) : HoI p tb en H0 m' H2 kvs done A :=
  ⟨f.k1 I.t tp, let ⟨kve, h1, h2⟩ := I.e; ⟨kve, f.k1 h1 ep, h2⟩, I.T.mono f.t, I.kl, I.fr.ts f, hp⟩
theorem HoI.k0 (I : HoI p tb en H0 m H1 kvs done A) (f : Fr [] H1 H2) : HoI p tb en H0 m H2 kvs done A :=
  ⟨f.k0 I.t, let ⟨kve, h1, h2⟩ := I.e; ⟨kve, f.k0 h1, h2⟩, I.T.mono f.t, I.kl, I.fr.t0 f, I.p.k0 f⟩
theorem HoI.le (I : HoI p tb en H0 m H1 kvs done A) (h : m' ≤ m) : HoI p tb en H0 m' H1 kvs done A := ⟨I.t, I.e, I.T, I.kl, I.fr, I.p.le h⟩
/-- one letter more, both dicts written -/
theorem HoI.put (I : HoI p tb en H0 m H1 kvs done A) {c : Nat} {v x : V} {adv : Int} {rs : List Rect} (hv : LetAt H1 v adv rs) (h1 : 1 ≤ adv) (h30 : adv ≤ 30) (hf : fig c = true → adv = A 48) (hl : done.length ≤ 900) (tp : tb ≠ p) (ep : en ≠ p) (te : tb ≠ en) (t0 : H0 tb = none) (e0 : H0 en = none)
    {kve : List (L2.Key × V)} (he : H1 en = some (.dK kve)) (hel : kve.length ≤ done.length) :
    HoI p tb en H0 m (upd (upd H1 tb (.dK (putK kvs (Sum.inr (ch c)) v))) en (.dK (putK kve (Sum.inr (ch c)) x))) (putK kvs (Sum.inr (ch c)) v) (done ++ [c]) (fun d => if d = c then adv else A d) := by
  have he' : upd H1 tb (.dK (putK kvs (Sum.inr (ch c)) v)) en = some (.dK kve) := by rw [upd_ne te.symm]; exact he
  have f1 : Fr [tb] H1 (upd H1 tb (.dK (putK kvs (Sum.inr (ch c)) v))) := Fr.put I.t
  have f2 : Fr [en] (upd H1 tb (.dK (putK kvs (Sum.inr (ch c)) v))) (upd (upd H1 tb (.dK (putK kvs (Sum.inr (ch c)) v))) en (.dK (putK kve (Sum.inr (ch c)) x))) := Fr.put he'
  refine ⟨by rw [upd_ne te, upd_same], ⟨_, upd_same, Nat.le_trans (length_putK _ _ _) (by rw [List.length_append]; exact Nat.succ_le_succ hel)⟩, (I.T.put hv h1 h30 hf (by have := I.kl; omega)).mono fun b xs e => f2.t _ _ (f1.t _ _ e), Nat.le_trans (length_putK _ _ _) (by rw [List.length_append]; exact Nat.succ_le_succ I.kl),
    (I.fr.t1 f1 (.inr t0)).t1 f2 (.inr e0), (I.p.keep f1 (by simpa using tp.symm)).keep f2 (by simpa using ep.symm)⟩
end
abbrev s_house : Stmt := top 44
abbrev N_house : List Str := ["_law_pool_here", "_law_chars_here", "_law_more", "_law_table", "_law_ends", "_law_one", "_law_char", "_law_wide", "_law_give", "_law_gap", "_law_wish", "_law_numbers"]
theorem sc_house : FnScope ["_law_pool_here", "_law_chars_here", "_law_more", "_law_table", "_law_ends", "_law_one", "_law_char", "_law_wide", "_law_give", "_law_gap", "_law_wish", "_law_numbers"] ["_law_pool_here", "_law_chars_here", "_law_more"] (defScope s_house) := ⟨rfl, rfl, rfl, by decide +kernel, rfl, by decide +kernel, by decide +kernel⟩
theorem c_house (F : Df K mg "_law_house" s_house) (G : Gn mg)  (c__law_letter : C8.Cal P w K mg base 2 "_law_letter" spLetter []) (c__law_take : C8.Cal P w K mg base 1 "_law_take" spTake []) (c__law_pairs : C8.Cal P w K mg base 2 "_law_pairs" spPairs []) : C8.Cal P w K mg base 3 "_law_house" spHouse [] := by
  refine cal_by F sc_house (fun _ _ _ _ _ _ us hl => match us, hl with | [_, _, _], _ => rfl) (fun vs H Q E h => ?_) (fun f cdv A outer s H vs Q E hr h => ?_)
  · obtain ⟨p, cs, more, n, rfl, _⟩ := h
    rfl
  · obtain ⟨p, cs, more, n, rfl, hp, hn, hc1, hc2, hmo, k⟩ := h
    have sc := sc_house
    have hu := hu_of hr
    refine ⟨_, (pss_cons (ps_set (i := 3) sc.nd rfl (Or.inl rfl) pe_dnewK)
      (pss_cons (ps_set (i := 4) sc.nd rfl (Or.inl rfl) pe_dnewK)
      (pss_cons (ps_set (i := 5) sc.nd rfl (Or.inl rfl) (C8.pe_c c__law_letter hr (by decide) rfl (pa_cons (pv 0) (pa_cons (pe_op op_add pe_int (C8.pe_c c__law_take hr (by decide) rfl (pa_cons (pv 0) (pa_cons pe_int pa_nil)))) pa_nil))))
      (pss_cons (ps_for PassesOwn.never rfl (pi_str pe_str) (pg_name (i := 6) sc.nd rfl (Or.inl rfl))
        (pss_cons (ps_dput hu (pv 3) (pv 6) (pe_ix ix_list (pv 5) pe_int (fun _ _ => rfl)) rfl)
        (pss_one (ps_dput hu (pv 4) (pv 6) (pe_ix ix_list (pv 5) pe_int (fun _ _ => rfl)) rfl))))
      (pss_cons (ps_for PassesOwn.never rfl (pi_str (pe_op op_add_str pe_str (pv 1))) (pg_name (i := 6) sc.nd rfl (Or.inl rfl))
        (pss_cons (ps_set (i := 5) sc.nd rfl (Or.inl rfl) (C8.pe_c c__law_letter hr (by decide) rfl (pa_cons (pv 0) (pa_cons (pe_op op_add pe_int (C8.pe_c c__law_take hr (by decide) rfl (pa_cons (pv 0) (pa_cons pe_int pa_nil)))) pa_nil))))
        (pss_cons (ps_dput hu (pv 3) (pv 6) (pe_ix ix_list (pv 5) pe_int (fun _ _ => rfl)) rfl)
        (pss_one (ps_dput hu (pv 4) (pv 6) (pe_ix ix_list (pv 5) pe_int (fun _ _ => rfl)) rfl)))))
      (pss_cons (ps_set (i := 7) sc.nd rfl (Or.inl rfl) (pe_op op_add pe_int (C8.pe_c c__law_take hr (by decide) rfl (pa_cons (pv 0) (pa_cons pe_int pa_nil)))))
      (pss_cons (ps_set (i := 8) sc.nd rfl (Or.inl rfl) (C8.pe_c c__law_take hr (by decide) rfl (pa_cons (pv 0) (pa_cons pe_int pa_nil))))
      (pss_cons (ps_set (i := 9) sc.nd rfl (Or.inl rfl) (pe_tup (pa_cons (pv 7) (pa_cons (pv 8) (pa_cons (C8.pe_c c__law_take hr (by decide) rfl (pa_cons (pv 0) (pa_cons (pv 7) pa_nil))) pa_nil)))))
      (pss_cons (ps_set (i := 10) sc.nd rfl (Or.inl rfl) (C8.pe_c c__law_take hr (by decide) rfl (pa_cons (pv 0) (pa_cons pe_int pa_nil))))
      (pss_cons (ps_set (i := 11) sc.nd rfl (Or.inl rfl) (pe_lst (pa_cons (pv 10) (pa_cons (C8.pe_c c__law_take hr (by decide) rfl (pa_cons (pv 0) (pa_cons pe_int pa_nil))) pa_nil))))
      (pss_one (ps_ret (pe_lst (pa_cons (pv 3) (pa_cons (pv 4) (pa_cons (pv 9) (pa_cons (pv 11) (pa_cons (C8.pe_c c__law_pairs hr (by decide) rfl (pa_cons (pv 0) (pa_cons (pe_op op_add_str (pe_op op_add_str pe_str (pv 1)) (pv 2)) pa_nil))) pa_nil)))))))))))))))))), ?_⟩
    have hz := big
    intro tb n_tb
    have tp := hp.ne n_tb
    generalize eH_tb : upd H tb _ = H1
    have ev_tb : ∀ {M : List Addr}, Fr M H H1 := by intro M; rw [← eH_tb]; exact Fr.new n_tb
    have h_tb : H1 tb = some (.dK []) := by rw [← eH_tb]; exact upd_same
    clear eH_tb
    have hp := hp.k0 ev_tb
    have fr : Fr [p] H H1 := ev_tb
    intro en n_en
    have ep := hp.ne n_en
    have te := ne_of_none h_tb n_en
    have e0 := fr.d _ n_en
    generalize eH_en : upd H1 en _ = H2
    have ev_en : ∀ {M : List Addr}, Fr M H1 H2 := by intro M; rw [← eH_en]; exact Fr.new n_en
    have h_en : H2 en = some (.dK []) := by rw [← eH_en]; exact upd_same
    clear eH_en
    have hp := hp.k0 ev_en
    have fr := fr.t0 ev_en
    have h_tb := (ev_en (M := [])).k0 h_tb
    refine ⟨_, rfl, _, rfl, _, _, _, rfl, hp, (by omega), (by omega), (by omega), fun a H3 a0 a1 f3 hp => ?_⟩
    have fr := fr.ts f3
    refine ⟨_, _, rfl, rfl, _, _, _, rfl, hp, by omega, by omega, by omega, fun l t x rs H4 l0 h_l hlet f4 hp => ?_⟩
    have lp : l ≠ p := by
      obtain ⟨c0, c1, c2, c3, c4, e, _⟩ := hp
      refine ne_of h_l e fun z => ?_
      injection z with z
      injection z with z1 z2
      cases z1
    have I : HoI p tb en H (n - 21) H4 [] [] (fun _ => 1 + a) := ⟨f4.k1 (f3.k1 h_tb tp) tp, ⟨[], f4.k1 (f3.k1 h_en ep) ep, Nat.le_refl _⟩, TabOk.nil _ _, Nat.le_refl _, fr.ts f4, hp.le (by omega)⟩
    have e8 : Str.ofString "0123456789" = SX.S figL := by decide +kernel
    refine ⟨SX.S figL, congrArg V.str e8, for_it walk_sign (fun i σ H' => ∃ (kvs : List (L2.Key × V)) (A : Nat → Int) (v6 : Option V), σ = [some (.ref p), some (.str (SX.S cs)), some (.str (SX.S more)), some (.ref tb), some (.ref en), some (.ref l), v6, none, none, none, none, none] ∧
      HoI p tb en H (n - 21) H' kvs (figL.take i) A ∧ A 48 = 1 + a ∧ H' l = some (.lst [.ref t, .ref x]) ∧ LetAt H' (.ref t) (1 + a) rs) ?_ (fun _ _ _ _ _ => trivial) ?_ ?_⟩
    · exact ⟨[], _, none, rfl, I, rfl, h_l, hlet⟩
    · rintro i y σ H0' H1 hi ⟨kvs, A, v6, rfl, I, hA, h_l, hlet⟩ ⟨rfl, c, hc, rfl⟩
      obtain ⟨kve, h_en, hel⟩ := I.e
      have hil : (figL.take i).length ≤ 10 := by
        rw [List.length_take]
        have : figL.length = 10 := rfl
        omega
      have lt := ne_of h_l I.t (by intro z; cases z)
      have le := ne_of h_l h_en (by intro z; cases z)
      have hkl := I.kl
      have h_l2 : upd H1 tb (.dK (putK kvs (Sum.inr (ch c)) (.ref t))) l = some (.lst [.ref t, .ref x]) := by rw [upd_ne lt]; exact h_l
      have h_en2 : upd H1 tb (.dK (putK kvs (Sum.inr (ch c)) (.ref t))) en = some (.dK kve) := by rw [upd_ne te.symm]; exact h_en
      refine ⟨_, rfl, _, _, _, _, rfl, rfl, SqL.of h_l, rfl, _, rfl, _, rfl, tb, _, rfl, DPut.k (k := Sum.inr (ch c)) I.t (by omega), ?_⟩
      refine ⟨_, rfl, _, _, _, _, rfl, rfl, SqL.of h_l2, rfl, _, rfl, _, rfl, en, _, rfl, DPut.k (k := Sum.inr (ch c)) h_en2 (by omega), ?_⟩
      have I2 := I.put (c := c) (x := .ref x) hlet (by omega) (by omega) (fun _ => hA.symm) (by omega) tp ep te n_tb e0 h_en hel
      have et : figL.take (i + 1) = figL.take i ++ [c] := by rw [List.take_add_one, hc] <;> rfl
      refine ⟨_, _, _, rfl, by rw [et]; exact I2, ?_, ?_, ?_⟩
      · show (if 48 = c then 1 + a else A 48) = 1 + a
        split
        · rfl
        · exact hA
      · rw [upd_ne le]; exact h_l2
      · exact hlet.mono fun b xs e => (Fr.put h_en2).t _ _ ((Fr.put I.t).t _ _ e)
    · rintro σ H1 ⟨kvs, A, v6, rfl, I, hA, h_l, hlet⟩
      have ef : figL.take figL.length = figL := List.take_length
      rw [ef] at I
      have e9 : Str.ofString "-" ++ SX.S cs = SX.S (45 :: cs) := by
        have : Str.ofString "-" = SX.S [45] := by decide +kernel
        rw [this, SX.S_cat] <;> rfl
      have hcsl : (SX.S cs).length = cs.length := SX.S_len cs
      have hmol : (SX.S more).length = more.length := SX.S_len more
      refine ⟨_, rfl, _, _, rfl, rfl, (by show 1 + (SX.S cs).length ≤ sizeLine; omega), SX.S (45 :: cs), congrArg V.str e9, for_it walk_sign (fun i σ H' => ∃ (kvs : List (L2.Key × V)) (A : Nat → Int) (v5 v6 : Option V), σ = [some (.ref p), some (.str (SX.S cs)), some (.str (SX.S more)), some (.ref tb), some (.ref en), v5, v6, none, none, none, none, none] ∧
        HoI p tb en H (n - 21 - 21 * i) H' kvs (figL ++ (45 :: cs).take i) A) ?_ (fun _ _ _ _ _ => trivial) ?_ ?_⟩
      · exact ⟨kvs, A, _, _, rfl, by rw [List.take_zero, List.append_nil]; exact I.le (by omega)⟩
      · rintro i y σ H1 H2' hi ⟨kvs, A, v5, v6, rfl, I⟩ ⟨rfl, c, hc, rfl⟩
        have hi2 : i < cs.length + 1 := hi
        have hcm : c = 45 ∨ c ∈ cs := List.mem_cons.mp (List.mem_of_getElem? hc)
        have hcf : fig c = false := by
          rcases hcm with rfl | h
          · decide
          · exact (rest_plain c (hc1 c h)).1
        have hp := I.p
        refine ⟨_, rfl, _, rfl, _, _, _, rfl, hp, (by omega), (by omega), (by omega), fun a2 H3 a20 a21 f3 hp => ?_⟩
        have I := I.k1 f3 hp tp ep
        refine ⟨_, _, rfl, rfl, _, _, _, rfl, hp, by omega, by omega, by omega, fun l t x rs H4 l0 h_l hlet f4 hp => ?_⟩
        have I := I.k1 f4 hp tp ep
        obtain ⟨kve, h_en, hel⟩ := I.e
        have hil : (figL ++ (45 :: cs).take i).length ≤ 100 := by
          rw [List.length_append, List.length_take]
          have : figL.length = 10 := rfl
          omega
        have lt := ne_of h_l I.t (by intro z; cases z)
        have le := ne_of h_l h_en (by intro z; cases z)
        have hkl := I.kl
        have h_l2 : upd H4 tb (.dK (putK kvs (Sum.inr (ch c)) (.ref t))) l = some (.lst [.ref t, .ref x]) := by rw [upd_ne lt]; exact h_l
        have h_en2 : upd H4 tb (.dK (putK kvs (Sum.inr (ch c)) (.ref t))) en = some (.dK kve) := by rw [upd_ne te.symm]; exact h_en
        refine ⟨_, rfl, _, _, _, _, rfl, rfl, SqL.of h_l, rfl, _, rfl, _, rfl, tb, _, rfl, DPut.k (k := Sum.inr (ch c)) I.t (by omega), ?_⟩
        refine ⟨_, rfl, _, _, _, _, rfl, rfl, SqL.of h_l2, rfl, _, rfl, _, rfl, en, _, rfl, DPut.k (k := Sum.inr (ch c)) h_en2 (by omega), ?_⟩
        have I2 := I.put (c := c) (x := .ref x) hlet (by omega) (by omega) (fun h => by rw [hcf] at h; cases h) (by omega) tp ep te n_tb e0 h_en hel
        have et : (45 :: cs).take (i + 1) = (45 :: cs).take i ++ [c] := by rw [List.take_add_one, hc] <;> rfl
        exact ⟨_, _, _, _, rfl, by rw [et, ← List.append_assoc]; exact I2.le (by omega)⟩
      · rintro σ H1 ⟨kvs, A, v5, v6, rfl, I⟩
        have ef : (45 :: cs).take (45 :: cs).length = 45 :: cs := List.take_length
        rw [ef] at I
        have hlen : (45 :: cs).length = cs.length + 1 := rfl
        have hp := I.p
        refine ⟨_, rfl, _, _, _, rfl, hp, (by omega), (by omega), (by omega), fun w1 H3 w0 w1' f3 hp => ?_⟩
        have I := I.k1 f3 hp tp ep
        refine ⟨_, _, rfl, rfl, _, rfl, _, _, _, rfl, hp, (by omega), (by omega), (by omega), fun g1 H4 g0 g1' f4 hp => ?_⟩
        have I := I.k1 f4 hp tp ep
        refine ⟨_, rfl, _, rfl, _, rfl, _, rfl, _, _, _, rfl, hp, (by omega), (by omega), (by omega), fun s1 H5 s0 s1' f5 hp => ?_⟩
        have I := I.k1 f5 hp tp ep
        refine ⟨(by show 3 ≤ sizeLine; omega), fun gp n_gp => ?_⟩
        generalize eH_gp : upd H5 gp _ = H6
        have ev_gp : ∀ {M : List Addr}, Fr M H5 H6 := by intro M; rw [← eH_gp]; exact Fr.new n_gp
        have h_gp : H6 gp = some (.tup [.int (1 + w1), .int g1, .int s1]) := by rw [← eH_gp]; exact upd_same
        clear eH_gp
        have I := I.k0 ev_gp
        have hp := I.p
        refine ⟨_, rfl, _, _, _, rfl, hp, (by omega), (by omega), (by omega), fun x1 H7 x0 x1' f7 hp => ?_⟩
        have I := I.k1 f7 hp tp ep
        have h_gp := f7.t _ _ h_gp
        refine ⟨_, rfl, _, rfl, _, _, _, rfl, hp, (by omega), (by omega), (by omega), fun x2 H8 x20 x21' f8 hp => ?_⟩
        have I := I.k1 f8 hp tp ep
        have h_gp := f8.t _ _ h_gp
        refine ⟨(by show 2 ≤ sizeLine; omega), fun nu n_nu => ?_⟩
        have np := I.p.ne n_nu
        have nu0 := I.fr.d _ n_nu
        generalize eH_nu : upd H8 nu _ = H9
        have ev_nu : ∀ {M : List Addr}, Fr M H8 H9 := by intro M; rw [← eH_nu]; exact Fr.new n_nu
        have h_nu : H9 nu = some (.lst [.int x1, .int x2]) := by rw [← eH_nu]; exact upd_same
        clear eH_nu
        have I := I.k0 ev_nu
        have h_gp := (ev_nu (M := [])).k0 h_gp
        have hp := I.p
        have e10 : Str.ofString "7-" ++ SX.S cs ++ SX.S more = SX.S ((55 :: 45 :: cs) ++ more) := by
          have : Str.ofString "7-" = SX.S [55, 45] := by decide +kernel
          rw [this, SX.S_cat, SX.S_cat] <;> rfl
        have e11 : (Str.ofString "7-" ++ SX.S cs).length = cs.length + 2 := by
          have : Str.ofString "7-" = SX.S [55, 45] := by decide +kernel
          rw [this, SX.S_cat, SX.S_len] <;> rfl
        refine ⟨_, rfl, _, rfl, _, rfl, _, rfl, _, rfl, _, rfl, _, _, rfl, rfl, (by show 2 + (SX.S cs).length ≤ sizeLine; omega), _, rfl, _, _, rfl, rfl, (by omega), ?_⟩
        rw [e10]
        refine ⟨_, _, _, rfl, hp, (by omega), (by rw [List.length_append]; show 1 ≤ (cs.length + 1 + 1) + more.length; omega), (by rw [List.length_append]; show (cs.length + 1 + 1) + more.length ≤ 10000; omega), fun pr kk H10 n_pr h_pr hk hkl f10 hp => ?_⟩
        have tpr : tb ≠ pr := ne_of_none I.t n_pr
        have pr0 := I.fr.d _ n_pr
        have I := I.k1 f10 hp tp ep
        have h_gp := f10.t _ _ h_gp
        have h_nu := f10.k1 h_nu np
        refine ⟨(by show 5 ≤ sizeLine; omega), fun h n_h => ?_⟩
        have hkl2 := I.kl
        rw [List.length_append, hlen] at hkl2
        have hfl : figL.length = 10 := rfl
        have hh0 := I.fr.d _ n_h
        have I := I.k0 (Fr.new n_h (o := .lst [.ref tb, .ref en, .ref gp, .ref nu, .ref pr]))
        refine k h ⟨tb, en, gp, nu, pr, kvs, kk⟩ A _ ⟨upd_same, I.t, ⟨_, _, _, (Fr.new (M := []) n_h).k0 h_gp⟩, ⟨_, _, (Fr.new (M := []) n_h).k0 h_nu⟩, (Fr.new (M := []) n_h).k0 h_pr, hk, (by show kk.length ≤ 1000; omega), tpr⟩ hkl (by show kvs.length ≤ 900; omega) I.T ⟨hh0, n_tb, e0, nu0, pr0⟩ I.fr (I.p.le (by omega))
end

end K45

set_option maxHeartbeats 4000000
namespace K45
open PySem PySem.Spec PyProof.Rows L2
section
variable {P : Program} {w : World} {K : PySem.W.Frag} {mg : Str → Option Value} {base : Heap}
theorem HouseAt.k1 {H H' : Hp} {h p : Addr} {D : HouseD} (x : HouseAt H h D) (f : Fr [p] H H') (hp : h ≠ p) (tp : D.tb ≠ p) (np : D.nu ≠ p) (pp : D.pr ≠ p) : HouseAt H' h D :=
  ⟨f.k1 x.l hp, f.k1 x.t tp, let ⟨i, j, k, e⟩ := x.g; ⟨i, j, k, f.t _ _ e⟩, let ⟨i, j, e⟩ := x.n; ⟨i, j, f.k1 e np⟩, f.k1 x.p pp, x.k, x.kl, x.ne⟩
theorem HouseAt.putT {H : Hp} {h : Addr} {D : HouseD} (x : HouseAt H h D) (kvs : List (L2.Key × V)) : HouseAt (upd H D.tb (.dK kvs)) h { D with kvs := kvs } := by
  obtain ⟨i, j, k, e⟩ := x.g
  obtain ⟨i2, j2, e2⟩ := x.n
  have f : Fr [D.tb] H (upd H D.tb (.dK kvs)) := Fr.put x.t
  exact ⟨f.k1 x.l (ne_of x.l x.t (by intro z; cases z)), upd_same, ⟨i, j, k, f.t _ _ e⟩, ⟨i2, j2, f.k1 e2 (ne_of e2 x.t (by intro z; cases z))⟩, f.k1 x.p x.ne.symm, x.k, x.kl, x.ne⟩
theorem HouseAt.putP {H : Hp} {h : Addr} {D : HouseD} (x : HouseAt H h D) (kk : List (L2.Key × V)) (hk : KernOk kk) (hl : kk.length ≤ 1000) : HouseAt (upd H D.pr (.dK kk)) h { D with kk := kk } := by
  obtain ⟨i, j, k, e⟩ := x.g
  obtain ⟨i2, j2, e2⟩ := x.n
  have f : Fr [D.pr] H (upd H D.pr (.dK kk)) := Fr.put x.p
  exact ⟨f.k1 x.l (ne_of x.l x.p (by intro z; cases z)), f.k1 x.t x.ne, ⟨i, j, k, f.t _ _ e⟩, ⟨i2, j2, f.k1 e2 (ne_of e2 x.p (by intro z; cases z))⟩, upd_same, hk, hl, x.ne⟩
abbrev s_fhouse : Stmt := top 45
abbrev N_fhouse : List Str := ["_law_pool_here", "_law_used", "_law_figs", "_law_house_here", "_law_one", "_law_menu", "_law_k", "_law_char", "_law_pair"]
theorem sc_fhouse : FnScope ["_law_pool_here", "_law_used", "_law_figs", "_law_house_here", "_law_one", "_law_menu", "_law_k", "_law_char", "_law_pair"] ["_law_pool_here", "_law_used", "_law_figs"] (defScope s_fhouse) := ⟨rfl, rfl, rfl, by decide +kernel, rfl, by decide +kernel, by decide +kernel⟩
theorem c_fhouse (F : Df K mg "_law_figure_house" s_fhouse) (G : Gn mg)  (c__law_house : C8.Cal P w K mg base 3 "_law_house" spHouse []) (c__law_letter : C8.Cal P w K mg base 2 "_law_letter" spLetter []) (c__law_take : C8.Cal P w K mg base 1 "_law_take" spTake []) : C8.Cal P w K mg base 4 "_law_figure_house" spFHouse [] := by
  refine cal_by F sc_fhouse (fun _ _ _ _ _ _ us hl => match us, hl with | [_, _, _], _ => rfl) (fun vs H Q E h => ?_) (fun f cdv A outer s H vs Q E hr h => ?_)
  · obtain ⟨p, cs, fs, n, rfl, _⟩ := h
    rfl
  · obtain ⟨p, cs, fs, n, rfl, hp, hn, hc1, hc2, hc3, hf1, hf2, k⟩ := h
    have sc := sc_fhouse
    have hu := hu_of hr
    refine ⟨_, (pss_cons (ps_set (i := 3) sc.nd rfl (Or.inl rfl) (C8.pe_c c__law_house hr (by decide) rfl (pa_cons (pv 0) (pa_cons (pv 1) (pa_cons (pv 2) pa_nil)))))
      (pss_cons (ps_set (i := 4) sc.nd rfl (Or.inl rfl) (C8.pe_c c__law_letter hr (by decide) rfl (pa_cons (pv 0) (pa_cons (pe_ix ix_tup (pe_dget hu (pe_ix ix_list (pv 3) pe_int (fun _ _ => rfl)) pe_str (fun _ _ => rfl)) pe_int (fun _ _ => rfl)) pa_nil))))
      (pss_cons (ps_dput hu (pe_ix ix_list (pv 3) pe_int (fun _ _ => rfl)) (pe_ix ix_str (pv 2) pe_int (fun _ _ => rfl)) (pe_ix ix_list (pv 4) pe_int (fun _ _ => rfl)) rfl)
      (pss_cons (ps_set (i := 5) sc.nd rfl (Or.inl rfl) (pe_op op_add_str (pe_op op_add_str (pv 1) (pv 2)) pe_str))
      (pss_cons (ps_for PassesOwn.never rfl (pi_range1 rfl G.n_range (pa_cons (C8.pe_c c__law_take hr (by decide) rfl (pa_cons (pv 0) (pa_cons pe_int pa_nil))) pa_nil)) (pg_name (i := 6) sc.nd rfl (Or.inl rfl))
        (pss_cons (ps_set (i := 7) sc.nd rfl (Or.inl rfl) (pe_ix ix_str (pv 5) (C8.pe_c c__law_take hr (by decide) rfl (pa_cons (pv 0) (pa_cons (pe_callB call_len_str rfl G.n_len (by decide +kernel) (pa_cons (pv 5) pa_nil)) pa_nil))) (fun _ _ => rfl)))
        (pss_cons (ps_set (i := 8) sc.nd rfl (Or.inl rfl) (pe_op op_add_str (pv 7) (pe_ix ix_str (pv 5) (C8.pe_c c__law_take hr (by decide) rfl (pa_cons (pv 0) (pa_cons (pe_callB call_len_str rfl G.n_len (by decide +kernel) (pa_cons (pv 5) pa_nil)) pa_nil))) (fun _ _ => rfl))))
        (pss_one (ps_dput hu (pe_ix ix_list (pv 3) pe_int (fun _ _ => rfl)) (pv 8) (C8.pe_c c__law_take hr (by decide) rfl (pa_cons (pv 0) (pa_cons pe_int pa_nil))) rfl)))))
      (pss_one (ps_ret (pv 3)))))))), ?_⟩
    have hz := big
    have hcsl : (SX.S cs).length = cs.length := SX.S_len cs
    have hfsl : (SX.S fs).length = fs.length := SX.S_len fs
    refine ⟨_, rfl, _, rfl, _, rfl, _, _, _, _, rfl, hp, by omega, hc1, hc2, by omega, fun h D A H1 hh hkl hkvl hT hF f1 hp => ?_⟩
    obtain ⟨F0, F1, F2, F3, F4⟩ := hF
    obtain ⟨xs0, hpp⟩ := PoolAt.there (show PoolAt H p n by assumption)
    have hhp : h ≠ p := (ne_of_none hpp F0).symm
    have htp : D.tb ≠ p := (ne_of_none hpp F1).symm
    have hnp : D.nu ≠ p := (ne_of_none hpp F3).symm
    have hprp : D.pr ≠ p := (ne_of_none hpp F4).symm
    obtain ⟨v0, rs0, hv0, hl0, ha1, ha30⟩ := hT.has 48 (List.mem_append_left _ (by decide))
    obtain ⟨t0, o0, rfl, ht0, _⟩ := id hl0
    have hd0 : DGet H1 D.tb (.str "0") (some (.ref t0)) := by
      have := DGet.k (k := Sum.inr (ch 48)) hh.t
      rw [hv0] at this
      exact this
    refine ⟨_, rfl, _, rfl, _, _, _, _, rfl, rfl, SqL.of hh.l, rfl, _, _, rfl, hd0, _, _, _, _, rfl, rfl, SqT.of ht0, rfl, ?_⟩
    refine ⟨_, _, _, rfl, hp, by omega, ha1, ha30, fun l t x rs H2 l0 h_l hlet f2 hp => ?_⟩
    have fr := f1.ts f2
    have hh := hh.k1 f2 hhp htp hnp hprp
    have hT := hT.mono f2.t
    -- house[0][figs[0]] = one[0]
    obtain ⟨c, hc, hcm⟩ := get_of (l := fs) (j := 0) (by omega)
    have hcf := hf2 c hcm
    refine ⟨_, rfl, _, _, _, _, rfl, rfl, SqL.of h_l, rfl, _, rfl, _, _, _, _, rfl, rfl, SqL.of hh.l, rfl, _, rfl, _, _, c, rfl, rfl, (by omega), atI_nat (j := 0) hc, _, _, rfl, DPut.k (k := Sum.inr (ch c)) hh.t (by omega), ?_⟩
    have fr := fr.t1 (Fr.put hh.t (o := .dK (putK D.kvs (Sum.inr (ch c)) (.ref t)))) (.inr F1)
    have hp := hp.keep (Fr.put hh.t (o := .dK (putK D.kvs (Sum.inr (ch c)) (.ref t)))) (by simpa using htp.symm)
    have hT2 := ((hT.put hlet ha1 ha30 (fun _ => rfl) (by omega)).mono (Fr.put hh.t (o := .dK (putK D.kvs (Sum.inr (ch c)) (.ref t)))).t).need (need' := figL ++ 45 :: cs) (fun d => by
      constructor
      · intro hd
        rcases List.mem_append.mp hd with hd | hd
        · exact hd
        · rw [List.mem_singleton.mp hd]; exact List.mem_append_left _ hcf
      · exact fun hd => List.mem_append_left _ hd)
    have hh := hh.putT (putK D.kvs (Sum.inr (ch c)) (.ref t))
    generalize upd H2 D.tb _ = H3 at fr hp hT2 hh
    -- menu
    have e1 : SX.S cs ++ SX.S fs ++ Str.ofString "0-" = SX.S (cs ++ fs ++ [48, 45]) := by
      have : Str.ofString "0-" = SX.S [48, 45] := by decide +kernel
      rw [this, SX.S_cat, SX.S_cat] <;> rfl
    have e2 : (SX.S cs ++ SX.S fs).length = cs.length + fs.length := by rw [SX.S_cat, SX.S_len, List.length_append]
    refine ⟨_, rfl, _, rfl, _, _, rfl, rfl, (by omega), _, _, rfl, rfl, (by show (SX.S cs ++ SX.S fs).length + 2 ≤ sizeLine; omega), ?_⟩
    have ml : (SX.S (cs ++ fs ++ [48, 45])).length = cs.length + fs.length + 2 := by rw [SX.S_len, List.length_append, List.length_append] <;> rfl
    have ml2 : (cs ++ fs ++ [48, 45]).length = cs.length + fs.length + 2 := by rw [List.length_append, List.length_append] <;> rfl
    generalize e3 : cs ++ fs ++ [48, 45] = menu at *
    refine ⟨_, rfl, _, _, _, rfl, hp, (by omega), (by omega), (by omega), fun cnt H4 c0 c1 f4 hp => ⟨_, rfl, by omega, by omega, for_range (n := cnt.toNat) (fun i σ H' => ∃ (kk : List (L2.Key × V)) (sv : V) (v6 v7 v8 : Option V), σ = [some (.ref p), some (.str (SX.S cs)), some (.str (SX.S fs)), some (.ref h), some (.ref l), some sv, v6, v7, v8] ∧ sv = .str (SX.S menu) ∧
      HouseAt H' h { tb := D.tb, en := D.en, gp := D.gp, nu := D.nu, pr := D.pr, kvs := putK D.kvs (Sum.inr (ch c)) (.ref t), kk := kk } ∧ kk.length ≤ 3 + i ∧ TabOk H' (putK D.kvs (Sum.inr (ch c)) (.ref t)) (figL ++ 45 :: cs) (fun d => if d = c then A 48 else A d) ∧ Fr [p] H H' ∧ PoolAt H' p (n - 2050 - 3 * i)) ?_ ?_ ?_⟩⟩
    · exact ⟨D.kk, _, none, none, none, rfl, congrArg V.str e1, hh.k1 f4 hhp htp hnp hprp, by omega, hT2.mono f4.t, fr.ts f4, hp.le (by omega)⟩
    · rintro i σ H5 hi ⟨kk, sv, v6, v7, v8, rfl, rfl, hh, hkl, hT, fr, hp⟩
      refine ⟨_, rfl, _, rfl, _, rfl, _, rfl, (by omega), _, _, _, rfl, hp, (by omega), (by omega), (by omega), fun r6 H6 r60 r61 f6 hp => ?_⟩
      obtain ⟨j6, rfl⟩ := nat_of r60
      obtain ⟨c6, hc6, _⟩ := get_of (l := menu) (j := j6) (by omega)
      refine ⟨_, _, c6, rfl, rfl, (by omega), atI_nat hc6, ?_⟩
      refine ⟨_, rfl, _, rfl, _, rfl, _, rfl, _, rfl, (by omega), _, _, _, rfl, hp, (by omega), (by omega), (by omega), fun r7 H7 r70 r71 f7 hp => ?_⟩
      obtain ⟨j7, rfl⟩ := nat_of r70
      obtain ⟨c7, hc7, _⟩ := get_of (l := menu) (j := j7) (by omega)
      refine ⟨_, _, c7, rfl, rfl, (by omega), atI_nat hc7, _, _, rfl, rfl, (by show 1 + 1 ≤ sizeLine; omega), ?_⟩
      refine ⟨_, rfl, _, _, _, rfl, hp, (by omega), (by omega), (by omega), fun r8 H8 r80 r81 f8 hp => ?_⟩
      have f68 : Fr [p] H5 H8 := (f6.ts f7).ts f8
      have hh := hh.k1 f68 hhp htp hnp hprp
      refine ⟨_, rfl, _, _, _, _, rfl, rfl, SqL.of hh.l, rfl, _, rfl, _, _, rfl, DPut.k (k := Sum.inr (ch c6 ++ ch c7)) hh.p (by show kk.length < sizeLine; omega), ?_⟩
      have q := hh.putP (putK kk (Sum.inr (ch c6 ++ ch c7)) (.int r8)) (hh.k.put _ _) (Nat.le_trans (length_putK _ _ _) (by omega))
      exact ⟨_, _, _, _, _, rfl, rfl, q, Nat.le_trans (length_putK _ _ _) (by omega), (hT.mono f68.t).mono (Fr.put hh.p).t, (fr.ts f68).t1 (Fr.put hh.p) (.inr F4), (hp.keep (Fr.put hh.p) (by simpa using hprp.symm)).le (by omega)⟩
    · rintro σ H5 ⟨kk, sv, v6, v7, v8, rfl, rfl, hh, hkl, hT, fr, hp⟩
      exact ⟨_, rfl, k h _ _ H5 hh hT ⟨F0, F1, F2, F3, F4⟩ fr (hp.le (by omega))⟩
end

end K45

set_option maxHeartbeats 4000000
namespace K45
open PySem PySem.Spec PyProof.Rows L2
/-! ### the classes -/
def inClass (st : Stmt) (i : Nat) : Stmt := (C8.clsBody st).getD i (.Pass ⟨0, 0, 0, 0⟩)
structure Ct (K : PySem.W.Frag) (mg : Str → Option Value) (CS CI CF : Addr) : Prop where
  cS : Cls K CS
  cI : Cls K CI
  cF : Cls K CF
  s1 : NoAttr K CS "advances"
  s2 : NoAttr K CS "amounts"
  s3 : NoAttr K CS "hyphens"
  s4 : NoAttr K CS "space_table"
  i1 : NoAttr K CI "cell_list"
  i2 : NoAttr K CI "known_cells"
  i3 : NoAttr K CI "left_ends"
  i4 : NoAttr K CI "right_ends"
  f1 : NoAttr K CF "inks"
  f2 : NoAttr K CF "char_list"
  f3 : NoAttr K CF "letter_table"
  f4 : NoAttr K CF "left_ends"
  f5 : NoAttr K CF "right_ends"
  f6 : NoAttr K CF "space_numbers"
  f7 : NoAttr K CF "want"
  f8 : NoAttr K CF "most"
  f9 : NoAttr K CF "kern_table"
  req : ∃ u, Con K CF "REQUIRED" (.str "0123456789-") u
/-- an __init__ -/
structure Di (K : PySem.W.Frag) (mg : Str → Option Value) (x qual : Str) (C : Addr) (st : Stmt) : Prop where
  ex : ∃ (f : Addr) (fd : FuncData), FunD K "__init__" qual (defArgs st) (defBody st) (defScope st) [] [] f fd ∧ Mk K C f ∧ mg x = some (.ref C)
/-- a method -/
structure Dm (K : PySem.W.Frag) (C : Addr) (m qual : Str) (st : Stmt) : Prop where
  ex : ∃ (f : Addr) (fd : FuncData), FunD K m qual (defArgs st) (defBody st) (defScope st) [] [] f fd ∧ Cls K C ∧ Meth K C m f
section
variable {P : Program} {w : World} {K : PySem.W.Frag} {mg : Str → Option Value} {base : Heap}
theorem mak_by {x qual : Str} {C : Addr} {st : Stmt} {N ps : List Str} {k : Nat} {sp : Sp} (F : Di K mg x qual C st) (S : FnScope N ps (defScope st))
    (b : ∀ (kV doc pm : Value) (an : Option Addr) (cdv ct : Value) (us : List Value), us.length = ps.length → bindArgs (PySem.W.fnOf "__init__" qual (defArgs st) (defBody st) (defScope st) .none kV doc pm an cdv ct) ⟨us, []⟩ = pure (ps.zip us))
    (len : ∀ vs H Q E, sp vs H Q E → vs.length = ps.length)
    (hbody : ∀ (f : Addr) (cdv : Value) (A : Around) (outer : List Env) (s : Shared) (H : Hp) (vs : List V) (Q : VK) (E : XK), Room k (A.deeper (envOfC qual (defScope st) s.heap.objs.size f cdv)) → sp vs H Q E →
      ∃ t, PSs (cxOf C8.CX0 P w K mg base N qual (defScope st) f cdv A outer s H E).nox (defBody st) t ∧ t { nx := fun _ H' => Q .non H', rt := Q } (start N vs) H) : C8.Mak P w K mg base (k + 1) x C sp [] := by
  obtain ⟨f, fd, F, M, hm⟩ := F.ex
  refine ⟨f, fd, ps, [], M, F.ok S len (fun cdv A outer s H vs Q E hr hsp => ?_), hm, F.bindsN b, .nil⟩
  obtain ⟨t, h, q⟩ := hbody f cdv A outer s H vs Q E hr hsp
  exact ⟨t, h.nox, q⟩
theorem met_by {m qual : Str} {C : Addr} {st : Stmt} {N ps : List Str} {k : Nat} {sp : Sp} (F : Dm K C m qual st) (S : FnScope N ps (defScope st))
    (b : ∀ (kV doc pm : Value) (an : Option Addr) (cdv ct : Value) (us : List Value), us.length = ps.length → bindArgs (PySem.W.fnOf m qual (defArgs st) (defBody st) (defScope st) .none kV doc pm an cdv ct) ⟨us, []⟩ = pure (ps.zip us))
    (len : ∀ vs H Q E, sp vs H Q E → vs.length = ps.length)
    (hbody : ∀ (f : Addr) (cdv : Value) (A : Around) (outer : List Env) (s : Shared) (H : Hp) (vs : List V) (Q : VK) (E : XK), Room k (A.deeper (envOfC qual (defScope st) s.heap.objs.size f cdv)) → sp vs H Q E →
      ∃ t, PSs (cxOf C8.CX0 P w K mg base N qual (defScope st) f cdv A outer s H E).nox (defBody st) t ∧ t { nx := fun _ H' => Q .non H', rt := Q } (start N vs) H) : C8.Met P w K mg base (k + 1) C m sp [] := by
  obtain ⟨f, fd, F, c, M⟩ := F.ex
  refine ⟨f, fd, ps, [], c, M, F.ok S len (fun cdv A outer s H vs Q E hr hsp => ?_), F.bindsN b, .nil⟩
  obtain ⟨t, h, q⟩ := hbody f cdv A outer s H vs Q E hr hsp
  exact ⟨t, h.nox, q⟩
/-- a property -/
structure Prp (P : Program) (w : World) (K : PySem.W.Frag) (mg : Str → Option Value) (base : Heap) (k : Nat) (C : Addr) (x : Str) (sp : Sp) : Prop where
  ex : ∃ (p g : Addr) (fd : FuncData) (ps : List Str) (ds : List Value), Cls K C ∧ PropOf K C x p g ∧ FnOk P w K mg base C8.CX0 k g fd ps sp ∧ Binds K fd ps ds ∧ Vals [] ds
/-- its getter -/
structure Dp1 (K : PySem.W.Frag) (C : Addr) (m qual : Str) (st : Stmt) : Prop where
  ex : ∃ (p f : Addr) (fd : FuncData), FunD K m qual (defArgs st) (defBody st) (defScope st) [] [] f fd ∧ Cls K C ∧ PropOf K C m p f
theorem prp_by {m qual : Str} {C : Addr} {st : Stmt} {N ps : List Str} {k : Nat} {sp : Sp} (F : Dp1 K C m qual st) (S : FnScope N ps (defScope st))
    (b : ∀ (kV doc pm : Value) (an : Option Addr) (cdv ct : Value) (us : List Value), us.length = ps.length → bindArgs (PySem.W.fnOf m qual (defArgs st) (defBody st) (defScope st) .none kV doc pm an cdv ct) ⟨us, []⟩ = pure (ps.zip us))
    (len : ∀ vs H Q E, sp vs H Q E → vs.length = ps.length)
    (hbody : ∀ (f : Addr) (cdv : Value) (A : Around) (outer : List Env) (s : Shared) (H : Hp) (vs : List V) (Q : VK) (E : XK), Room k (A.deeper (envOfC qual (defScope st) s.heap.objs.size f cdv)) → sp vs H Q E →
      ∃ t, PSs (cxOf C8.CX0 P w K mg base N qual (defScope st) f cdv A outer s H E).nox (defBody st) t ∧ t { nx := fun _ H' => Q .non H', rt := Q } (start N vs) H) : Prp P w K mg base (k + 1) C m sp := by
  obtain ⟨p, f, fd, F, c, M⟩ := F.ex
  refine ⟨p, f, fd, ps, [], c, M, F.ok S len (fun cdv A outer s H vs Q E hr hsp => ?_), F.bindsN b, .nil⟩
  obtain ⟨t, h, q⟩ := hbody f cdv A outer s H vs Q E hr hsp
  exact ⟨t, h.nox, q⟩
theorem pe_prp {X : Cx} {k j : Nat} {C : Addr} {x : Str} {sp : Sp} {e : Expr} {pos : Pos} {ta : TE} (c : Prp X.prog X.w X.K X.mg X.base k C x sp) (hr : Room j X.A) (hk : k + 1 ≤ j) (he : PE X e ta)
    (hab : attributeBase e x X.env (eval e X.env) = eval e X.env) : PE X (.Attribute e x pos) (tProp C sp [] C8.E0 ta) := by
  obtain ⟨p, g, fd, ps, ds, hc, hp, F, b, d⟩ := c.ex
  exact pe_prop he hc hp F (hr.mono hk) b d C8.pass0 hab
/-- the maker of a face: two values and four by name -/
structure MakF (P : Program) (w : World) (K : PySem.W.Frag) (mg : Str → Option Value) (base : Heap) (k : Nat) (C : Addr) (sp : Sp) : Prop where
  ex : ∃ (f : Addr) (fd : FuncData) (ps : List Str) (g : List Value → List Value → List Value), Mk K C f ∧ FnOk P w K mg base C8.CX0 k f fd ps sp ∧ mg "Face" = some (.ref C) ∧ KBn K fd ps 2 ["space", "want", "most", "kerns"] g (fun vs zs => vs ++ zs)
structure DiF (K : PySem.W.Frag) (mg : Str → Option Value) (C : Addr) (st : Stmt) : Prop where
  ex : ∃ (f : Addr) (fd : FuncData), FunD K "__init__" "Face.__init__" (defArgs st) (defBody st) (defScope st) [] [("want", .int 1)] f fd ∧ Mk K C f ∧ mg "Face" = some (.ref C)
theorem makF_by {C : Addr} {st : Stmt} {N ps : List Str} {k : Nat} {sp : Sp} (F : DiF K mg C st) (S : FnScope N ps (defScope st))
    (b : ∀ (D : Addr) (doc pm : Value) (an : Option Addr) (cdv ct : Value) (us ws : List Value), us.length = 2 → ws.length = 4 → bindArgs (PySem.W.fnOf "__init__" "Face.__init__" (defArgs st) (defBody st) (defScope st) .none (.ref D) doc pm an cdv ct) ⟨us, (["space", "want", "most", "kerns"] : List Str).zip ws⟩ = pure (ps.zip (us ++ ws)))
    (len : ∀ vs H Q E, sp vs H Q E → vs.length = ps.length)
    (hbody : ∀ (f : Addr) (cdv : Value) (A : Around) (outer : List Env) (s : Shared) (H : Hp) (vs : List V) (Q : VK) (E : XK), Room k (A.deeper (envOfC "Face.__init__" (defScope st) s.heap.objs.size f cdv)) → sp vs H Q E →
      ∃ t, PSs (cxOf C8.CX0 P w K mg base N "Face.__init__" (defScope st) f cdv A outer s H E).nox (defBody st) t ∧ t { nx := fun _ H' => Q .non H', rt := Q } (start N vs) H) : MakF P w K mg base (k + 1) C sp := by
  obtain ⟨f, fd, F, M, hm⟩ := F.ex
  obtain ⟨mv, hb⟩ := F.kbinds0 2 ["space", "want", "most", "kerns"] [] (fun us mv ws => us ++ ws) (by simp) (fun q hq => by cases hq) (fun r1 r2 r3 => r1.append r3) (fun D doc pm an cdv ct us mv ws h1 _ h3 => b D doc pm an cdv ct us ws h1 h3)
  refine ⟨f, fd, ps, _, M, F.ok S len (fun cdv A outer s H vs Q E hr hsp => ?_), hm, hb⟩
  obtain ⟨t, h, q⟩ := hbody f cdv A outer s H vs Q E hr hsp
  exact ⟨t, h.nox, q⟩
end
/-- a tuple as the target of a comprehension -/
theorem pg_tupB {X : Cx} {s : Shared} {H : Hp} {scope : Scope} {cenv : Env} {fp : List Addr} {es : List Expr} {k : Nat} {t : TGs} {n : Nat} {pos : Pos} (hc : X.calm = true) (h : PGs (X.blk s H scope cenv fp) es t)
    (hn : (assignEach es cenv).length = n) (hst : (assignEach es cenv).findIdx? (·.1) = none) : PG (X.blk s H scope cenv fp) (.Tuple es k pos) (gTup X.K n t) := pg_tup hc h hn hst
section
variable {X : Cx} {s : Shared} {H : Hp} {scope : Scope} {cenv : Env} {fp : List Addr}
/-! rules within a comprehension -/
theorem ix_tupB : IxR (X.blk s H scope cenv fp) (rIxT X.K) := ix_tup
theorem ix_listB : IxR (X.blk s H scope cenv fp) (rIxL X.K) := ix_list
theorem sl_tupB : SlR (X.blk s H scope cenv fp) (rSlT X.K) := sl_tup
theorem call_tuple_ofB : CallR (X.blk s H scope cenv fp) (.type "tuple") (fun xs H Q => ∃ p ys, xs = [.ref p] ∧ ((SqL X.K H p ys ∧ ∀ l, H l = none → Q (.ref l) (upd H l (.tup ys))) ∨ (SqT X.K H p ys ∧ Q (.ref p) H))) := call_tuple_of
end

end K45

set_option maxHeartbeats 4000000
namespace K45
open PySem PySem.Spec PyProof.Rows L2
def dd_0 : He.DefD := ⟨("_law_take", none), "_law_take", "_law_take", defArgs (top 39), defBody (top 39), defScope (top 39), [], []⟩
def dd_1 : He.DefD := ⟨("_law_pool", none), "_law_pool", "_law_pool", defArgs (top 38), defBody (top 38), defScope (top 38), [], []⟩
def dd_2 : He.DefD := ⟨("_law_chars", none), "_law_chars", "_law_chars", defArgs (top 41), defBody (top 41), defScope (top 41), [], []⟩
def dd_3 : He.DefD := ⟨("_law_letter", none), "_law_letter", "_law_letter", defArgs (top 42), defBody (top 42), defScope (top 42), [], []⟩
def dd_4 : He.DefD := ⟨("_law_pairs", none), "_law_pairs", "_law_pairs", defArgs (top 43), defBody (top 43), defScope (top 43), [], []⟩
def dd_5 : He.DefD := ⟨("_law_house", none), "_law_house", "_law_house", defArgs (top 44), defBody (top 44), defScope (top 44), [], []⟩
def dd_6 : He.DefD := ⟨("_law_figure_house", none), "_law_figure_house", "_law_figure_house", defArgs (top 45), defBody (top 45), defScope (top 45), [], []⟩
def dd_7 : He.DefD := ⟨("_law_face", none), "_law_face", "_law_face", defArgs (top 46), defBody (top 46), defScope (top 46), [], []⟩
def dd_8 : He.DefD := ⟨("_law_known", none), "_law_known", "_law_known", defArgs (top 47), defBody (top 47), defScope (top 47), [], []⟩
def dd_9 : He.DefD := ⟨("_law_glyph", none), "_law_glyph", "_law_glyph", defArgs (top 48), defBody (top 48), defScope (top 48), [], []⟩
def dd_10 : He.DefD := ⟨("_law_text_run", none), "_law_text_run", "_law_text_run", defArgs (top 49), defBody (top 49), defScope (top 49), [], []⟩
def dd_11 : He.DefD := ⟨("_law_ref_runs", none), "_law_ref_runs", "_law_ref_runs", defArgs (top 50), defBody (top 50), defScope (top 50), [], []⟩
def dd_12 : He.DefD := ⟨("_law_word_text", none), "_law_word_text", "_law_word_text", defArgs (top 51), defBody (top 51), defScope (top 51), [], []⟩
def dd_13 : He.DefD := ⟨("_law_two_shown", none), "_law_two_shown", "_law_two_shown", defArgs (top 52), defBody (top 52), defScope (top 52), [], []⟩
def dd_14 : He.DefD := ⟨("_law_resolved", none), "_law_resolved", "_law_resolved", defArgs (top 53), defBody (top 53), defScope (top 53), [], []⟩
def dd_15 : He.DefD := ⟨("_law_cells", none), "_law_cells", "_law_cells", defArgs (top 54), defBody (top 54), defScope (top 54), [], []⟩
def dd_16 : He.DefD := ⟨("_law_whole", none), "_law_whole", "_law_whole", defArgs (top 55), defBody (top 55), defScope (top 55), [], []⟩
def dd_17 : He.DefD := ⟨("_law_letters_once", none), "_law_letters_once", "_law_letters_once", defArgs (top 56), defBody (top 56), defScope (top 56), [], []⟩
def dd_18 : He.DefD := ⟨("_law_joint_stands", none), "_law_joint_stands", "_law_joint_stands", defArgs (top 57), defBody (top 57), defScope (top 57), [], []⟩
def dd_19 : He.DefD := ⟨("_law_box_stands", none), "_law_box_stands", "_law_box_stands", defArgs (top 58), defBody (top 58), defScope (top 58), [], []⟩
def dd_20 : He.DefD := ⟨("_law_figures_stand", none), "_law_figures_stand", "_law_figures_stand", defArgs (top 59), defBody (top 59), defScope (top 59), [], []⟩
def dd_21 : He.DefD := ⟨("_law_masked", none), "_law_masked", "_law_masked", defArgs (top 60), defBody (top 60), defScope (top 60), [], []⟩
def dd_22 : He.DefD := ⟨("_law_same", none), "_law_same", "_law_same", defArgs (top 40), defBody (top 40), defScope (top 40), [], []⟩
def dd_23 : He.DefD := ⟨("law", none), "law", "law", defArgs (top 61), defBody (top 61), defScope (top 61), [], []⟩
def dd_24 : He.DefD := ⟨("words_of", none), "words_of", "words_of", defArgs (top 2), defBody (top 2), defScope (top 2), [], []⟩
def dd_25 : He.DefD := ⟨("word_measures", none), "word_measures", "word_measures", defArgs (top 3), defBody (top 3), defScope (top 3), [], []⟩
def dd_26 : He.DefD := ⟨("measures_of", none), "measures_of", "measures_of", defArgs (top 4), defBody (top 4), defScope (top 4), [], []⟩
def dd_27 : He.DefD := ⟨("placed_letters", none), "placed_letters", "placed_letters", defArgs (top 7), defBody (top 7), defScope (top 7), [], []⟩
def dd_28 : He.DefD := ⟨("joints_of", none), "joints_of", "joints_of", defArgs (top 8), defBody (top 8), defScope (top 8), [], []⟩
def dd_29 : He.DefD := ⟨("marks_of", none), "marks_of", "marks_of", defArgs (top 9), defBody (top 9), defScope (top 9), [], []⟩
def dd_30 : He.DefD := ⟨("shape", none), "shape", "shape", defArgs (top 10), defBody (top 10), defScope (top 10), [], []⟩
def dd_31 : He.DefD := ⟨("bare", none), "bare", "bare", defArgs (top 11), defBody (top 11), defScope (top 11), [], []⟩
def dd_32 : He.DefD := ⟨("sign", none), "sign", "sign", defArgs (top 20), defBody (top 20), defScope (top 20), [], []⟩
def dd_33 : He.DefD := ⟨("line_steps", none), "line_steps", "line_steps", defArgs (top 21), defBody (top 21), defScope (top 21), [], []⟩
def dd_34 : He.DefD := ⟨("unit_steps", none), "unit_steps", "unit_steps", defArgs (top 24), defBody (top 24), defScope (top 24), [], []⟩
def dd_35 : He.DefD := ⟨("corners", none), "corners", "corners", defArgs (top 25), defBody (top 25), defScope (top 25), [], []⟩
def dd_36 : He.DefD := ⟨("crossings_of", none), "crossings_of", "crossings_of", defArgs (top 28), defBody (top 28), defScope (top 28), [], []⟩
def dd_37 : He.DefD := ⟨("ink_of", none), "ink_of", "ink_of", defArgs (top 29), defBody (top 29), defScope (top 29), [], []⟩
def dd_38 : He.DefD := ⟨("check_letters", none), "check_letters", "check_letters", defArgs (top 33), defBody (top 33), defScope (top 33), [], []⟩
def dd_39 : He.DefD := ⟨("inks_of", none), "inks_of", "inks_of", defArgs (top 34), defBody (top 34), defScope (top 34), [], []⟩
def dd_40 : He.DefD := ⟨("row_ends", none), "row_ends", "row_ends", defArgs (top 35), defBody (top 35), defScope (top 35), [], []⟩
def dd_41 : He.DefD := ⟨("Scale", some "__init__"), "__init__", "Scale.__init__", defArgs (inClass (top 6) 0), defBody (inClass (top 6) 0), defScope (inClass (top 6) 0), [], []⟩
def dd_42 : He.DefD := ⟨("Scale", some "letter_width"), "letter_width", "Scale.letter_width", defArgs (inClass (top 6) 1), defBody (inClass (top 6) 1), defScope (inClass (top 6) 1), [], []⟩
def dd_43 : He.DefD := ⟨("Scale", some "overlap"), "overlap", "Scale.overlap", defArgs (inClass (top 6) 2), defBody (inClass (top 6) 2), defScope (inClass (top 6) 2), [], []⟩
def dd_44 : He.DefD := ⟨("Scale", some "hyphen_joint"), "hyphen_joint", "Scale.hyphen_joint", defArgs (inClass (top 6) 3), defBody (inClass (top 6) 3), defScope (inClass (top 6) 3), [], []⟩
def dd_45 : He.DefD := ⟨("Scale", some "gap_joint"), "gap_joint", "Scale.gap_joint", defArgs (inClass (top 6) 4), defBody (inClass (top 6) 4), defScope (inClass (top 6) 4), [], []⟩
def dd_46 : He.DefD := ⟨("Ink", some "__init__"), "__init__", "Ink.__init__", defArgs (inClass (top 27) 0), defBody (inClass (top 27) 0), defScope (inClass (top 27) 0), [], []⟩
def dd_47 : He.DefD := ⟨("Ink", some "spans"), "spans", "Ink.spans", defArgs (inClass (top 27) 4), defBody (inClass (top 27) 4), defScope (inClass (top 27) 4), [], []⟩
def dd_48 : He.DefD := ⟨("Face", some "__init__"), "__init__", "Face.__init__", defArgs (inClass (top 36) 1), defBody (inClass (top 36) 1), defScope (inClass (top 36) 1), [], [("want", .int 1)]⟩
def dd_49 : He.DefD := ⟨("Face", some "advance"), "advance", "Face.advance", defArgs (inClass (top 36) 6), defBody (inClass (top 36) 6), defScope (inClass (top 36) 6), [], []⟩
def dd_50 : He.DefD := ⟨("Face", some "closest_gap"), "closest_gap", "Face.closest_gap", defArgs (inClass (top 36) 8), defBody (inClass (top 36) 8), defScope (inClass (top 36) 8), [], []⟩
def dd_51 : He.DefD := ⟨("Face", some "wanted_amount"), "wanted_amount", "Face.wanted_amount", defArgs (inClass (top 36) 9), defBody (inClass (top 36) 9), defScope (inClass (top 36) 9), [], []⟩
def dd_52 : He.DefD := ⟨("Face", some "nearer"), "nearer", "Face.nearer", defArgs (inClass (top 36) 10), defBody (inClass (top 36) 10), defScope (inClass (top 36) 10), [], []⟩
def hfn : List He.DefD := [dd_0, dd_1, dd_2, dd_3, dd_4, dd_5, dd_6, dd_7, dd_8, dd_9, dd_10, dd_11, dd_12, dd_13, dd_14, dd_15, dd_16, dd_17, dd_18, dd_19, dd_20, dd_21, dd_22, dd_23, dd_24, dd_25, dd_26, dd_27, dd_28, dd_29, dd_30, dd_31, dd_32, dd_33, dd_34, dd_35, dd_36, dd_37, dd_38, dd_39, dd_40, dd_41, dd_42, dd_43, dd_44, dd_45, dd_46, dd_47, dd_48, dd_49, dd_50, dd_51, dd_52]
def hfa : List He.Fa := [.glo "_law_take", .glo "_law_pool", .glo "_law_chars", .glo "_law_letter", .glo "_law_pairs", .glo "_law_house", .glo "_law_figure_house", .glo "_law_face", .glo "_law_known", .glo "_law_glyph", .glo "_law_text_run", .glo "_law_ref_runs", .glo "_law_word_text", .glo "_law_two_shown", .glo "_law_resolved", .glo "_law_cells", .glo "_law_whole", .glo "_law_letters_once", .glo "_law_joint_stands", .glo "_law_box_stands", .glo "_law_figures_stand", .glo "_law_masked", .glo "_law_same", .glo "law", .glo "words_of", .glo "word_measures", .glo "measures_of", .glo "placed_letters", .glo "joints_of", .glo "marks_of", .glo "shape", .glo "bare", .glo "sign", .glo "line_steps", .glo "unit_steps", .glo "corners", .glo "crossings_of", .glo "ink_of", .glo "check_letters", .glo "inks_of", .glo "row_ends", .glo "Scale", .glo "Ink", .glo "Face", .free "len", .free "int", .free "abs", .free "range", .free "sorted", .free "list", .free "tuple", .free "dict", .free "min", .free "max", .free "zip", .free "enumerate", .free "isinstance", .free "bool", .free "str", .str "FIGURES" "0123456789", .cls "Scale", .cls "Ink", .cls "Face", .mkr "Scale", .mkr "Ink", .mkr "Face", .meth "Scale" "letter_width", .meth "Scale" "overlap", .meth "Scale" "hyphen_joint", .meth "Scale" "gap_joint", .meth "Ink" "spans", .meth "Face" "advance", .meth "Face" "closest_gap", .meth "Face" "wanted_amount", .meth "Face" "nearer", .noat "Scale" "advances", .noat "Scale" "amounts", .noat "Scale" "hyphens", .noat "Scale" "space_table", .noat "Ink" "cell_list", .noat "Ink" "known_cells", .noat "Ink" "left_ends", .noat "Ink" "right_ends", .noat "Face" "inks", .noat "Face" "char_list", .noat "Face" "letter_table", .noat "Face" "left_ends", .noat "Face" "right_ends", .noat "Face" "space_numbers", .noat "Face" "want", .noat "Face" "most", .noat "Face" "kern_table"]
def dSp : He.DefD := ⟨("Face", some "space"), "space", "Face.space", defArgs (inClass (top 36) 5), defBody (inClass (top 36) 5), defScope (inClass (top 36) 5), [], []⟩
/-- the property and its getter -/
def prA (K : PySem.W.Frag) : Addr := He.ma K (He.ga K "Face") "space"
def gtA (K : PySem.W.Frag) : Addr := match PySem.W.recIn K (prA K) "property" with
  | some (.ref g :: _) => g
  | _ => 0
def prB (K : PySem.W.Frag) : Bool := He.eqO (PySem.W.findIn K (.ref (He.ga K "Face")) "space") (some (some (.ref (prA K)))) && (He.eqO (PySem.W.specialIn K (.ref (prA K)) "__get__") (some (some (.builtin "property.__get__"))) && (decide (PySem.W.takesIn K (.ref (prA K)) = some true) && (match PySem.W.recIn K (prA K) "property" with
  | some (.ref _ :: _) => true
  | _ => false)))
def atW (K : PySem.W.Frag) (a : Addr) : He.FnW := match K.lookup a with
  | some ⟨_, _, .func fd, _⟩ => some (fd.name, fd.qualname, fd.params, fd.body, fd.scope, fd.globals, fd.closure, fd.builtins)
  | _ => none
def atB (K : PySem.W.Frag) (a : Addr) (q : Str) : Bool := PySem.W.keepIn K (.ref a) && (match K.lookup a with
  | some ⟨_, _, .func fd, _⟩ => PySem.W.codeIn K fd.code q && (He.dflB K fd.defaults [] && He.kwdB K fd.kwdefaults [])
  | _ => false)
abbrev AlS : Type := He.AlD × Bool × He.FnW
def obsS (K : PySem.W.Frag) : AlS := (He.obsD hfa hfn K, He.conB K "Face" "REQUIRED" (.str "0123456789-") && (prB K && atB K (gtA K) "Face.space"), atW K (gtA K))
def valS : AlS := (He.valD hfn, true, dSp.val)
/-- what the program names within n steps; each object is opened once -/
def bfsA (g : Addr → Option Obj) : Nat → List Addr → List Addr → List Addr
  | 0, seen, fr => seen ++ fr
  | n + 1, seen, fr => bfsA g n (seen ++ fr) (((fr.flatMap fun a => match g a with
    | some o => He.refsD o
    | none => []).eraseDups).filter fun a => !(seen ++ fr).contains a)
def asB (g : Addr → Option Obj) : List Addr := bfsA g 6 [] [mainGlobals]
def obsSG (g : Addr → Option Obj) : AlS := obsS (He.frG g (asB g))
abbrev hkS : PySem.W.Hook where
  α := AlS
  obs := fun s => obsSG s.heap.get?
  val := fun _ => valS
  says := fun _ h => ∃ K : PySem.W.Frag, K.In h ∧ obsS K = valS
  of := fun _ _ e => ⟨_, He.frG_in, e⟩
  keeps := fun _ _ _ ⟨K, hK, c⟩ k => ⟨K, PySem.W.Frag.In.keeps hK k, c⟩
def obS (s : PySem.W.SharedT) : AlS := obsSG (HandSHeadRun.getT s)
theorem obS_eq (s : PySem.W.SharedT) : obS s = hkS.obs s.abs := by
  have e : HandSHeadRun.getT s = s.abs.heap.get? := funext (HandSHeadRun.getT_eq s)
  unfold obS
  rw [e]
abbrev RR45 : PySem.W.OpenRow := PySem.W.OpenLaw.row PySem.Challenge.rw_stylepages_k45_whole_figures_do_not_move
def loose1 : List PySem.Str := ["_wall", "words_of", "word_measures", "measures_of", "Scale", "placed_letters", "joints_of", "marks_of", "shape", "bare", "StyleError", "UnevenFigures", "OpenOutline", "MissingLetter", "BadLetter", "NoLetter", "sign", "line_steps", "takes_first_move", "arc_steps", "unit_steps", "corners", "Ink", "crossings_of", "ink_of", "TEXT_CHARACTERS", "FIGURES", "check_letters", "inks_of", "row_ends", "Face"]
def loose2 : List PySem.Str := ["_law_pool", "_law_take", "_law_same", "_law_chars", "_law_letter", "_law_pairs", "_law_house", "_law_figure_house", "_law_face", "_law_known", "_law_glyph", "_law_text_run", "_law_ref_runs", "_law_word_text", "_law_two_shown", "_law_resolved", "_law_cells", "_law_whole", "_law_letters_once", "_law_joint_stands", "_law_box_stands", "_law_figures_stand", "_law_masked"]
abbrev loose : List PySem.Str := loose1 ++ loose2

end K45

set_option maxHeartbeats 4000000
namespace K45
open PySem PySem.Spec PyProof.Rows L2
def hfaA : List He.Fa := hfa.take 58
def hfaB : List He.Fa := hfa.drop 58
def fKK (s : PySem.W.SharedT) : PySem.W.Frag := He.frG (HandSHeadRun.getT s) (asB (HandSHeadRun.getT s))
theorem obS_of {s : PySem.W.SharedT} (a : (hfaA.all fun f => f.ok (fKK s)) = true) (b : (hfaB.all fun f => f.ok (fKK s)) = true) (c : (hfn.all fun d => d.ok (fKK s)) = true) (d : (hfn.map fun d => He.fnW (fKK s) d.at_) = hfn.map He.DefD.val) (e : (He.conB (fKK s) "Face" "REQUIRED" (.str "0123456789-") && (prB (fKK s) && atB (fKK s) (gtA (fKK s)) "Face.space"), atW (fKK s) (gtA (fKK s))) = (true, dSp.val)) : obS s = valS := by
  have l : hfa = hfaA ++ hfaB := (List.take_append_drop 58 hfa).symm
  injection e with e1 e2
  show (((hfa.all fun f => f.ok (fKK s)) && hfn.all fun d => d.ok (fKK s), hfn.map fun d => He.fnW (fKK s) d.at_), He.conB (fKK s) "Face" "REQUIRED" (.str "0123456789-") && (prB (fKK s) && atB (fKK s) (gtA (fKK s)) "Face.space"), atW (fKK s) (gtA (fKK s))) = ((true, hfn.map He.DefD.val), true, dSp.val)
  rw [l, List.all_append, a, b, c, d, e1, e2] <;> rfl
theorem map5 {S A B C D E : Type} {x : Option S} {a : S → A} {b : S → B} {c : S → C} {d : S → D} {e : S → E} {ya : A} {yb : B} {yc : C} {yd : D} {ye : E} {F : Type} {f : S → F} {yf : F} (h1 : x.map a = some ya) (h2 : x.map b = some yb) (h3 : x.map c = some yc) (h4 : x.map d = some yd) (h5 : x.map e = some ye) (h : ∀ s, a s = ya → b s = yb → c s = yc → d s = yd → e s = ye → f s = yf) : x.map f = some yf := by
  cases x with
  | none => cases h1
  | some s =>
    injection h1 with h1
    injection h2 with h2
    injection h3 with h3
    injection h4 with h4
    injection h5 with h5
    exact congrArg some (h s h1 h2 h3 h4 h5)
set_option maxHeartbeats 0
open HandSHeadRun PySem.W in
theorem run3A (w : World) : ∀ os : OsState, (endF (stepQ (denQ tabQ) RR45.prog w) 9000 RR45.prog w os).map (fun s => hfaA.all fun f => f.ok (fKK s)) = some (true) := by
  intro os
  kernel_rfl
open HandSHeadRun PySem.W in
theorem run3B (w : World) : ∀ os : OsState, (endF (stepQ (denQ tabQ) RR45.prog w) 9000 RR45.prog w os).map (fun s => hfaB.all fun f => f.ok (fKK s)) = some (true) := by
  intro os
  kernel_rfl
open HandSHeadRun PySem.W in
theorem run3C (w : World) : ∀ os : OsState, (endF (stepQ (denQ tabQ) RR45.prog w) 9000 RR45.prog w os).map (fun s => hfn.all fun d => d.ok (fKK s)) = some (true) := by
  intro os
  kernel_rfl
open HandSHeadRun PySem.W in
theorem run3D (w : World) : ∀ os : OsState, (endF (stepQ (denQ tabQ) RR45.prog w) 9000 RR45.prog w os).map (fun s => hfn.map fun d => He.fnW (fKK s) d.at_) = some (hfn.map He.DefD.val) := by
  intro os
  kernel_rfl
open HandSHeadRun PySem.W in
theorem run3E (w : World) : ∀ os : OsState, (endF (stepQ (denQ tabQ) RR45.prog w) 9000 RR45.prog w os).map (fun s => (He.conB (fKK s) "Face" "REQUIRED" (.str "0123456789-") && (prB (fKK s) && atB (fKK s) (gtA (fKK s)) "Face.space"), atW (fKK s) (gtA (fKK s)))) = some ((true, dSp.val)) := by
  intro os
  kernel_rfl
open HandSHeadRun PySem.W in
theorem run3 (w : World) : ∀ os : OsState, (endF (stepQ (denQ tabQ) RR45.prog w) 9000 RR45.prog w os).map (fun s => obS s) = some (hkS.val w) := by
  intro os
  exact map5 (run3A w os) (run3B w os) (run3C w os) (run3D w os) (run3E w os) fun _ a b c d e => obS_of a b c d e

end K45

set_option maxHeartbeats 4000000
namespace K45
open PySem PySem.Spec PyProof.Rows L2
set_option maxHeartbeats 0
open HandSHeadRun PySem.W in
theorem run1 (w : World) : ∀ os : OsState, (endF (stepQ (denQ tabQ) RR45.prog w) 9000 RR45.prog w os).map (fun s => (looksF RR45.prog (boot_heap w.params) s.abs)) = some true := by
  intro os
  kernel_rfl


end K45

set_option maxHeartbeats 4000000
namespace K45
open PySem PySem.Spec PyProof.Rows L2
set_option maxHeartbeats 0
open HandSHeadRun PySem.W in
theorem run2 (w : World) : ∀ os : OsState, (endF (stepQ (denQ tabQ) RR45.prog w) 9000 RR45.prog w os).map (fun s => (seenQ (PySem.W.view RR45.prog [61]) loose (importedModules RR45.prog.main.body) (fun s => xlAt (PySem.W.view RR45.prog [61]) [] s && recOk RR45.toRowW.records s) s.abs)) = some (openGood (PySem.W.view RR45.prog [61]) loose) := by
  intro os
  kernel_rfl


end K45

set_option maxHeartbeats 4000000
namespace K45
open PySem PySem.Spec PyProof.Rows L2
/-! ### strokes: promises -/
def sgn (i : Int) : Int := if 0 < i then 1 else if i < 0 then -1 else 0
def stepD (p : Int × Int) : Dt := .tup [.int p.1, .int p.2]
def len2 (dx dy : Int) : Nat := dx.natAbs + dy.natAbs
def steps2 (dx dy : Int) : List (Int × Int) := List.replicate (len2 dx dy) (sgn dx, sgn dy)
def spSign : Sp := fun vs H Q _ => ∃ i : Int, vs = [.int i] ∧ Q (.int (sgn i)) H
def StrokeOk (dx dy : Int) : Prop := (dx = 0 ∨ dy = 0) ∧ 1 ≤ len2 dx dy ∧ len2 dx dy ≤ 20
def spLsteps : Sp := fun vs H Q _ => ∃ dx dy : Int, vs = [.int dx, .int dy] ∧ StrokeOk dx dy ∧ ∀ (l : Addr) (us : List V) (H' : Hp), H l = none → H' l = some (.lst us) → Trs H' us ((steps2 dx dy).map stepD) → Fr [] H H' → Q (.ref l) H'
def spUsteps : Sp := fun vs H Q _ => ∃ (v : V) (dx dy : Int), vs = [v] ∧ Tr H v (lineD dx dy) ∧ StrokeOk dx dy ∧ ∀ (l : Addr) (us : List V) (H' : Hp), H l = none → H' l = some (.lst us) → Trs H' us ((steps2 dx dy).map stepD) → Fr [] H H' → Q (.ref l) H'
/-- the points reached -/
def scan (p : Int × Int) : List (Int × Int) → List (Int × Int)
  | [] => [p]
  | d :: ds => p :: scan (p.1 + d.1, p.2 + d.2) ds
def endp (p : Int × Int) : List (Int × Int) → Int × Int
  | [] => p
  | d :: ds => endp (p.1 + d.1, p.2 + d.2) ds
theorem scan_snoc : ∀ (p : Int × Int) (ds : List (Int × Int)) (d : Int × Int), scan p (ds ++ [d]) = scan p ds ++ [((endp p ds).1 + d.1, (endp p ds).2 + d.2)]
  | p, [], d => rfl
  | p, e :: ds, d => by
    show p :: scan _ (ds ++ [d]) = _
    rw [scan_snoc]
    rfl
theorem endp_snoc : ∀ (p : Int × Int) (ds : List (Int × Int)) (d : Int × Int), endp p (ds ++ [d]) = ((endp p ds).1 + d.1, (endp p ds).2 + d.2)
  | p, [], d => rfl
  | p, e :: ds, d => by
    show endp _ (ds ++ [d]) = _
    rw [endp_snoc]
    rfl
theorem scan_len : ∀ (p : Int × Int) (ds : List (Int × Int)), (scan p ds).length = ds.length + 1
  | _, [] => rfl
  | p, d :: ds => by
    show (scan _ ds).length + 1 = _
    rw [scan_len]
    rfl
def rectS (r : Rect) : List (Int × Int) := [(r.2.2.1, 0), (0, r.2.2.2), (-r.2.2.1, 0), (0, -r.2.2.2)]
def rectSteps (r : Rect) : List (Int × Int) := ((rectS r).map fun p => steps2 p.1 p.2).flatten
def rectPts (r : Rect) : List (Int × Int) := scan (r.1, r.2.1) (rectSteps r)
def spCorners : Sp := fun vs H Q _ => ∃ (v : V) (r : Rect), vs = [v] ∧ Tr H v (rectD r) ∧ RectOk r ∧ ∀ (l : Addr) (us : List V) (H' : Hp), H l = none → H' l = some (.lst us) → Trs H' us ((rectPts r).map stepD) → Fr [] H H' → Q (.ref l) H'

end K45

set_option maxHeartbeats 4000000
namespace K45
open PySem PySem.Spec PyProof.Rows L2
section
variable {P : Program} {w : World} {K : PySem.W.Frag} {mg : Str → Option Value} {base : Heap}
abbrev s_sign : Stmt := top 20
abbrev N_sign : List Str := ["number"]
theorem sc_sign : FnScope ["number"] ["number"] (defScope s_sign) := ⟨rfl, rfl, rfl, by decide +kernel, rfl, by decide +kernel, by decide +kernel⟩
theorem c_sign (F : Df K mg "sign" s_sign) (G : Gn mg)   : C8.Cal P w K mg base 1 "sign" spSign [] := by
  refine cal_by F sc_sign (fun _ _ _ _ _ _ us hl => match us, hl with | [_], _ => rfl) (fun vs H Q E h => ?_) (fun f cdv A outer s H vs Q E hr h => ?_)
  · obtain ⟨i, rfl, _⟩ := h
    rfl
  · obtain ⟨i, rfl, k⟩ := h
    have sc := sc_sign
    refine ⟨_, (pss_cons (ps_if (pt_cmpR op_gt (pv 0) pe_int (nomark _))
        (pss_one (ps_ret pe_int))
        pss_nil)
      (pss_cons (ps_if (pt_cmpR op_lt (pv 0) pe_int (nomark _))
        (pss_one (ps_ret (pe_un un_neg pe_int)))
        pss_nil)
      (pss_one (ps_ret pe_int)))), ?_⟩
    refine ⟨_, rfl, _, _, rfl, rfl, _, rfl, ite2 (fun hc => ?_) (fun hc => ?_)⟩
    · have h1 : (0 : Int) < i := of_decide_eq_true hc
      have e : sgn i = 1 := by unfold sgn; rw [if_pos h1]
      rw [e] at k
      exact k
    · have h1 : ¬ (0 : Int) < i := fun h => hc (decide_eq_true h)
      refine ⟨_, rfl, _, _, rfl, rfl, _, rfl, ite2 (fun hc2 => ?_) (fun hc2 => ?_)⟩
      · have h2 : i < (0 : Int) := of_decide_eq_true hc2
        have e : sgn i = -1 := by unfold sgn; rw [if_neg h1, if_pos h2]
        rw [e] at k
        exact ⟨_, rfl, k⟩
      · have h2 : ¬ i < (0 : Int) := fun h => hc2 (decide_eq_true h)
        have e : sgn i = 0 := by unfold sgn; rw [if_neg h1, if_neg h2]
        rw [e] at k
        exact k
abbrev s_lsteps : Stmt := top 21
abbrev N_lsteps : List Str := ["dx", "dy", "across", "length", "steps", "k"]
theorem sc_lsteps : FnScope ["dx", "dy", "across", "length", "steps", "k"] ["dx", "dy"] (defScope s_lsteps) := ⟨rfl, rfl, rfl, by decide +kernel, rfl, by decide +kernel, by decide +kernel⟩
theorem c_lsteps (F : Df K mg "line_steps" s_lsteps) (G : Gn mg)  (c_sign : C8.Cal P w K mg base 1 "sign" spSign []) : C8.Cal P w K mg base 2 "line_steps" spLsteps [] := by
  refine cal_by F sc_lsteps (fun _ _ _ _ _ _ us hl => match us, hl with | [_, _], _ => rfl) (fun vs H Q E h => ?_) (fun f cdv A outer s H vs Q E hr h => ?_)
  · obtain ⟨dx, dy, rfl, _⟩ := h
    rfl
  · obtain ⟨dx, dy, rfl, ⟨h0, h1, h2⟩, k⟩ := h
    have sc := sc_lsteps
    refine ⟨_, (pss_cons (ps_set (i := 2) sc.nd rfl (Or.inl rfl) (pe_callB call_abs rfl G.n_abs (by decide +kernel) (pa_cons (pv 0) pa_nil)))
      (pss_cons (ps_set (i := 3) sc.nd rfl (Or.inl rfl) (pe_op op_add (pv 2) (pe_callB call_abs rfl G.n_abs (by decide +kernel) (pa_cons (pv 1) pa_nil))))
      (pss_cons (ps_set (i := 4) sc.nd rfl (Or.inl rfl) (pe_lst pa_nil))
      (pss_cons (ps_for PassesOwn.never rfl (pi_range1 rfl G.n_range (pa_cons (pv 3) pa_nil)) (pg_name (i := 5) sc.nd rfl (Or.inl rfl))
        (pss_one (ps_if (pt_cmpR op_gt (pe_op op_fdivN (pe_op op_mul (pe_op op_add (pv 5) pe_int) (pv 2)) (pv 3)) (pe_op op_fdivN (pe_op op_mul (pv 5) (pv 2)) (pv 3)) (nomark _))
          (pss_one (ps_expr (pe_bm PySem.F.plainAttrs_list PySem.F.slot_list_append PySem.F.type_list_append mt_append (pv 4) (pa_cons (pe_tup (pa_cons (C8.pe_c c_sign hr (by decide) rfl (pa_cons (pv 0) pa_nil)) (pa_cons pe_int pa_nil))) pa_nil))))
          (pss_one (ps_expr (pe_bm PySem.F.plainAttrs_list PySem.F.slot_list_append PySem.F.type_list_append mt_append (pv 4) (pa_cons (pe_tup (pa_cons pe_int (pa_cons (C8.pe_c c_sign hr (by decide) rfl (pa_cons (pv 1) pa_nil)) pa_nil))) pa_nil)))))))
      (pss_one (ps_ret (pv 4))))))), ?_⟩
    have hz := big
    unfold len2 at h1 h2
    have ex : (if dx < 0 then -dx else dx) = (dx.natAbs : Int) := by split <;> omega
    have ey : (if dy < 0 then -dy else dy) = (dy.natAbs : Int) := by split <;> omega
    refine ⟨_, rfl, _, rfl, _, rfl, _, rfl, _, rfl, _, _, rfl, rfl, ?_⟩
    rw [ex, ey]
    refine ⟨(by show 0 ≤ sizeLine; omega), fun l n_l => ?_⟩
    generalize eH_l : upd H l _ = H0
    have ev_l : ∀ {M : List Addr}, Fr M H H0 := by intro M; rw [← eH_l]; exact Fr.new n_l
    have h_l : H0 l = some (.lst []) := by rw [← eH_l]; exact upd_same
    clear eH_l
    have el : ((dx.natAbs : Int) + (dy.natAbs : Int)) = ((len2 dx dy : Nat) : Int) := by unfold len2; omega
    have en : ((dx.natAbs : Int) + (dy.natAbs : Int)).toNat = len2 dx dy := by rw [el] <;> rfl
    refine ⟨_, rfl, _, rfl, (by omega), (by omega), for_range (n := ((dx.natAbs : Int) + (dy.natAbs : Int)).toNat) (fun i σ H' => ∃ (us : List V) (v5 : Option V), σ = [some (.int dx), some (.int dy), some (.int (dx.natAbs : Int)), some (.int ((dx.natAbs : Int) + (dy.natAbs : Int))), some (.ref l), v5] ∧ H' l = some (.lst us) ∧ Trs H' us ((List.replicate i (sgn dx, sgn dy)).map stepD) ∧ Fr [] H H') ?_ ?_ ?_⟩
    · exact ⟨[], none, rfl, h_l, .nil, ev_l⟩
    · rintro i σ H1 hi ⟨us, v5, rfl, h_l, ht, fr⟩
      have hul : us.length = i := by rw [ht.length, List.length_map, List.length_replicate]
      have hl2 : len2 dx dy = dx.natAbs + dy.natAbs := rfl
      have fin : ∀ (q : Addr) (H2 : Hp), Fr [] H1 H2 → H2 q = some (.tup [.int (sgn dx), .int (sgn dy)]) → H2 l = some (.lst us) ∧ us.length < sizeLine ∧ Trs (upd H2 l (.lst (us ++ [.ref q]))) (us ++ [.ref q]) ((List.replicate (i + 1) (sgn dx, sgn dy)).map stepD) ∧ Fr [] H (upd H2 l (.lst (us ++ [.ref q]))) := by
        intro q H2 f2 hq
        have h_l := f2.k0 h_l
        refine ⟨h_l, by omega, ?_, (fr.t0 f2).t1 (Fr.put h_l) (.inr n_l)⟩
        rw [List.replicate_succ', List.map_append]
        exact ((ht.mono f2.t).mono (Fr.put h_l).t).snoc ((Tr.of_flat (ds := [.int (sgn dx), .int (sgn dy)]) hq rfl).mono (Fr.put h_l).t)
      have c1 : (0 + (i : Int) + 1) * (dx.natAbs : Int) = (((i + 1) * dx.natAbs : Nat) : Int) := by push_cast; rw [Int.zero_add]
      have c2 : (0 + (i : Int)) * (dx.natAbs : Int) = ((i * dx.natAbs : Nat) : Int) := by push_cast; rw [Int.zero_add]
      refine ⟨_, rfl, _, _, rfl, rfl, _, rfl, _, _, rfl, rfl, .inr ⟨by omega, by omega⟩, _, rfl, _, _, rfl, rfl, ⟨by omega, by omega⟩, _, rfl, _, rfl, _, _, rfl, rfl, .inr ⟨by omega, by omega⟩, _, rfl, _, _, rfl, rfl, ⟨by omega, by omega⟩, _, _, rfl, rfl, _, rfl, ite2 (fun hc => ?_) (fun hc => ?_)⟩
      · have hc := of_decide_eq_true hc
        rw [c1, c2] at hc
        have hdx : dx.natAbs ≠ 0 := by
          intro z
          rw [z] at hc
          simp at hc
        have hdy : sgn dy = 0 := by
          have : dy = 0 := by omega
          rw [this] <;> rfl
        refine ⟨_, rfl, Or.inl ⟨rfl, _, SqL.of h_l⟩, _, rfl, _, rfl, (by show 2 ≤ sizeLine; omega), fun q n_q => ?_⟩
        obtain ⟨q1, q2, q3, q4⟩ := fin q _ (Fr.new n_q) (by rw [hdy]; exact upd_same)
        exact ⟨_, _, _, rfl, rfl, q1, q2, _, _, rfl, upd_same, q3, q4⟩
      · have hc := fun h => hc (decide_eq_true h)
        rw [c1, c2] at hc
        have hdx : sgn dx = 0 := by
          have : dx = 0 := by
            rcases h0 with h0 | h0
            · exact h0
            · refine (hc ?_).elim
              have e1 : ((dx.natAbs : Int) + (dy.natAbs : Int)) = ((dx.natAbs : Nat) : Int) := by omega
              rw [e1, Int.fdiv_eq_ediv_of_nonneg _ (by omega), Int.fdiv_eq_ediv_of_nonneg _ (by omega)]
              have e2 : dx.natAbs ≠ 0 := by omega
              rw [← Int.natCast_ediv, ← Int.natCast_ediv, Nat.mul_div_cancel _ (by omega), Nat.mul_div_cancel _ (by omega)]
              omega
          rw [this] <;> rfl
        refine ⟨_, rfl, Or.inl ⟨rfl, _, SqL.of h_l⟩, _, rfl, _, rfl, (by show 2 ≤ sizeLine; omega), fun q n_q => ?_⟩
        obtain ⟨q1, q2, q3, q4⟩ := fin q _ (Fr.new n_q) (by rw [hdx]; exact upd_same)
        exact ⟨_, _, _, rfl, rfl, q1, q2, _, _, rfl, upd_same, q3, q4⟩
    · rintro σ H1 ⟨us, v5, rfl, h_l, ht, fr⟩
      rw [en] at ht
      exact ⟨_, rfl, k l us H1 n_l h_l ht fr⟩
abbrev s_usteps : Stmt := top 24
abbrev N_usteps : List Str := ["stroke", "sort", "dx", "dy", "level", "upright"]
theorem sc_usteps : FnScope ["stroke", "sort", "dx", "dy", "level", "upright"] ["stroke"] (defScope s_usteps) := ⟨rfl, rfl, rfl, by decide +kernel, rfl, by decide +kernel, by decide +kernel⟩
theorem c_usteps (F : Df K mg "unit_steps" s_usteps) (G : Gn mg)  (c_line_steps : C8.Cal P w K mg base 2 "line_steps" spLsteps []) (c_sign : C8.Cal P w K mg base 1 "sign" spSign []) : C8.Cal P w K mg base 3 "unit_steps" spUsteps [] := by
  refine cal_by F sc_usteps (fun _ _ _ _ _ _ us hl => match us, hl with | [_], _ => rfl) (fun vs H Q E h => ?_) (fun f cdv A outer s H vs Q E hr h => ?_)
  · obtain ⟨v, dx, dy, rfl, _⟩ := h
    rfl
  · obtain ⟨v, dx, dy, rfl, hv, hok, k⟩ := h
    have sc := sc_usteps
    refine ⟨_, (pss_cons (ps_asg (pv 0) (pg_tup rfl (pgs_cons (pg_name (i := 1) sc.nd rfl (Or.inl rfl)) (pgs_cons (pg_name (i := 2) sc.nd rfl (Or.inl rfl)) (pgs_cons (pg_name (i := 3) sc.nd rfl (Or.inl rfl)) pgs_nil)))))
      (pss_cons (ps_if (pt_cmpR op_eq (pv 1) pe_str (nomark _))
        (pss_one (ps_ret (C8.pe_c c_line_steps hr (by decide) rfl (pa_cons (pv 2) (pa_cons (pv 3) pa_nil)))))
        pss_nil)
      (pss_cons (ps_set (i := 4) sc.nd rfl (Or.inl rfl) (pe_tup (pa_cons (C8.pe_c c_sign hr (by decide) rfl (pa_cons (pv 2) pa_nil)) (pa_cons pe_int pa_nil))))
      (pss_cons (ps_set (i := 5) sc.nd rfl (Or.inl rfl) (pe_tup (pa_cons pe_int (pa_cons (C8.pe_c c_sign hr (by decide) rfl (pa_cons (pv 3) pa_nil)) pa_nil))))
      (pss_cons (ps_if (pt_cmpR op_eq (pv 1) pe_str (nomark _))
        (pss_one ps_never)
        pss_nil)
      (pss_one ps_never)))))), ?_⟩
    obtain ⟨b, rfl, hb⟩ := Tr.flat (hv : Tr H v (.tup _)) rfl
    refine ⟨_, rfl, _, _, rfl, SqT.of (hb), rfl, _, _, rfl, _, _, rfl, _, _, rfl, rfl, _, rfl, rfl, _, rfl, ite2 (fun hc => ?_) (fun hc => (hc (by decide +kernel)).elim)⟩
    exact ⟨_, rfl, _, rfl, _, _, rfl, hok, k⟩
abbrev s_corners : Stmt := top 25
abbrev N_corners : List Str := ["outline", "x", "y", "strokes", "reached", "stroke", "dx", "dy"]
theorem sc_corners : FnScope ["outline", "x", "y", "strokes", "reached", "stroke", "dx", "dy"] ["outline"] (defScope s_corners) := ⟨rfl, rfl, rfl, by decide +kernel, rfl, by decide +kernel, by decide +kernel⟩
theorem c_corners (F : Df K mg "corners" s_corners) (G : Gn mg)  (c_unit_steps : C8.Cal P w K mg base 3 "unit_steps" spUsteps []) : C8.Cal P w K mg base 4 "corners" spCorners [] := by
  refine cal_by F sc_corners (fun _ _ _ _ _ _ us hl => match us, hl with | [_], _ => rfl) (fun vs H Q E h => ?_) (fun f cdv A outer s H vs Q E hr h => ?_)
  · obtain ⟨v, r, rfl, _⟩ := h
    rfl
  · obtain ⟨v, r, rfl, hv, hok, k⟩ := h
    have sc := sc_corners
    refine ⟨_, (pss_cons (ps_asg (pv 0) (pg_tup rfl (pgs_cons (pg_name (i := 1) sc.nd rfl (Or.inl rfl)) (pgs_cons (pg_name (i := 2) sc.nd rfl (Or.inl rfl)) (pgs_cons (pg_name (i := 3) sc.nd rfl (Or.inl rfl)) pgs_nil)))))
      (pss_cons (ps_set (i := 4) sc.nd rfl (Or.inl rfl) (pe_lst (pa_cons (pe_tup (pa_cons (pv 1) (pa_cons (pv 2) pa_nil))) pa_nil)))
      (pss_cons (ps_for PassesOwn.never rfl (pi_tup (pv 3)) (pg_name (i := 5) sc.nd rfl (Or.inl rfl))
        (pss_one (ps_for PassesOwn.never rfl (pi_list (C8.pe_c c_unit_steps hr (by decide) rfl (pa_cons (pv 5) pa_nil))) (pg_tup rfl (pgs_cons (pg_name (i := 6) sc.nd rfl (Or.inl rfl)) (pgs_cons (pg_name (i := 7) sc.nd rfl (Or.inl rfl)) pgs_nil)))
          (pss_cons (ps_aug (i := 1) sc.nd rfl (Or.inl rfl) (pv 6) ip_add)
          (pss_cons (ps_aug (i := 2) sc.nd rfl (Or.inl rfl) (pv 7) ip_add)
          (pss_one (ps_expr (pe_bm PySem.F.plainAttrs_list PySem.F.slot_list_append PySem.F.type_list_append mt_append (pv 4) (pa_cons (pe_tup (pa_cons (pv 1) (pa_cons (pv 2) pa_nil))) pa_nil)))))))))
      (pss_one (ps_ret (pv 4)))))), ?_⟩
    have hz := big
    obtain ⟨a, vs, rfl, ha, hvs⟩ := hv.inv
    obtain ⟨v1, ws1, rfl, t1, hvs⟩ := hvs.inv
    obtain ⟨v2, ws2, rfl, t2, hvs⟩ := hvs.inv
    obtain ⟨v3, ws3, rfl, t3, hvs⟩ := hvs.inv
    cases hvs.inv0
    cases t1.inv_int
    cases t2.inv_int
    obtain ⟨o, os, rfl, ho, hos⟩ := t3.inv
    obtain ⟨⟨a1, a2⟩, ⟨a3, a4⟩, ⟨a5, a6⟩, a7, a8⟩ := hok
    refine ⟨_, rfl, _, _, rfl, SqT.of (ha), rfl, _, _, rfl, _, _, rfl, _, _, rfl, rfl, _, rfl, _, rfl, (by show 2 ≤ sizeLine; omega), fun q n_q => ?_⟩
    generalize eH_q : upd H q _ = H0
    have ev_q : ∀ {M : List Addr}, Fr M H H0 := by intro M; rw [← eH_q]; exact Fr.new n_q
    have h_q : H0 q = some (.tup [.int r.1, .int r.2.1]) := by rw [← eH_q]; exact upd_same
    clear eH_q
    refine ⟨(by show 1 ≤ sizeLine; omega), fun l n_l => ?_⟩
    have l0 := (ev_q (M := [])).d _ n_l
    generalize eH_l : upd H0 l _ = H1
    have ev_l : ∀ {M : List Addr}, Fr M H0 H1 := by intro M; rw [← eH_l]; exact Fr.new n_l
    have h_l : H1 l = some (.lst [.ref q]) := by rw [← eH_l]; exact upd_same
    clear eH_l
    have fr : Fr [] H H1 := (ev_q (M := [])).t0 ev_l
    have h_q := (ev_l (M := [])).k0 h_q
    have hsl : os.length = 4 := hos.length
    have hS : hos = hos := rfl
    refine ⟨_, rfl, o, rfl, ⟨_, SqT.of (fr.k0 ho)⟩, for_tup (xs := os) (fun i σ H' => ∃ (us : List V) (v5 v6 v7 : Option V) (ds : List (Int × Int)), σ = [some (.ref a), some (.int (endp (r.1, r.2.1) ds).1), some (.int (endp (r.1, r.2.1) ds).2), some (.ref o), some (.ref l), v5, v6, v7] ∧
      ds = (((rectS r).take i).map fun p => steps2 p.1 p.2).flatten ∧ ds.length ≤ 20 * i ∧ H' l = some (.lst us) ∧ Trs H' us ((scan (r.1, r.2.1) ds).map stepD) ∧ Fr [] H H') ?_ ?_ ?_ ?_⟩
    · exact ⟨[.ref q], none, none, none, [], rfl, rfl, Nat.zero_le _, h_l, .cons (.of_flat (ds := [.int r.1, .int r.2.1]) h_q rfl) .nil, fr⟩
    · rintro i σ H2 _ ⟨us, v5, v6, v7, ds, rfl, hds, hdl, h_l, ht, fr⟩
      exact SqT.of (fr.k0 ho)
    · rintro i x σ H2 hi ⟨us, v5, v6, v7, ds, rfl, hds, hdl, h_l, ht, fr⟩
      obtain ⟨d, hd, hx⟩ := hos.get' hi
      have hi4 : i < 4 := by have := (List.getElem?_eq_some_iff.mp hi).1; omega
      have hst : ∃ p : Int × Int, (rectS r)[i]? = some p ∧ d = lineD p.1 p.2 ∧ StrokeOk p.1 p.2 := by
        unfold StrokeOk len2
        rcases i with _ | _ | _ | _ | i
        · exact ⟨_, rfl, (Option.some.inj hd).symm, .inr rfl, by show 1 ≤ r.2.2.1.natAbs + Int.natAbs 0; omega, by show r.2.2.1.natAbs + Int.natAbs 0 ≤ 20; omega⟩
        · exact ⟨_, rfl, (Option.some.inj hd).symm, .inl rfl, by show 1 ≤ Int.natAbs 0 + r.2.2.2.natAbs; omega, by show Int.natAbs 0 + r.2.2.2.natAbs ≤ 20; omega⟩
        · exact ⟨_, rfl, (Option.some.inj hd).symm, .inr rfl, by show 1 ≤ (-r.2.2.1).natAbs + Int.natAbs 0; omega, by show (-r.2.2.1).natAbs + Int.natAbs 0 ≤ 20; omega⟩
        · exact ⟨_, rfl, (Option.some.inj hd).symm, .inl rfl, by show 1 ≤ Int.natAbs 0 + (-r.2.2.2).natAbs; omega, by show Int.natAbs 0 + (-r.2.2.2).natAbs ≤ 20; omega⟩
        · omega
      obtain ⟨p, hp, rfl, hpk⟩ := hst
      have hx := hx.mono fr.t
      refine ⟨_, rfl, _, _, _, rfl, hx, hpk, fun m ws H3 m0 h_m hm f3 => ?_⟩
      have h_l := f3.k0 h_l
      have ht := ht.mono f3.t
      have fr := fr.t0 f3
      have lm : l ≠ m := ne_of_none ((by assumption : H2 l = some (.lst us))) m0
      have hsl2 : (steps2 p.1 p.2).length ≤ 20 := by
        unfold steps2
        rw [List.length_replicate]
        exact hpk.2.2
      have hwl : ws.length = (steps2 p.1 p.2).length := by rw [hm.length, List.length_map]
      refine ⟨m, rfl, ⟨_, SqL.of h_m⟩, for_list (xs := ws) (fun j σ H' => ∃ (us : List V) (v6 v7 : Option V), σ = [some (.ref a), some (.int (endp (r.1, r.2.1) (ds ++ (steps2 p.1 p.2).take j)).1), some (.int (endp (r.1, r.2.1) (ds ++ (steps2 p.1 p.2).take j)).2), some (.ref o), some (.ref l), some x, v6, v7] ∧
        H' l = some (.lst us) ∧ H' m = some (.lst ws) ∧ Trs H' ws ((steps2 p.1 p.2).map stepD) ∧ Trs H' us ((scan (r.1, r.2.1) (ds ++ (steps2 p.1 p.2).take j)).map stepD) ∧ Fr [] H H') ?_ ?_ ?_ ?_⟩
      · exact ⟨us, v6, v7, by rw [List.take_zero, List.append_nil] <;> rfl, h_l, h_m, hm, by rw [List.take_zero, List.append_nil]; exact ht, fr⟩
      · rintro j σ H4 _ ⟨us, v6, v7, rfl, h_l, h_m, hm, ht, fr⟩
        exact SqL.of h_m
      · rintro j y σ H4 hj ⟨us, v6, v7, rfl, h_l, h_m, hm, ht, fr⟩
        obtain ⟨e, he, hy⟩ := hm.get' hj
        rw [List.getElem?_map] at he
        cases ep : (steps2 p.1 p.2)[j]? with
        | none => rw [ep] at he; cases he
        | some g =>
          rw [ep] at he
          cases he
          obtain ⟨b, rfl, hb⟩ := Tr.flat (hy : Tr H4 y (.tup _)) rfl
          have hjl := (List.getElem?_eq_some_iff.mp ep).1
          have et : ds ++ (steps2 p.1 p.2).take (j + 1) = (ds ++ (steps2 p.1 p.2).take j) ++ [g] := by
            rw [List.take_add_one, ep, List.append_assoc] <;> rfl
          generalize edd : ds ++ (steps2 p.1 p.2).take j = dd at *
          have ddl : dd.length ≤ 100 := by
            rw [← edd, List.length_append, List.length_take]
            omega
          have hul : us.length = dd.length + 1 := by rw [ht.length, List.length_map, scan_len]
          have ee := endp_snoc (r.1, r.2.1) dd g
          have es := scan_snoc (r.1, r.2.1) dd g
          generalize eep : endp (r.1, r.2.1) dd = E0 at *
          refine ⟨_, _, rfl, SqT.of (hb), rfl, _, _, rfl, _, _, rfl, rfl, _, rfl, _, rfl, _, _, rfl, rfl, _, rfl, _, rfl, _, _, rfl, rfl, _, rfl, Or.inl ⟨rfl, _, SqL.of h_l⟩, _, rfl, _, rfl, (by show 2 ≤ sizeLine; omega), fun q n_q => ?_⟩
          generalize eH_q : upd H4 q _ = H5
          have ev_q : ∀ {M : List Addr}, Fr M H4 H5 := by intro M; rw [← eH_q]; exact Fr.new n_q
          have h_q : H5 q = some (.tup [.int (E0.1 + g.1), .int (E0.2 + g.2)]) := by rw [← eH_q]; exact upd_same
          clear eH_q
          have h_l := (ev_q (M := [])).k0 h_l
          have h_m := (ev_q (M := [])).k0 h_m
          have fr := fr.t0 ev_q
          have hm := hm.mono (ev_q (M := [])).t
          have ht := ht.mono (ev_q (M := [])).t
          refine ⟨_, _, _, rfl, rfl, h_l, by omega, us ++ [.ref q], some (.int g.1), some (.int g.2), ?_, upd_same, ?_, hm.mono (Fr.put h_l).t, ?_, fr.t1 (Fr.put h_l) (.inr l0)⟩
          · rw [et, ee] <;> rfl
          · exact (Fr.put h_l).k1 h_m lm.symm
          · rw [et, es, List.map_append]
            exact (ht.mono (Fr.put h_l).t).snoc ((Tr.of_flat (ds := [.int (E0.1 + g.1), .int (E0.2 + g.2)]) h_q rfl).mono (Fr.put h_l).t)
      · rintro σ H4 ⟨us, v6, v7, rfl, h_l, h_m, hm, ht, fr⟩
        have e1 : (steps2 p.1 p.2).take ws.length = steps2 p.1 p.2 := List.take_of_length_le (by omega)
        rw [e1] at ht ⊢
        have et : (rectS r).take (i + 1) = (rectS r).take i ++ [p] := by rw [List.take_add_one, hp] <;> rfl
        refine ⟨us, _, _, _, _, rfl, ?_, ?_, h_l, ht, fr⟩
        · rw [et, List.map_append, List.flatten_append, ← hds]
          simp
        · rw [List.length_append]
          omega
    · rintro σ H2 ⟨us, v5, v6, v7, ds, rfl, hds, hdl, h_l, ht, fr⟩
      refine ⟨_, rfl, ?_⟩
      have e4 : (rectS r).take os.length = rectS r := List.take_of_length_le (by rw [hsl]; exact Nat.le_refl _)
      rw [e4] at hds
      have : scan (r.1, r.2.1) ds = rectPts r := by rw [hds] <;> rfl
      rw [this] at ht
      exact k l us H2 l0 h_l ht fr
end

end K45

set_option maxHeartbeats 4000000
namespace K45
open PySem PySem.Spec PyProof.Rows L2
/-! ### dicts, more -/
theorem valV_mem {κ : Type} [DecidableEq κ] {k : κ} {v : V} : ∀ {kvs : List (κ × V)}, valV kvs k = some v → (k, v) ∈ kvs
  | [], h => by cases h
  | p :: r, h => by
    by_cases e : p.1 = k
    · rw [valV_pos e] at h
      cases h
      rw [← e]
      exact List.mem_cons_self
    · rw [valV_neg e] at h
      exact List.mem_cons_of_mem _ (valV_mem h)
theorem mem_valV {κ : Type} [DecidableEq κ] {k : κ} {v : V} : ∀ {kvs : List (κ × V)}, (k, v) ∈ kvs → ∃ u, valV kvs k = some u
  | [], h => by cases h
  | p :: r, h => by
    by_cases e : p.1 = k
    · exact ⟨_, valV_pos e⟩
    · rw [valV_neg e]
      rcases List.mem_cons.mp h with h | h
      · rw [← h] at e
        exact (e rfl).elim
      · exact mem_valV h
/-! ### crossings -/
abbrev Pt : Type := Int × Int
def crossF (R : Int → List Int) (a b : Pt) : Int → List Int := if a.1 = b.1 then (fun row => if row = (if b.2 < a.2 then b.2 else a.2) then R row ++ [a.1] else R row) else R
def crossS (R : Int → List Int) (p : Pt) : List Pt → Int → List Int
  | [] => R
  | d :: ds => crossS (crossF R p (p.1 + d.1, p.2 + d.2)) (p.1 + d.1, p.2 + d.2) ds
theorem crossS_snoc : ∀ (R : Int → List Int) (p : Pt) (ds : List Pt) (d : Pt), crossS R p (ds ++ [d]) = crossF (crossS R p ds) (endp p ds) ((endp p ds).1 + d.1, (endp p ds).2 + d.2)
  | _, _, [], _ => rfl
  | R, p, e :: ds, d => crossS_snoc _ _ ds d
theorem crossS_app : ∀ (R : Int → List Int) (p : Pt) (ds es : List Pt), crossS R p (ds ++ es) = crossS (crossS R p ds) (endp p ds) es
  | _, _, [], _ => rfl
  | R, p, e :: ds, es => crossS_app _ _ ds es
theorem endp_app : ∀ (p : Pt) (ds es : List Pt), endp p (ds ++ es) = endp (endp p ds) es
  | _, [], _ => rfl
  | p, e :: ds, es => endp_app _ ds es
theorem endp_rep : ∀ (n : Nat) (p s : Pt), endp p (List.replicate n s) = (p.1 + (n : Int) * s.1, p.2 + (n : Int) * s.2)
  | 0, p, s => by
    show p = _
    simp
  | n + 1, p, s => by
    rw [List.replicate_succ]
    show endp (p.1 + s.1, p.2 + s.2) (List.replicate n s) = _
    rw [endp_rep n]
    refine Prod.ext ?_ ?_
    · show p.1 + s.1 + (n : Int) * s.1 = p.1 + ((n + 1 : Nat) : Int) * s.1
      rw [Int.natCast_succ, Int.add_mul]
      omega
    · show p.2 + s.2 + (n : Int) * s.2 = p.2 + ((n + 1 : Nat) : Int) * s.2
      rw [Int.natCast_succ, Int.add_mul]
      omega
theorem scan_get : ∀ (ds : List Pt) (p : Pt) (i : Nat), i ≤ ds.length → (scan p ds)[i]? = some (endp p (ds.take i))
  | [], p, 0, _ => rfl
  | d :: ds, p, 0, _ => rfl
  | d :: ds, p, i + 1, h => by
    show (scan _ ds)[i]? = _
    rw [scan_get ds _ i (by simpa using h)]
    rfl
theorem cross_flat : ∀ (n : Nat) (R : Int → List Int) (p : Pt) (s : Int), s ≠ 0 → crossS R p (List.replicate n (s, 0)) = R
  | 0, _, _, _, _ => rfl
  | n + 1, R, p, s, h => by
    rw [List.replicate_succ]
    show crossS (crossF R p (p.1 + s, p.2 + 0)) _ (List.replicate n (s, 0)) = _
    have e : crossF R p (p.1 + s, p.2 + 0) = R := by
      unfold crossF
      rw [if_neg (by show ¬ p.1 = p.1 + s; omega)]
    rw [e]
    exact cross_flat n R _ s h
theorem cross_up : ∀ (n : Nat) (R : Int → List Int) (p : Pt), crossS R p (List.replicate n (0, 1)) = fun row => if p.2 ≤ row ∧ row < p.2 + n then R row ++ [p.1] else R row
  | 0, R, p => by
    funext row
    rw [if_neg (by omega)]
    rfl
  | n + 1, R, p => by
    rw [List.replicate_succ]
    show crossS (crossF R p (p.1 + 0, p.2 + 1)) (p.1 + 0, p.2 + 1) (List.replicate n (0, 1)) = _
    have e : crossF R p (p.1 + 0, p.2 + 1) = fun row => if row = p.2 then R row ++ [p.1] else R row := by
      unfold crossF
      rw [if_pos (show p.1 = ((p.1 + 0, p.2 + 1) : Pt).1 by show p.1 = p.1 + 0; omega)]
      funext row
      rw [if_neg (show ¬ ((p.1 + 0, p.2 + 1) : Pt).2 < p.2 by show ¬ p.2 + 1 < p.2; omega)]
    rw [cross_up n, e]
    funext row
    show (if p.2 + 1 ≤ row ∧ row < p.2 + 1 + (n : Int) then (if row = p.2 then R row ++ [p.1] else R row) ++ [p.1 + 0] else (if row = p.2 then R row ++ [p.1] else R row)) = _
    rw [Int.add_zero]
    by_cases h1 : row = p.2
    · rw [if_neg (by omega), if_pos h1, if_pos (by omega)]
    · rw [if_neg h1]
      by_cases h2 : p.2 + 1 ≤ row ∧ row < p.2 + 1 + (n : Int)
      · rw [if_pos h2, if_pos (by omega)]
      · rw [if_neg h2, if_neg (by omega)]
theorem cross_down : ∀ (n : Nat) (R : Int → List Int) (p : Pt), crossS R p (List.replicate n (0, -1)) = fun row => if p.2 - n ≤ row ∧ row < p.2 then R row ++ [p.1] else R row
  | 0, R, p => by
    funext row
    rw [if_neg (by omega)]
    rfl
  | n + 1, R, p => by
    rw [List.replicate_succ]
    show crossS (crossF R p (p.1 + 0, p.2 + -1)) (p.1 + 0, p.2 + -1) (List.replicate n (0, -1)) = _
    have e : crossF R p (p.1 + 0, p.2 + -1) = fun row => if row = p.2 + -1 then R row ++ [p.1] else R row := by
      unfold crossF
      rw [if_pos (show p.1 = ((p.1 + 0, p.2 + -1) : Pt).1 by show p.1 = p.1 + 0; omega)]
      funext row
      rw [if_pos (show ((p.1 + 0, p.2 + -1) : Pt).2 < p.2 by show p.2 + -1 < p.2; omega)]
    rw [cross_down n, e]
    funext row
    show (if p.2 + -1 - (n : Int) ≤ row ∧ row < p.2 + -1 then (if row = p.2 + -1 then R row ++ [p.1] else R row) ++ [p.1 + 0] else (if row = p.2 + -1 then R row ++ [p.1] else R row)) = _
    rw [Int.add_zero]
    by_cases h1 : row = p.2 + -1
    · rw [if_neg (by omega), if_pos h1, if_pos (by omega)]
    · rw [if_neg h1]
      by_cases h2 : p.2 + -1 - (n : Int) ≤ row ∧ row < p.2 + -1
      · rw [if_pos h2, if_pos (by omega)]
      · rw [if_neg h2, if_neg (by omega)]
theorem sgn_pos {i : Int} (h : 0 < i) : sgn i = 1 := by unfold sgn; rw [if_pos h]
theorem sgn_neg {i : Int} (h : i < 0) : sgn i = -1 := by unfold sgn; rw [if_neg (by omega), if_pos h]
theorem rectSteps_eq {r : Rect} (h : RectOk r) : rectSteps r = List.replicate r.2.2.1.toNat (1, 0) ++ (List.replicate r.2.2.2.toNat (0, 1) ++ (List.replicate r.2.2.1.toNat (-1, 0) ++ List.replicate r.2.2.2.toNat (0, -1))) := by
  obtain ⟨_, _, ⟨b1, _⟩, h1, _⟩ := h
  have e0 : sgn 0 = 0 := rfl
  have n0 : Int.natAbs 0 = 0 := rfl
  unfold rectSteps rectS
  simp only [List.map_cons, List.map_nil, List.flatten_cons, List.flatten_nil, List.append_nil]
  unfold steps2 len2
  rw [sgn_pos (i := r.2.2.1) (by omega), sgn_pos (i := r.2.2.2) (by omega), sgn_neg (i := -r.2.2.1) (by omega), sgn_neg (i := -r.2.2.2) (by omega), e0, n0,
    show r.2.2.1.natAbs + 0 = r.2.2.1.toNat by omega, show 0 + r.2.2.2.natAbs = r.2.2.2.toNat by omega, show (-r.2.2.1).natAbs + 0 = r.2.2.1.toNat by omega, show 0 + (-r.2.2.2).natAbs = r.2.2.2.toNat by omega]
theorem rect_closed {r : Rect} (h : RectOk r) : endp (r.1, r.2.1) (rectSteps r) = (r.1, r.2.1) := by
  rw [rectSteps_eq h, endp_app, endp_app, endp_app]
  simp only [endp_rep]
  obtain ⟨_, _, ⟨b1, _⟩, h1, _⟩ := h
  refine Prod.ext ?_ ?_
  · show r.1 + (r.2.2.1.toNat : Int) * 1 + (r.2.2.2.toNat : Int) * 0 + (r.2.2.1.toNat : Int) * (-1) + (r.2.2.2.toNat : Int) * 0 = r.1
    omega
  · show r.2.1 + (r.2.2.1.toNat : Int) * 0 + (r.2.2.2.toNat : Int) * 1 + (r.2.2.1.toNat : Int) * 0 + (r.2.2.2.toNat : Int) * (-1) = r.2.1
    omega
theorem rect_cross {r : Rect} (h : RectOk r) (R : Int → List Int) : crossS R (r.1, r.2.1) (rectSteps r) = fun row => if r.2.1 ≤ row ∧ row < r.2.1 + r.2.2.2 then (R row ++ [r.1 + r.2.2.1]) ++ [r.1] else R row := by
  rw [rectSteps_eq h, crossS_app, crossS_app, crossS_app]
  simp only [endp_rep]
  obtain ⟨_, _, ⟨b1, _⟩, h1, _⟩ := h
  rw [cross_flat _ _ _ _ (by decide), cross_up, cross_flat _ _ _ _ (by decide), cross_down]
  funext row
  show (if r.2.1 + (r.2.2.1.toNat : Int) * 0 + (r.2.2.2.toNat : Int) * 1 + (r.2.2.1.toNat : Int) * 0 - (r.2.2.2.toNat : Int) ≤ row ∧ row < r.2.1 + (r.2.2.1.toNat : Int) * 0 + (r.2.2.2.toNat : Int) * 1 + (r.2.2.1.toNat : Int) * 0 then
    (if r.2.1 + (r.2.2.1.toNat : Int) * 0 ≤ row ∧ row < r.2.1 + (r.2.2.1.toNat : Int) * 0 + (r.2.2.2.toNat : Int) then R row ++ [r.1 + (r.2.2.1.toNat : Int) * 1] else R row) ++ [r.1 + (r.2.2.1.toNat : Int) * 1 + (r.2.2.2.toNat : Int) * 0 + (r.2.2.1.toNat : Int) * (-1)]
    else (if r.2.1 + (r.2.2.1.toNat : Int) * 0 ≤ row ∧ row < r.2.1 + (r.2.2.1.toNat : Int) * 0 + (r.2.2.2.toNat : Int) then R row ++ [r.1 + (r.2.2.1.toNat : Int) * 1] else R row)) = _
  by_cases hr : r.2.1 ≤ row ∧ row < r.2.1 + r.2.2.2
  · rw [if_pos hr, if_pos (by omega), if_pos (by omega), show r.1 + (r.2.2.1.toNat : Int) * 1 = r.1 + r.2.2.1 by omega, show r.1 + r.2.2.1 + (r.2.2.2.toNat : Int) * 0 + (r.2.2.1.toNat : Int) * (-1) = r.1 by omega]
  · rw [if_neg hr, if_neg (by omega), if_neg (by omega)]
def inside (rs : List Rect) (R : Int → List Int) : Int → List Int := rs.foldl (fun R r row => if r.2.1 ≤ row ∧ row < r.2.1 + r.2.2.2 then (R row ++ [r.1 + r.2.2.1]) ++ [r.1] else R row) R
theorem inside_snoc (rs : List Rect) (r : Rect) (R : Int → List Int) (h : RectOk r) : inside (rs ++ [r]) R = crossS (inside rs R) (r.1, r.2.1) (rectSteps r) := by
  rw [rect_cross h]
  unfold inside
  rw [List.foldl_append]
  rfl
theorem inside_ok {rs : List Rect} : ∀ {R : Int → List Int}, (∀ r ∈ rs, RectOk r) → (∀ row, (R row).length % 2 = 0 ∧ ∀ x ∈ R row, -100 ≤ x ∧ x ≤ 100) → ∀ row, ((inside rs R) row).length % 2 = 0 ∧ ∀ x ∈ (inside rs R) row, -100 ≤ x ∧ x ≤ 100 := by
  induction rs with
  | nil => intro R _ h; exact h
  | cons r rs ih =>
    intro R hr h
    refine ih (R := fun row => if r.2.1 ≤ row ∧ row < r.2.1 + r.2.2.2 then (R row ++ [r.1 + r.2.2.1]) ++ [r.1] else R row) (fun x hx => hr x (List.mem_cons_of_mem _ hx)) (fun row => ?_)
    obtain ⟨⟨x0, x1⟩, _, ⟨b0, b1⟩, _⟩ := hr r List.mem_cons_self
    obtain ⟨h1, h2⟩ := h row
    show ((if r.2.1 ≤ row ∧ row < r.2.1 + r.2.2.2 then (R row ++ [r.1 + r.2.2.1]) ++ [r.1] else R row).length % 2 = 0 ∧ ∀ x ∈ (if r.2.1 ≤ row ∧ row < r.2.1 + r.2.2.2 then (R row ++ [r.1 + r.2.2.1]) ++ [r.1] else R row), -100 ≤ x ∧ x ≤ 100)
    split
    · refine ⟨by rw [List.length_append, List.length_append]; show ((R row).length + 1 + 1) % 2 = 0; omega, fun x hx => ?_⟩
      rcases List.mem_append.mp hx with hx | hx
      · rcases List.mem_append.mp hx with hx | hx
        · exact h2 x hx
        · rw [List.mem_singleton.mp hx]
          omega
      · rw [List.mem_singleton.mp hx]
        omega
    · exact ⟨h1, h2⟩
theorem rectSteps_len {r : Rect} (h : RectOk r) : (rectSteps r).length ≤ 80 := by
  rw [rectSteps_eq h]
  obtain ⟨_, _, ⟨b1, _⟩, h1, _⟩ := h
  simp only [List.length_append, List.length_replicate]
  omega
theorem inside_len {rs : List Rect} : ∀ (R : Int → List Int) (row : Int), ((inside rs R) row).length ≤ (R row).length + 2 * rs.length := by
  induction rs with
  | nil => intro R row; exact Nat.le_refl _
  | cons r rs ih =>
    intro R row
    refine Nat.le_trans (ih (fun row => if r.2.1 ≤ row ∧ row < r.2.1 + r.2.2.2 then (R row ++ [r.1 + r.2.2.1]) ++ [r.1] else R row) row) ?_
    show (if r.2.1 ≤ row ∧ row < r.2.1 + r.2.2.2 then (R row ++ [r.1 + r.2.2.1]) ++ [r.1] else R row).length + 2 * rs.length ≤ (R row).length + 2 * (rs.length + 1)
    split
    · rw [List.length_append, List.length_append]
      show (R row).length + 1 + 1 + 2 * rs.length ≤ _
      omega
    · omega
/-- the row lists are in pairs -/
def RowOk (n : Nat) (xs : List Int) : Prop := xs.length % 2 = 0 ∧ xs.length ≤ n ∧ ∀ x ∈ xs, -100 ≤ x ∧ x ≤ 100
def spCross : Sp := fun vs H Q _ => ∃ (v : V) (rs : List Rect), vs = [v] ∧ Tr H v (.tup (rs.map rectD)) ∧ rs.length ≤ 3 ∧ (∀ r ∈ rs, RectOk r) ∧
  ∀ (d : Addr) (kvs : List (L2.Key × V)) (H' : Hp), H d = none → H' d = some (.dK kvs) → kvs.length ≤ 480 → (∀ kv ∈ kvs, ∃ row : Int, kv.1 = Sum.inl row) → (∀ (row : Int) (v : V), valV kvs (Sum.inl row) = some v → ∃ (l : Addr) (xs : List Int), v = .ref l ∧ H l = none ∧ H' l = some (.lst (xs.map V.int)) ∧ RowOk 6 xs) → Fr [] H H' → Q (.ref d) H'
/-! ### ink -/
def Pairs (H : Hp) (us : List V) : Prop := ∀ u ∈ us, ∃ (b : Addr) (x y : Int), u = .ref b ∧ H b = some (.tup [.int x, .int y])
theorem Pairs.mono {H H' : Hp} (k : KeepT H H') {us : List V} (h : Pairs H us) : Pairs H' us := fun u hu => let ⟨b, x, y, e, q⟩ := h u hu; ⟨b, x, y, e, k _ _ q⟩
theorem Pairs.snoc {H : Hp} {us : List V} (h : Pairs H us) {b : Addr} {x y : Int} (e : H b = some (.tup [.int x, .int y])) : Pairs H (us ++ [.ref b]) := fun u hu => by
  rcases List.mem_append.mp hu with m | m
  · exact h u m
  · rw [List.mem_singleton.mp m]
    exact ⟨b, x, y, rfl, e⟩
def InkAt (H : Hp) (CI a : Addr) : Prop := ∃ dx fs l us, H a = some (.ins CI dx fs) ∧ fs.lookup ("cell_list" : Str) = some (.ref l) ∧ H l = some (.lst us) ∧ us.length ≤ 300000 ∧ Pairs H us ∧ fs.lookup ("spans" : Str) = none
theorem InkAt.k0 {H H' : Hp} {CI a : Addr} (h : InkAt H CI a) (f : Fr [] H H') : InkAt H' CI a :=
  let ⟨dx, fs, l, us, h1, h2, h3, h4, h5, h6⟩ := h; ⟨dx, fs, l, us, f.k0 h1, h2, f.k0 h3, h4, h5.mono f.t, h6⟩
def spInk (CI : Addr) : Sp := fun vs H Q _ => ∃ (a c dx : Addr) (us : List V), vs = [.ref a, .ref c] ∧ H a = some (.ins CI dx []) ∧ H c = some (.lst us) ∧ Pairs H us ∧ us.length ≤ 300000 ∧ ∀ H' : Hp, InkAt H' CI a → Fr [a] H H' → Q .non H'
def spInkOf (CI : Addr) : Sp := fun vs H Q _ => ∃ (v : V) (rs : List Rect), vs = [v] ∧ Tr H v (.tup (rs.map rectD)) ∧ rs.length ≤ 3 ∧ (∀ r ∈ rs, RectOk r) ∧ ∀ (a : Addr) (H' : Hp), H a = none → InkAt H' CI a → Fr [] H H' → Q (.ref a) H'
def SpanRow (H : Hp) (v : V) : Prop := ∃ (b t : Addr) (y : Int) (xs : List V), v = .ref b ∧ H b = some (.tup [.int y, .ref t]) ∧ H t = some (.tup xs) ∧ xs ≠ [] ∧ Pairs H xs
theorem SpanRow.mono {H H' : Hp} (k : KeepT H H') {v : V} (h : SpanRow H v) : SpanRow H' v := let ⟨b, t, y, xs, e, h1, h2, h3, h4⟩ := h; ⟨b, t, y, xs, e, k _ _ h1, k _ _ h2, h3, h4.mono k⟩
def spSpans (CI : Addr) : Sp := fun vs H Q _ => ∃ a : Addr, vs = [.ref a] ∧ InkAt H CI a ∧ ∀ (l : Addr) (ws : List V) (H' : Hp), H l = none → H' l = some (.lst ws) → ws.length ≤ 300000 → (∀ w ∈ ws, SpanRow H' w) → Fr [] H H' → Q (.ref l) H'
def IntInt (kk : List (L2.Key × V)) : Prop := ∀ kv ∈ kk, ∃ i j : Int, kv = (Sum.inl i, V.int j)
theorem IntInt.put {kk : List (L2.Key × V)} (h : IntInt kk) (i j : Int) : IntInt (putK kk (Sum.inl i) (V.int j)) := fun kv hv => by
  rcases mem_putK hv with e | e
  · exact ⟨i, j, e⟩
  · exact h kv e
/-- the ends of one letter -/
def EndsAt (H : Hp) (d : Addr) (kk : List (L2.Key × V)) : Prop := H d = some (.dK kk) ∧ IntInt kk ∧ kk.length ≤ 300000
theorem EndsAt.k0 {H H' : Hp} {d : Addr} {kk : List (L2.Key × V)} (h : EndsAt H d kk) (f : Fr [] H H') : EndsAt H' d kk := ⟨f.k0 h.1, h.2⟩
def spRends (CI : Addr) : Sp := fun vs H Q _ => ∃ a : Addr, vs = [.ref a] ∧ InkAt H CI a ∧ ∀ (t d e : Addr) (lk rk : List (L2.Key × V)) (H' : Hp), H' t = some (.tup [.ref d, .ref e]) → EndsAt H' d lk → EndsAt H' e rk → H d = none → H e = none → Fr [] H H' → Q (.ref t) H'
def spCheck : Sp := fun vs H Q _ => ∃ (d : Addr) (kvs : List (L2.Key × V)) (need : List Nat) (A : Nat → Int), vs = [.ref d, .str "0123456789-"] ∧ H d = some (.dK kvs) ∧ TabOk H kvs need A ∧ (∀ c ∈ figL ++ [45], c ∈ need) ∧ Q .non H
def spInks (CI : Addr) : Sp := fun vs H Q _ => ∃ (d : Addr) (kvs : List (L2.Key × V)) (need : List Nat) (A : Nat → Int), vs = [.ref d] ∧ H d = some (.dK kvs) ∧ TabOk H kvs need A ∧
  ∀ (e : Addr) (ik : List (L2.Key × V)) (H' : Hp), H e = none → H' e = some (.dK ik) → (∀ c ∈ need, ∃ a, valV ik (Sum.inr (ch c)) = some (.ref a) ∧ InkAt H' CI a) → Fr [] H H' → Q (.ref e) H'
theorem atI_end {us : List V} {n : Nat} {v : V} (hl : us.length = n + 1) (h : us[n]? = some v) : atI us (-1) = some v := by
  have e : us = us.take n ++ [v] := by
    have h1 : us.take (n + 1) = us.take n ++ [v] := by rw [List.take_add_one, h] <;> rfl
    rw [← h1, List.take_of_length_le (by omega)]
  rw [e]
  exact atI_last _ _
/-- the crossings so far -/
structure CrI (d : Addr) (H0 : Hp) (n : Nat) (H' : Hp) (kvs : List (L2.Key × V)) (R : Int → List Int) : Prop where
  dd : H' d = some (.dK kvs)
  ks : ∀ kv ∈ kvs, ∃ row : Int, kv.1 = Sum.inl row
  all : ∀ (row : Int) (v : V), valV kvs (Sum.inl row) = some v → ∃ l : Addr, v = V.ref l ∧ H' l = some (.lst ((R row).map V.int)) ∧ H0 l = none
  inj : ∀ (r r' : Int) (v : V), valV kvs (Sum.inl r) = some v → valV kvs (Sum.inl r') = some v → r = r'
  no : ∀ row, valV kvs (Sum.inl row) = none → R row = []
  len : kvs.length ≤ n
  rl : ∀ row, (R row).length ≤ n
  fr : Fr [] H0 H'
theorem CrI.k0 {d : Addr} {H0 H1 H2 : Hp} {n : Nat} {kvs : List (L2.Key × V)} {R : Int → List Int} (I : CrI d H0 n H1 kvs R) (f : Fr [] H1 H2) : CrI d H0 n H2 kvs R :=
  ⟨f.k0 I.dd, I.ks, fun r v h => let ⟨l, e, h1, h2⟩ := I.all r v h; ⟨l, e, f.k0 h1, h2⟩, I.inj, I.no, I.len, I.rl, I.fr.t0 f⟩
theorem CrI.le {d : Addr} {H0 H1 : Hp} {n m : Nat} {kvs : List (L2.Key × V)} {R : Int → List Int} (I : CrI d H0 n H1 kvs R) (h : n ≤ m) : CrI d H0 m H1 kvs R :=
  ⟨I.dd, I.ks, I.all, I.inj, I.no, Nat.le_trans I.len h, fun r => Nat.le_trans (I.rl r) h, I.fr⟩
/-- a new row, still empty -/
theorem CrI.row {d q : Addr} {H0 H1 : Hp} {n : Nat} {kvs : List (L2.Key × V)} {R : Int → List Int} (I : CrI d H0 n H1 kvs R) (d0 : H0 d = none) {row : Int} (h : valV kvs (Sum.inl row) = none) (n_q : H1 q = none) :
    CrI d H0 (n + 1) (upd (upd H1 q (.lst [])) d (.dK (putK kvs (Sum.inl row) (.ref q)))) (putK kvs (Sum.inl row) (.ref q)) R := by
  have f1 : ∀ {M : List Addr}, Fr M H1 (upd H1 q (.lst [])) := Fr.new n_q
  have h2 : upd H1 q (.lst []) d = some (.dK kvs) := (f1 (M := [])).k0 I.dd
  have f2 := Fr.put (o := .dK (putK kvs (Sum.inl row) (.ref q))) h2
  have qd : q ≠ d := (ne_of_none I.dd n_q).symm
  have old : ∀ l xs, H1 l = some (HO.lst xs) → (upd (upd H1 q (.lst [])) d (.dK (putK kvs (Sum.inl row) (.ref q)))) l = some (.lst xs) := fun l xs h => f2.k1 ((f1 (M := [])).k0 h) (ne_of h I.dd (by intro z; cases z))
  have inr : ∀ {r : Int}, (Sum.inl r : L2.Key) = Sum.inl row ↔ r = row := ⟨fun z => Sum.inl.inj z, fun z => by rw [z]⟩
  have qn : ∀ (r : Int), valV kvs (Sum.inl r) ≠ some (V.ref q) := fun r z => by
    obtain ⟨l, e, h1, _⟩ := I.all r _ z
    injection e with e
    rw [← e, n_q] at h1
    cases h1
  refine ⟨upd_same, fun kv hkv => ?_, fun r v hr => ?_, fun r r' v hr hr' => ?_, fun r hr => ?_, Nat.le_trans (length_putK _ _ _) (Nat.succ_le_succ I.len), fun r => Nat.le_succ_of_le (I.rl r), ((I.fr.t0 f1).t1 f2 (.inr d0))⟩
  · rcases mem_putK hkv with e | e
    · exact ⟨row, by rw [e]⟩
    · exact I.ks kv e
  · rw [valV_put] at hr
    by_cases z : r = row
    · rw [if_pos (inr.mpr z)] at hr
      cases hr
      refine ⟨q, rfl, ?_, I.fr.d _ n_q⟩
      rw [z, I.no row h, upd_ne qd, upd_same]
      rfl
    · rw [if_neg (fun y => z (inr.mp y))] at hr
      obtain ⟨l, e, h1, h3⟩ := I.all r v hr
      exact ⟨l, e, old l _ h1, h3⟩
  · rw [valV_put] at hr hr'
    by_cases z : r = row
    · by_cases z' : r' = row
      · rw [z, z']
      · rw [if_pos (inr.mpr z)] at hr
        rw [if_neg (fun y => z' (inr.mp y))] at hr'
        cases hr
        exact (qn r' hr').elim
    · rw [if_neg (fun y => z (inr.mp y))] at hr
      by_cases z' : r' = row
      · rw [if_pos (inr.mpr z')] at hr'
        cases hr'
        exact (qn r hr).elim
      · rw [if_neg (fun y => z' (inr.mp y))] at hr'
        exact I.inj r r' v hr hr'
  · rw [valV_put] at hr
    by_cases z : r = row
    · rw [if_pos (inr.mpr z)] at hr
      cases hr
    · rw [if_neg (fun y => z (inr.mp y))] at hr
      exact I.no r hr
/-- a crossing more -/
theorem CrI.app {d l : Addr} {H0 H1 : Hp} {n : Nat} {kvs : List (L2.Key × V)} {R : Int → List Int} (I : CrI d H0 n H1 kvs R) {row x : Int} (h : valV kvs (Sum.inl row) = some (.ref l)) :
    H1 l = some (.lst ((R row).map V.int)) ∧ CrI d H0 (n + 1) (upd H1 l (.lst ((R row).map V.int ++ [.int x]))) kvs (fun r => if r = row then R r ++ [x] else R r) := by
  obtain ⟨l', e1, h1, h2⟩ := I.all _ _ h
  cases e1
  have f := Fr.put (o := .lst ((R row).map V.int ++ [.int x])) h1
  refine ⟨h1, f.k1 I.dd (ne_of I.dd h1 (by intro z; cases z)), I.ks, fun r v hr => ?_, I.inj, fun r hr => ?_, Nat.le_succ_of_le I.len, fun r => ?_, I.fr.t1 f (.inr h2)⟩
  · obtain ⟨l2, e1, h3, h4⟩ := I.all r v hr
    refine ⟨l2, e1, ?_, h4⟩
    by_cases zr : r = row
    · subst zr
      rw [hr] at h
      cases e1
      cases h
      rw [if_pos rfl, upd_same, List.map_append]
      rfl
    · have z : l2 ≠ l := fun z => zr (I.inj r row v hr (by rw [e1, z]; exact h))
      rw [if_neg zr, upd_ne z]
      exact h3
  · have zr : r ≠ row := fun z => by
      rw [z, h] at hr
      cases hr
    rw [if_neg zr]
    exact I.no r hr
  · show (if r = row then R r ++ [x] else R r).length ≤ n + 1
    split
    · rw [List.length_append]
      exact Nat.succ_le_succ (I.rl r)
    · exact Nat.le_succ_of_le (I.rl r)
theorem dget_k {H : Hp} {a : Addr} {kvs : List (L2.Key × V)} {k : L2.Key} {v : V} (e : H a = some (.dK kvs)) (h : valV kvs k = some v) : DGet H a (kV k) (some v) := by
  rw [← h]
  exact DGet.k e
theorem dget_t {H : Hp} {a b : Addr} {kvs : List (List L2.Key × V)} {k : List L2.Key} {v : V} (e : H a = some (.dT kvs)) (eb : H b = some (.tup (k.map kV))) (h : valV kvs k = some v) : DGet H a (.ref b) (some v) := by
  rw [← h]
  exact DGet.t e eb
theorem rgc_two {n : Nat} (h : n % 2 = 0) (h6 : n ≤ 6) : RgC 0 (n : Int) 2 (n / 2) := by
  have : n = 0 ∨ n = 2 ∨ n = 4 ∨ n = 6 := by omega
  rcases this with rfl | rfl | rfl | rfl
  all_goals exact ⟨by decide, by decide, by decide, by decide⟩
theorem Fr.made {M : List Addr} {H : Hp} {x dx : Addr} {o u : HO} (h : H x = none) (hd : H dx = none) (n : dx ≠ x) : Fr M H (upd (upd H dx o) x u) :=
  (Fr.new (M := M) hd).t0 (Fr.new (by rw [upd_ne n.symm]; exact h))

end K45

set_option maxHeartbeats 4000000
namespace K45
open PySem PySem.Spec PyProof.Rows L2
section
variable {P : Program} {w : World} {K : PySem.W.Frag} {mg : Str → Option Value} {base : Heap}
theorem pt_dp {K : PySem.W.Frag} {H : Hp} {q : Addr} {x y : Int} (h : H q = some (.tup [.int x, .int y])) : Dp K H (.ref q) (.tuple [.int x, .int y]) := .tup (SqT.of h) (.cons (.int _) (.cons (.int _) .nil))
theorem pt_eqv (x y : Int) : PyData.eqv (.tuple [.int x, .int y]) (.tuple [.int x, .int y]) = true := by
  show ((x == x) && ((y == y) && true)) = true
  simp
abbrev s_cross : Stmt := top 28
abbrev N_cross : List Str := ["outlines", "crossings", "place", "outline", "reached", "k", "before", "behind", "row"]
theorem sc_cross : FnScope ["outlines", "crossings", "place", "outline", "reached", "k", "before", "behind", "row"] ["outlines"] (defScope s_cross) := ⟨rfl, rfl, rfl, by decide +kernel, rfl, by decide +kernel, by decide +kernel⟩
theorem c_cross (F : Df K mg "crossings_of" s_cross) (G : Gn mg)  (c_corners : C8.Cal P w K mg base 4 "corners" spCorners []) : C8.Cal P w K mg base 5 "crossings_of" spCross [] := by
  refine cal_by F sc_cross (fun _ _ _ _ _ _ us hl => match us, hl with | [_], _ => rfl) (fun vs H Q E h => ?_) (fun f cdv A outer s H vs Q E hr h => ?_)
  · obtain ⟨v, rs, rfl, _⟩ := h
    rfl
  · obtain ⟨v, rs, rfl, hv, hrl, hok, k⟩ := h
    have sc := sc_cross
    have hu := hu_of hr
    refine ⟨_, (pss_cons (ps_set (i := 1) sc.nd rfl (Or.inl rfl) pe_dnewK)
      (pss_cons (ps_for PassesOwn.never rfl (pi_enumT rfl G.n_enumerate (pa_cons (pv 0) pa_nil)) (pg_tup rfl (pgs_cons (pg_name (i := 2) sc.nd rfl (Or.inl rfl)) (pgs_cons (pg_name (i := 3) sc.nd rfl (Or.inl rfl)) pgs_nil)))
        (pss_cons (ps_set (i := 4) sc.nd rfl (Or.inl rfl) (C8.pe_c c_corners hr (by decide) rfl (pa_cons (pv 3) pa_nil)))
        (pss_cons (ps_if (pt_cmpR (op_neD hr.units) (pe_ix ix_list (pv 4) (pe_un un_neg pe_int) (fun _ _ => rfl)) (pe_ix ix_list (pv 4) pe_int (fun _ _ => rfl)) (nomark _))
          (pss_one ps_never)
          pss_nil)
        (pss_one (ps_for PassesOwn.never rfl (pi_range2 rfl G.n_range (pa_cons pe_int (pa_cons (pe_callB call_len_seq rfl G.n_len (by decide +kernel) (pa_cons (pv 4) pa_nil)) pa_nil))) (pg_name (i := 5) sc.nd rfl (Or.inl rfl))
          (pss_cons (ps_par rfl sc.nd (i := 6) (j := 7) rfl rfl (by decide) rfl rfl (pa_cons (pe_ix ix_list (pv 4) (pe_op op_sub (pv 5) pe_int) (fun _ _ => rfl)) (pa_cons (pe_ix ix_list (pv 4) (pv 5) (fun _ _ => rfl)) pa_nil)) (by rfl))
          (pss_one (ps_if (pt_cmpR op_eq (pe_ix ix_tup (pv 6) pe_int (fun _ _ => rfl)) (pe_ix ix_tup (pv 7) pe_int (fun _ _ => rfl)) (nomark _))
            (pss_cons (ps_set (i := 8) sc.nd rfl (Or.inl rfl) (pe_callB (call_min2 rfl) rfl G.n_min (by decide +kernel) (pa_cons (pe_ix ix_tup (pv 6) pe_int (fun _ _ => rfl)) (pa_cons (pe_ix ix_tup (pv 7) pe_int (fun _ _ => rfl)) pa_nil))))
            (C8.pss_cut (ps_if (pt_cmp (pc_dnotin hu (pv 8) (pv 1)))
              (pss_one (ps_dput hu (pv 1) (pv 8) (pe_lst pa_nil) rfl))
              pss_nil)
            (pss_one (ps_expr (pe_bm PySem.F.plainAttrs_list PySem.F.slot_list_append PySem.F.type_list_append mt_append (pe_dget hu (pv 1) (pv 8) (fun _ _ => rfl)) (pa_cons (pe_ix ix_tup (pv 6) pe_int (fun _ _ => rfl)) pa_nil))))))
            pss_nil))))))))
      (pss_one (ps_ret (pv 1))))), ?_⟩
    have hz := big
    obtain ⟨a, vs, rfl, ha, hvs⟩ := hv.inv
    intro d n_d
    generalize eH_d : upd H d _ = H0
    have ev_d : ∀ {M : List Addr}, Fr M H H0 := by intro M; rw [← eH_d]; exact Fr.new n_d
    have h_d : H0 d = some (.dK []) := by rw [← eH_d]; exact upd_same
    clear eH_d
    have hvl : vs.length = rs.length := by rw [hvs.length, List.length_map]
    have I : CrI d H 0 H0 [] (fun _ => []) := ⟨h_d, (fun kv h => by cases h), (fun r v h => by cases h), (fun r r' v h => by cases h), fun _ _ => rfl, Nat.le_refl _, fun _ => Nat.le_refl _, ev_d⟩
    refine ⟨_, rfl, a, vs, rfl, SqT.of ((ev_d (M := [])).k0 ha), for_it (walk_enumT (xs := vs)) (fun i σ H' => ∃ (kvs : List (L2.Key × V)) (v2 v3 v4 v5 v6 v7 v8 : Option V), σ = [some (.ref a), some (.ref d), v2, v3, v4, v5, v6, v7, v8] ∧ CrI d H (160 * i) H' kvs (inside (rs.take i) fun _ => [])) ?_ ?_ ?_ ?_⟩
    · exact ⟨[], none, none, none, none, none, none, none, rfl, I⟩
    · rintro i σ H' _ ⟨kvs, v2, v3, v4, v5, v6, v7, v8, rfl, I⟩
      exact SqT.of (I.fr.k0 ha)
    · rintro i y σ H1 H2' hi ⟨kvs, v2, v3, v4, v5, v6, v7, v8, rfl, I⟩ ⟨T, u, x, rfl, n_T, rfl, eu, hx⟩
      cases eu
      have hi2 : i < vs.length := hi
      generalize eH_T : upd H1 T _ = H2
      have ev_T : ∀ {M : List Addr}, Fr M H1 H2 := by intro M; rw [← eH_T]; exact Fr.new n_T
      have h_T : H2 T = some (.tup [.int (i : Nat), x]) := by rw [← eH_T]; exact upd_same
      clear eH_T
      have I := I.k0 ev_T
      obtain ⟨dt, hdt, hxt⟩ := hvs.get' hx
      rw [List.getElem?_map] at hdt
      cases er : rs[i]? with
      | none => rw [er] at hdt; cases hdt
      | some r =>
        rw [er] at hdt
        cases hdt
        have hr := hok r (List.mem_of_getElem? er)
        have hxt := hxt.mono I.fr.t
        refine ⟨_, _, rfl, SqT.of (h_T), rfl, _, _, rfl, _, _, rfl, rfl, _, rfl, _, _, rfl, hxt, hr, fun l us H3 n_l h_l ht f3 => ?_⟩
        have I := I.k0 f3
        have ld := (ne_of_none ((by assumption : CrI d H (160 * i) H2 kvs _).dd) n_l).symm
        have l0 := ((by assumption : CrI d H (160 * i) H2 kvs _).fr).d _ n_l
        have hsl := rectSteps_len hr
        have hul : us.length = (rectSteps r).length + 1 := by rw [ht.length, List.length_map, rectPts, scan_len]
        generalize hS : rectSteps r = S at *
        -- the points
        have hpt : ∀ (i : Nat), i ≤ S.length → ∃ b : Addr, us[i]? = some (.ref b) ∧ H3 b = some (.tup [.int (endp (r.1, r.2.1) (S.take i)).1, .int (endp (r.1, r.2.1) (S.take i)).2]) := fun i hi => by
          have e1 : ((rectPts r).map stepD)[i]? = some (stepD (endp (r.1, r.2.1) (S.take i))) := by
            rw [List.getElem?_map, rectPts, hS, scan_get S _ i hi] <;> rfl
          obtain ⟨v, e2, h2⟩ := ht.get e1
          obtain ⟨b, rfl, hb⟩ := Tr.flat (h2 : Tr H3 v (.tup _)) rfl
          exact ⟨b, e2, hb⟩
        obtain ⟨b0, e0, hb0⟩ := hpt 0 (Nat.zero_le _)
        obtain ⟨b1, e1, hb1⟩ := hpt S.length (Nat.le_refl _)
        have ecl := rect_closed hr
        rw [hS] at ecl
        rw [List.take_of_length_le (Nat.le_refl _), ecl] at hb1
        refine ⟨_, rfl, _, rfl, l, _, _, _, rfl, rfl, SqL.of h_l, atI_end hul e1, _, rfl, l, _, _, _, rfl, rfl, SqL.of h_l, atI_nat (j := 0) e0, _, _, pt_dp hb1, pt_dp hb0, rfl, rfl, _, rfl, ite2 (fun hc => ?_) (fun _ => ?_)⟩
        · refine absurd hc ?_
          have := pt_eqv r.1 r.2.1
          show ¬ (!PyData.eqv (.tuple [.int r.1, .int r.2.1]) (.tuple [.int r.1, .int r.2.1])) = true
          rw [this]
          decide
        have en : ((us.length : Int) - 1).toNat = S.length := by omega
        refine ⟨_, rfl, l, us, rfl, .inl (SqL.of h_l), _, _, rfl, ⟨by omega, by omega, by omega, by omega⟩, for_range (n := ((us.length : Int) - 1).toNat) (fun j σ H' => ∃ (kvs : List (L2.Key × V)) (v5 v6 v7 v8 : Option V), σ = [some (.ref a), some (.ref d), some (.int (i : Nat)), some x, some (.ref l), v5, v6, v7, v8] ∧ H' l = some (.lst us) ∧ KeepT H3 H' ∧ CrI d H (160 * i + 2 * j) H' kvs (crossS (inside (rs.take i) fun _ => []) (r.1, r.2.1) (S.take j))) ?_ ?_ ?_⟩
        · exact ⟨kvs, _, _, _, _, rfl, h_l, fun _ _ h => h, I⟩
        · rintro j σ H4 hj ⟨kvs, v5, v6, v7, v8, rfl, h_l, kt, I⟩
          obtain ⟨b, eb, hb⟩ := hpt j (by omega)
          obtain ⟨c, ec, hc⟩ := hpt (j + 1) (by omega)
          have hb0' := hb
          have hb := kt _ _ hb
          have hc := kt _ _ hc
          obtain ⟨g, eg, _⟩ := get_of (l := S) (j := j) (by omega)
          have et : S.take (j + 1) = S.take j ++ [g] := by rw [List.take_add_one, eg] <;> rfl
          have ecr := crossS_snoc (inside (rs.take i) fun _ => []) (r.1, r.2.1) (S.take j) g
          have een := endp_snoc (r.1, r.2.1) (S.take j) g
          rw [← et] at ecr een
          rw [← een] at ecr
          generalize endp (r.1, r.2.1) (S.take j) = A0 at *
          generalize endp (r.1, r.2.1) (S.take (j + 1)) = A1 at *
          generalize eR : crossS (inside (rs.take i) fun _ => []) (r.1, r.2.1) (S.take j) = R at *
          have ej1 : (1 : Int) + (j : Int) - 1 = ((j : Nat) : Int) := by omega
          have ej2 : (1 : Int) + (j : Int) = ((j + 1 : Nat) : Int) := by omega
          refine ⟨_, rfl, _, rfl, _, _, rfl, rfl, l, _, _, _, rfl, rfl, SqL.of h_l, (by rw [ej1]; exact atI_nat eb), _, rfl, _, rfl, l, _, _, _, rfl, rfl, SqL.of h_l, (by rw [ej2]; exact atI_nat ec), _, _, rfl, ?_⟩
          refine ⟨_, rfl, b, _, _, _, rfl, rfl, SqT.of hb, rfl, _, rfl, c, _, _, _, rfl, rfl, SqT.of hc, rfl, rfl, _, rfl, ite2 (fun hq => ?_) (fun hq => ?_)⟩
          · have hq2 : A0.1 = A1.1 := by
              have h3 := of_decide_eq_true hq
              injection h3
            have ecr2 : crossS (inside (rs.take i) fun _ => []) (r.1, r.2.1) (S.take (j + 1)) = fun row => if row = (if A1.2 < A0.2 then A1.2 else A0.2) then R row ++ [A0.1] else R row := by
              rw [ecr]
              unfold crossF
              rw [if_pos hq2]
            refine ⟨_, rfl, b, _, _, _, rfl, rfl, SqT.of hb, rfl, _, rfl, c, _, _, _, rfl, rfl, SqT.of hc, rfl, _, _, rfl, ?_⟩
            generalize (if A1.2 < A0.2 then A1.2 else A0.2) = row at *
            refine ⟨fun σ' H' => ∃ (kvs : List (L2.Key × V)) (lr : Addr), σ' = [some (.ref a), some (.ref d), some (.int (i : Nat)), some x, some (.ref l), some (.int (1 + (j : Nat))), some (.ref b), some (.ref c), some (.int row)] ∧ H' l = some (.lst us) ∧ KeepT H3 H' ∧ CrI d H (160 * i + 2 * j + 1) H' kvs R ∧ valV kvs (Sum.inl row) = some (.ref lr), ?_, ?_⟩
            · refine ⟨_, rfl, _, rfl, d, _, rfl, DGet.k (k := Sum.inl row) I.dd, _, rfl, ite2 (fun hn => ?_) (fun hn => ?_)⟩
              · have hn : valV kvs (Sum.inl row) = none := by
                  cases e : valV kvs (Sum.inl row) with
                  | none => rfl
                  | some v => rw [e] at hn; exact absurd hn (by simp)
                have hkl := I.len
                refine ⟨(by show 0 ≤ sizeLine; omega), fun q n_q => ⟨_, rfl, _, rfl, d, _, rfl, DPut.k (k := Sum.inl row) (((Fr.new n_q : Fr [] H4 _)).k0 I.dd) (by omega), ?_⟩⟩
                have I2 := I.row n_d hn n_q
                have lq := ne_of_none h_l n_q
                refine ⟨_, q, rfl, ?_, ?_, I2, by rw [valV_put, if_pos rfl]⟩
                · rw [upd_ne ld, upd_ne lq]
                  exact h_l
                · exact fun t xs h => (Fr.put ((Fr.new n_q : Fr [] H4 _).k0 I.dd)).t _ _ ((Fr.new (M := []) n_q).t _ _ (kt t xs h))
              · cases e : valV kvs (Sum.inl row) with
                | none => rw [e] at hn; exact (hn rfl).elim
                | some v =>
                  obtain ⟨lr, rfl, _⟩ := I.all _ _ e
                  exact ⟨kvs, lr, rfl, h_l, kt, I.le (by omega), e⟩
            · rintro σ' H5 ⟨kvs, lr, rfl, h_l, kt, I, hlr⟩
              obtain ⟨h_lr, I2⟩ := I.app (x := A0.1) hlr
              have hrl := I.rl row
              have hb := kt _ _ hb0'
              refine ⟨_, rfl, _, rfl, d, _, rfl, dget_k (k := Sum.inl row) I.dd hlr, Or.inl ⟨rfl, _, SqL.of h_lr⟩, _, rfl, b, _, _, _, rfl, rfl, SqT.of hb, rfl, _, _, _, rfl, rfl, h_lr, (by rw [List.length_map]; omega), kvs, _, _, _, _, rfl, ?_, fun t xs h => (Fr.put h_lr).t _ _ (kt t xs h), by rw [ecr2]; exact I2.le (by omega)⟩
              refine (Fr.put h_lr).k1 h_l (fun z => ?_)
              rw [← z, h_l] at h_lr
              injection h_lr with h_lr
              injection h_lr with h_lr
              rw [h_lr, List.getElem?_map] at e0
              cases e9 : (R row)[0]? with
              | none => rw [e9] at e0; cases e0
              | some n9 => rw [e9] at e0; cases e0
          · refine ⟨kvs, _, _, _, _, rfl, h_l, kt, ?_⟩
            have hq2 : ¬ A0.1 = A1.1 := fun z => hq (decide_eq_true (by rw [z]))
            rw [ecr]
            unfold crossF
            rw [if_neg hq2]
            exact I.le (by omega)
        · rintro σ H4 ⟨kvs, v5, v6, v7, v8, rfl, h_l, kt, I⟩
          have et : rs.take (i + 1) = rs.take i ++ [r] := by rw [List.take_add_one, er] <;> rfl
          rw [en] at I
          have ei := inside_snoc (rs.take i) r (fun _ => []) hr
          rw [hS, ← et] at ei
          rw [List.take_of_length_le (Nat.le_refl _), ← ei] at I
          exact ⟨kvs, _, _, _, _, _, _, _, rfl, I.le (by omega)⟩
    · rintro σ H1 ⟨kvs, v2, v3, v4, v5, v6, v7, v8, rfl, I⟩
      refine ⟨_, rfl, ?_⟩
      rw [show rs.take vs.length = rs from List.take_of_length_le (by omega)] at I
      have hvn : 160 * vs.length ≤ 480 := by omega
      refine k d kvs H1 n_d I.dd (Nat.le_trans I.len hvn) I.ks (fun row v h => ?_) I.fr
      obtain ⟨l, e, h1, h0⟩ := I.all row v h
      obtain ⟨q1, q2⟩ := inside_ok (R := fun _ => []) hok (fun _ => ⟨rfl, fun x hx => by cases hx⟩) row
      exact ⟨l, _, e, h0, h1, q1, Nat.le_trans (inside_len _ _) (by show 0 + 2 * rs.length ≤ 6; omega), q2⟩
end

end K45

set_option maxHeartbeats 4000000
namespace K45
open PySem PySem.Spec PyProof.Rows L2
section
variable {P : Program} {w : World} {K : PySem.W.Frag} {mg : Str → Option Value} {base : Heap}
/-- the cells so far -/
structure CelI (l d : Addr) (kvs : List (L2.Key × V)) (H0 : Hp) (n : Nat) (H' : Hp) (us : List V) : Prop where
  cl : H' l = some (.lst us)
  u : us.length ≤ n
  p : Pairs H' us
  d : H' d = some (.dK kvs)
  rows : ∀ (row : Int) (v : V), valV kvs (Sum.inl row) = some v → ∃ (b : Addr) (xs : List Int), v = .ref b ∧ b ≠ l ∧ H' b = some (.lst (xs.map V.int)) ∧ RowOk 6 xs
  fr : Fr [] H0 H'
theorem CelI.k0 {l d : Addr} {kvs : List (L2.Key × V)} {H0 : Hp} {n : Nat} {H1 H2 : Hp} {us : List V} (I : CelI l d kvs H0 n H1 us) (f : Fr [] H1 H2) : CelI l d kvs H0 n H2 us :=
  ⟨f.k0 I.cl, I.u, I.p.mono f.t, f.k0 I.d, fun r v h => let ⟨b, xs, e, n, h1, h2⟩ := I.rows r v h; ⟨b, xs, e, n, f.k0 h1, h2⟩, I.fr.t0 f⟩
theorem CelI.le {l d : Addr} {kvs : List (L2.Key × V)} {H0 : Hp} {n m : Nat} {H1 : Hp} {us : List V} (I : CelI l d kvs H0 n H1 us) (h : n ≤ m) : CelI l d kvs H0 m H1 us :=
  ⟨I.cl, Nat.le_trans I.u h, I.p, I.d, I.rows, I.fr⟩
theorem CelI.app {l d : Addr} {kvs : List (L2.Key × V)} {H0 : Hp} {n : Nat} {H1 : Hp} {us : List V} (I : CelI l d kvs H0 n H1 us) (l0 : H0 l = none) {q : Addr} {x y : Int} (h : H1 q = some (.tup [.int x, .int y])) : CelI l d kvs H0 (n + 1) (upd H1 l (.lst (us ++ [.ref q]))) (us ++ [.ref q]) :=
  ⟨upd_same, by rw [List.length_append]; exact Nat.succ_le_succ I.u, (I.p.snoc h).mono (Fr.put I.cl).t, (Fr.put I.cl).k1 I.d (ne_of I.d I.cl (by intro z; cases z)), fun r v e => let ⟨b, xs, e, n, h1, h2⟩ := I.rows r v e; ⟨b, xs, e, n, (Fr.put I.cl).k1 h1 n, h2⟩, I.fr.t1 (Fr.put I.cl) (.inr l0)⟩
theorem keys_int {kvs : List (L2.Key × V)} (h : ∀ kv ∈ kvs, ∃ row : Int, kv.1 = Sum.inl row) : ∃ ns : List Int, (kvs.map fun kv => kV kv.1) = ns.map V.int ∧ ns.length = kvs.length ∧ ∀ n ∈ ns, ∃ v, valV kvs (Sum.inl n) = some v := by
  have key : ∀ l : List (L2.Key × V), (∀ kv ∈ l, ∃ row : Int, kv.1 = Sum.inl row) → (∀ kv ∈ l, kv ∈ kvs) → ∃ ns : List Int, (l.map fun kv => kV kv.1) = ns.map V.int ∧ ns.length = l.length ∧ ∀ n ∈ ns, ∃ v, valV kvs (Sum.inl n) = some v := by
    intro l
    induction l with
    | nil => intro _ _; exact ⟨[], rfl, rfl, fun n h => by cases h⟩
    | cons kv l ih =>
      intro h1 h2
      obtain ⟨ns, e1, e2, e3⟩ := ih (fun x hx => h1 x (List.mem_cons_of_mem _ hx)) (fun x hx => h2 x (List.mem_cons_of_mem _ hx))
      obtain ⟨row, er⟩ := h1 kv List.mem_cons_self
      refine ⟨row :: ns, ?_, by rw [List.length_cons, List.length_cons, e2], fun n hn => ?_⟩
      · rw [List.map_cons, List.map_cons, e1, er] <;> rfl
      · rcases List.mem_cons.mp hn with rfl | hn
        · have hm := h2 kv List.mem_cons_self
          have : (Sum.inl n, kv.2) ∈ kvs := by rw [← er]; exact hm
          exact mem_valV this
        · exact e3 n hn
  exact key kvs h fun _ h => h
abbrev s_inkof : Stmt := top 29
abbrev N_inkof : List Str := ["outlines", "cells", "crossings", "row", "places", "k", "x"]
theorem sc_inkof : FnScope ["outlines", "cells", "crossings", "row", "places", "k", "x"] ["outlines"] (defScope s_inkof) := ⟨rfl, rfl, rfl, by decide +kernel, rfl, by decide +kernel, by decide +kernel⟩
theorem c_inkof (F : Df K mg "ink_of" s_inkof) (G : Gn mg) {CS CI CF : Addr} (c_crossings_of : C8.Cal P w K mg base 5 "crossings_of" spCross []) (m_Ink : C8.Mak P w K mg base 1 "Ink" CI (spInk CI) []) : C8.Cal P w K mg base 6 "ink_of" (spInkOf CI) [] := by
  refine cal_by F sc_inkof (fun _ _ _ _ _ _ us hl => match us, hl with | [_], _ => rfl) (fun vs H Q E h => ?_) (fun f cdv A outer s H vs Q E hr h => ?_)
  · obtain ⟨v, rs, rfl, _⟩ := h
    rfl
  · obtain ⟨v, rs, rfl, hv, hrl, hok, k⟩ := h
    have sc := sc_inkof
    have hu := hu_of hr
    refine ⟨_, (pss_cons (ps_set (i := 1) sc.nd rfl (Or.inl rfl) (pe_lst pa_nil))
      (pss_cons (ps_set (i := 2) sc.nd rfl (Or.inl rfl) (C8.pe_c c_crossings_of hr (by decide) rfl (pa_cons (pv 0) pa_nil)))
      (pss_cons (ps_for PassesOwn.never rfl (pi_list (pe_callB cr_sortedI rfl G.n_sorted (by decide +kernel) (pa_cons (pe_callTy (call_list_dK rfl) rfl G.n_list (by decide +kernel) (pa_cons (pv 2) pa_nil)) pa_nil))) (pg_name (i := 3) sc.nd rfl (Or.inl rfl))
        (pss_cons (ps_set (i := 4) sc.nd rfl (Or.inl rfl) (pe_callB cr_sortedI rfl G.n_sorted (by decide +kernel) (pa_cons (pe_dget hu (pv 2) (pv 3) (fun _ _ => rfl)) pa_nil)))
        (pss_one (ps_for PassesOwn.never rfl (pi_range3 rfl G.n_range (pa_cons pe_int (pa_cons (pe_callB call_len_seq rfl G.n_len (by decide +kernel) (pa_cons (pv 4) pa_nil)) (pa_cons pe_int pa_nil)))) (pg_name (i := 5) sc.nd rfl (Or.inl rfl))
          (pss_one (ps_for PassesOwn.never rfl (pi_range2 rfl G.n_range (pa_cons (pe_ix ix_list (pv 4) (pv 5) (fun _ _ => rfl)) (pa_cons (pe_ix ix_list (pv 4) (pe_op op_add (pv 5) pe_int) (fun _ _ => rfl)) pa_nil))) (pg_name (i := 6) sc.nd rfl (Or.inl rfl))
            (pss_one (ps_expr (pe_bm PySem.F.plainAttrs_list PySem.F.slot_list_append PySem.F.type_list_append mt_append (pv 1) (pa_cons (pe_tup (pa_cons (pv 6) (pa_cons (pv 3) pa_nil))) pa_nil))))))))))
      (pss_one (ps_ret (C8.pe_mk m_Ink hr (by decide) rfl (pa_cons (pv 1) pa_nil))))))), ?_⟩
    have hz := big
    refine ⟨(by show 0 ≤ sizeLine; omega), fun l n_l => ?_⟩
    generalize eH_l : upd H l _ = H0
    have ev_l : ∀ {M : List Addr}, Fr M H H0 := by intro M; rw [← eH_l]; exact Fr.new n_l
    have h_l : H0 l = some (.lst []) := by rw [← eH_l]; exact upd_same
    clear eH_l
    refine ⟨_, rfl, _, _, rfl, hv.mono (ev_l (M := [])).t, hrl, hok, fun d kvs H1 n_d h_d hkl hks hrows f1 => ?_⟩
    have I : CelI l d kvs H 0 H1 [] := ⟨f1.k0 h_l, Nat.le_refl _, (fun u h => by cases h), h_d, fun r v h => (let ⟨b, xs, e, h0, h1, h2⟩ := hrows r v h; ⟨b, xs, e, (ne_of_none h_l h0).symm, h1, h2⟩), (ev_l (M := [])).t0 f1⟩
    obtain ⟨ns, ens, hnl, hns⟩ := keys_int hks
    refine ⟨_, rfl, d, kvs, rfl, h_d, fun q n_q => ?_⟩
    rw [ens]
    generalize eH_q : upd H1 q _ = H2
    have ev_q : ∀ {M : List Addr}, Fr M H1 H2 := by intro M; rw [← eH_q]; exact Fr.new n_q
    have h_q : H2 q = some (.lst (ns.map V.int)) := by rw [← eH_q]; exact upd_same
    clear eH_q
    have I := I.k0 ev_q
    refine ⟨q, ns, rfl, SqL.of h_q, fun ms p hms _ n_p => ?_⟩
    have pl := ne_of_none I.cl n_p
    generalize eH_p : upd H2 p _ = H3
    have ev_p : ∀ {M : List Addr}, Fr M H2 H3 := by intro M; rw [← eH_p]; exact Fr.new n_p
    have h_p : H3 p = some (.lst (ms.map V.int)) := by rw [← eH_p]; exact upd_same
    clear eH_p
    have I := I.k0 ev_p
    have hml : ms.length ≤ 480 := by rw [hms.length_eq]; omega
    refine ⟨p, rfl, ⟨_, SqL.of h_p⟩, for_list (xs := ms.map V.int) (fun i σ H' => ∃ (us : List V) (v3 v4 v5 v6 : Option V), σ = [some v, some (.ref l), some (.ref d), v3, v4, v5, v6] ∧ CelI l d kvs H (600 * i) H' us ∧ H' p = some (.lst (ms.map V.int))) ?_ ?_ ?_ ?_⟩
    · exact ⟨[], _, _, _, _, rfl, I, h_p⟩
    · rintro i σ H4 _ ⟨us, v3, v4, v5, v6, rfl, I, h_p⟩
      exact SqL.of h_p
    · rintro i x σ H4 hi ⟨us, v3, v4, v5, v6, rfl, I, h_p⟩
      rw [List.getElem?_map] at hi
      cases em : ms[i]? with
      | none => rw [em] at hi; cases hi
      | some row =>
        rw [em] at hi
        cases hi
        have hil := (List.getElem?_eq_some_iff.mp em).1
        obtain ⟨v, hv⟩ := hns row (hms.mem_iff.mp (List.mem_of_getElem? em))
        obtain ⟨b, xs, rfl, bl, hb, hx1, hx2, hx3⟩ := I.rows row v hv
        refine ⟨_, rfl, _, rfl, d, _, rfl, dget_k (k := Sum.inl row) I.d hv, b, xs, rfl, SqL.of hb, fun ys t hys _ n_t => ?_⟩
        have lt := ne_of_none I.cl n_t
        have pt := ne_of_none h_p n_t
        generalize eH_t : upd H4 t _ = H5
        have ev_t : ∀ {M : List Addr}, Fr M H4 H5 := by intro M; rw [← eH_t]; exact Fr.new n_t
        have h_t : H5 t = some (.lst (ys.map V.int)) := by rw [← eH_t]; exact upd_same
        clear eH_t
        have I := I.k0 ev_t
        have h_p := (ev_t (M := [])).k0 h_p
        have hyl := hys.length_eq
        refine ⟨_, rfl, t, _, rfl, .inl (SqL.of h_t), _, _, _, (ys.length / 2), rfl, ?_, for_rangeC (n := ys.length / 2) (fun j σ H' => ∃ (us : List V) (v5 v6 : Option V), σ = [some v, some (.ref l), some (.ref d), some (.int row), some (.ref t), v5, v6] ∧ CelI l d kvs H (600 * i + 200 * j) H' us ∧ H' p = some (.lst (ms.map V.int)) ∧ H' t = some (.lst (ys.map V.int))) ?_ ?_ ?_⟩
        · rw [List.length_map]
          exact rgc_two (n := ys.length) (by rw [hyl]; exact hx1) (by omega)
        · exact ⟨us, _, _, rfl, I, h_p, h_t⟩
        · rintro j σ H6 hj ⟨us, v5, v6, rfl, I, h_p, h_t⟩
          obtain ⟨y1, e1, m1⟩ := get_of (l := ys) (j := 2 * j) (by omega)
          obtain ⟨y2, e2, m2⟩ := get_of (l := ys) (j := 2 * j + 1) (by omega)
          obtain ⟨y10, y11⟩ := hx3 y1 (hys.mem_iff.mp m1)
          obtain ⟨y20, y21⟩ := hx3 y2 (hys.mem_iff.mp m2)
          refine ⟨_, rfl, _, rfl, t, _, _, _, rfl, rfl, SqL.of h_t, (by rw [show (0 : Int) + (j : Nat) * 2 = ((2 * j : Nat) : Int) by omega]; exact atI_nat (by rw [List.getElem?_map, e1] <;> rfl)), _, rfl, _, rfl, _, _, rfl, rfl, t, _, _, _, rfl, rfl, SqL.of h_t, (by rw [show (0 : Int) + (j : Nat) * 2 + 1 = ((2 * j + 1 : Nat) : Int) by omega]; exact atI_nat (by rw [List.getElem?_map, e2] <;> rfl)), y1, y2, rfl, ⟨by omega, by omega, by omega, by omega⟩,
            for_range (n := (y2 - y1).toNat) (fun m σ H' => ∃ (us : List V) (v6 : Option V), σ = [some v, some (.ref l), some (.ref d), some (.int row), some (.ref t), some (.int (0 + (j : Nat) * 2)), v6] ∧ CelI l d kvs H (600 * i + 200 * j + m) H' us ∧ H' p = some (.lst (ms.map V.int)) ∧ H' t = some (.lst (ys.map V.int))) ?_ ?_ ?_⟩
          · exact ⟨us, _, rfl, I, h_p, h_t⟩
          · rintro m σ H7 hm ⟨us, v6, rfl, I, h_p, h_t⟩
            refine ⟨_, rfl, Or.inl ⟨rfl, _, SqL.of I.cl⟩, _, rfl, _, rfl, (by show 2 ≤ sizeLine; omega), fun q3 n_q3 => ?_⟩
            generalize eH_q3 : upd H7 q3 _ = H8
            have ev_q3 : ∀ {M : List Addr}, Fr M H7 H8 := by intro M; rw [← eH_q3]; exact Fr.new n_q3
            have h_q3 : H8 q3 = some (.tup [.int (y1 + (m : Nat)), .int row]) := by rw [← eH_q3]; exact upd_same
            clear eH_q3
            have I := I.k0 ev_q3
            have h_p := (ev_q3 (M := [])).k0 h_p
            have h_t := (ev_q3 (M := [])).k0 h_t
            have hu := I.u
            refine ⟨_, _, _, rfl, rfl, I.cl, (by omega), _, _, rfl, I.app n_l h_q3, (Fr.put I.cl).k1 h_p pl.symm, (Fr.put I.cl).k1 h_t lt.symm⟩
          · rintro σ H7 ⟨us, v6, rfl, I, h_p, h_t⟩
            exact ⟨us, _, _, rfl, I.le (by omega), h_p, h_t⟩
        · rintro σ H6 ⟨us, v5, v6, rfl, I, h_p, h_t⟩
          exact ⟨us, _, _, _, _, rfl, I.le (by omega), h_p⟩
    · rintro σ H4 ⟨us, v3, v4, v5, v6, rfl, I, h_p⟩
      rw [List.length_map] at I
      have hu := I.u
      refine ⟨_, rfl, fun x dx n_x n_dx dne => ?_⟩
      have f : ∀ {M : List Addr}, Fr M H4 (upd (upd H4 dx (.own x)) x (.ins CI dx [])) := Fr.made n_x n_dx dne
      refine ⟨x, l, dx, us, rfl, upd_same, (f (M := [])).k0 I.cl, I.p.mono (f (M := [])).t, (by omega), fun H5 hink f5 => ⟨rfl, k x H5 (I.fr.d _ n_x) hink ?_⟩⟩
      exact (I.fr.t0 f).t1 f5 (.inr (I.fr.d _ n_x))
end

end K45

set_option maxHeartbeats 4000000
namespace K45
open PySem PySem.Spec PyProof.Rows L2
section
variable {P : Program} {w : World} {K : PySem.W.Frag} {mg : Str → Option Value} {base : Heap}
def YX (k : List L2.Key) : Prop := ∃ y x : Int, k = [Sum.inl y, Sum.inl x]
theorem paired_mem {α β : Type} {F : α → β → Prop} : ∀ {l : List α} {m : List β}, Paired F l m → ∀ b ∈ m, ∃ a ∈ l, F a b
  | _, _, .nil, b, h => by cases h
  | _, _, .cons f r, b, h => by
    rcases List.mem_cons.mp h with rfl | h
    · exact ⟨_, List.mem_cons_self, f⟩
    · obtain ⟨a, h1, h2⟩ := paired_mem r b h
      exact ⟨a, List.mem_cons_of_mem _ h1, h2⟩
abbrev s_ink : Stmt := inClass (top 27) 0
abbrev N_ink : List Str := ["self", "cells", "found", "x", "y", "ordered", "lefts", "rights", "known"]
theorem sc_ink : FnScope ["self", "cells", "found", "x", "y", "ordered", "lefts", "rights", "known"] ["self", "cells"] (defScope s_ink) := ⟨rfl, rfl, rfl, by decide +kernel, rfl, by decide +kernel, by decide +kernel⟩
theorem m_ink {CS CI CF : Addr} (F : Di K mg "Ink" "Ink.__init__" CI s_ink) (G : Gn mg) (T : Ct K mg CS CI CF)   : C8.Mak P w K mg base 1 "Ink" CI (spInk CI) [] := by
  refine mak_by F sc_ink (fun _ _ _ _ _ _ us hl => match us, hl with | [_, _], _ => rfl) (fun vs H Q E h => ?_) (fun f cdv A outer s H vs Q E hr h => ?_)
  · obtain ⟨a, c, dx, us, rfl, _⟩ := h
    rfl
  · obtain ⟨a, c, dx, us, rfl, h_a, h_c, hp, hul, k⟩ := h
    have sc := sc_ink
    have hu := hu_of hr
    refine ⟨_, (pss_cons (ps_set (i := 2) sc.nd rfl (Or.inl rfl) pe_dnewT)
      (pss_cons (ps_for PassesOwn.never rfl (pi_list (pv 1)) (pg_tup rfl (pgs_cons (pg_name (i := 3) sc.nd rfl (Or.inl rfl)) (pgs_cons (pg_name (i := 4) sc.nd rfl (Or.inl rfl)) pgs_nil)))
        (pss_one (ps_dput hu (pv 2) (pe_tup (pa_cons (pv 4) (pa_cons (pv 3) pa_nil))) pe_bl rfl)))
      (pss_cons (ps_setLc (i := 5) (own := [("y", 4), ("x", 3)])  rfl sc.nd rfl rfl (sw_true rfl rfl rfl (by decide +kernel)) (pi_list (pe_callB cr_sortedP rfl G.n_sorted (by decide +kernel) (pa_cons (pe_callTy (call_list_dT rfl) rfl G.n_list (by decide +kernel) (pa_cons (pv 2) pa_nil)) pa_nil))) (blkOk_by (N := N_ink) (sc := defScope s_ink) (by decide +kernel)) (fun _ _ _ _ _ => (pg_tupB (n := 2) rfl (pgs_cons (pg_name (i := 4) sc.nd rfl (Or.inl rfl) (Or.inr rfl)) (pgs_cons (pg_name (i := 3) sc.nd rfl (Or.inl rfl) (Or.inr rfl)) pgs_nil)) rfl rfl)) (fun _ _ _ _ _ => pts_nil) (fun _ _ _ _ _ => (pe_tup (pa_cons (pv 3) (pa_cons (pv 4) pa_nil)))))
      (pss_cons (ps_set (i := 6) sc.nd rfl (Or.inl rfl) pe_dnewK)
      (pss_cons (ps_set (i := 7) sc.nd rfl (Or.inl rfl) pe_dnewK)
      (pss_cons (ps_set (i := 8) sc.nd rfl (Or.inl rfl) pe_dnewT)
      (pss_cons (ps_for PassesOwn.never rfl (pi_list (pv 5)) (pg_tup rfl (pgs_cons (pg_name (i := 3) sc.nd rfl (Or.inl rfl)) (pgs_cons (pg_name (i := 4) sc.nd rfl (Or.inl rfl)) pgs_nil)))
        (C8.pss_cut (ps_if (pt_cmp (pc_dnotin hu (pv 4) (pv 6)))
          (pss_one (ps_dput hu (pv 6) (pv 4) (pv 3) rfl))
          pss_nil)
        (pss_cons (ps_dput hu (pv 7) (pv 4) (pe_op op_add (pv 3) pe_int) rfl)
        (pss_one (ps_dput hu (pv 8) (pe_tup (pa_cons (pv 3) (pa_cons (pv 4) pa_nil))) pe_bl rfl)))))
      (pss_cons (ps_fld (pv 0) (pv 5) rfl)
      (pss_cons (ps_fld (pv 0) (pv 8) rfl)
      (pss_cons (ps_fld (pv 0) (pv 6) rfl)
      (pss_one (ps_fld (pv 0) (pv 7) rfl)))))))))))), ?_⟩
    have hz := big
    intro d n_d
    have da := ne_of_none h_a n_d
    have d0 := n_d
    generalize eH_d : upd H d _ = H1
    have ev_d : ∀ {M : List Addr}, Fr M H H1 := by intro M; rw [← eH_d]; exact Fr.new n_d
    have h_d : H1 d = some (.dT []) := by rw [← eH_d]; exact upd_same
    clear eH_d
    refine ⟨_, rfl, c, rfl, ⟨_, SqL.of ((ev_d (M := [])).k0 h_c)⟩, for_list (xs := us) (fun i σ H' => ∃ (kvs : List (List L2.Key × V)) (v3 v4 : Option V), σ = [some (.ref a), some (.ref c), some (.ref d), v3, v4, none, none, none, none] ∧ H' d = some (.dT kvs) ∧ kvs.length ≤ i ∧ (∀ kv ∈ kvs, YX kv.1) ∧ Fr [] H H') ?_ ?_ ?_ ?_⟩
    · exact ⟨[], _, _, rfl, h_d, Nat.le_refl _, (fun kv h => by cases h), ev_d⟩
    · rintro i σ H2 _ ⟨kvs, v3, v4, rfl, h_d, hl, hk, fr⟩
      exact SqL.of (fr.k0 h_c)
    · rintro i u σ H2 hi ⟨kvs, v3, v4, rfl, h_d, hl, hk, fr⟩
      have hil := (List.getElem?_eq_some_iff.mp hi).1
      obtain ⟨b, x, y, rfl, hb⟩ := hp u (List.mem_of_getElem? hi)
      refine ⟨_, _, rfl, SqT.of (fr.k0 hb), rfl, _, _, rfl, _, _, rfl, rfl, _, rfl, _, rfl, _, rfl, (by show 2 ≤ sizeLine; omega), fun q n_q => ?_⟩
      generalize eH_q : upd H2 q _ = H3
      have ev_q : ∀ {M : List Addr}, Fr M H2 H3 := by intro M; rw [← eH_q]; exact Fr.new n_q
      have h_q : H3 q = some (.tup [.int y, .int x]) := by rw [← eH_q]; exact upd_same
      clear eH_q
      have h_d := (ev_q (M := [])).k0 h_d
      refine ⟨d, _, rfl, DPut.t (k := [Sum.inl y, Sum.inl x]) h_d h_q (by omega), _, _, _, rfl, upd_same, Nat.le_trans (length_putK _ _ _) (by omega), fun kv hkv => ?_, (fr.t0 ev_q).t1 (Fr.put h_d) (.inr d0)⟩
      rcases mem_putK hkv with e | e
      · exact ⟨y, x, by rw [e]⟩
      · exact hk kv e
    · rintro σ H2 ⟨kvs, v3, v4, rfl, h_d, hl, hk, fr⟩
      -- ordered
      refine ⟨_, rfl, d, kvs, rfl, Rd.of h_d, fun p bs n_p hbs => ?_⟩
      have pl : bs.length = kvs.length := (Paired.length hbs).symm
      generalize eH_p : upd H2 p _ = H3
      have ev_p : ∀ {M : List Addr}, Fr M H2 H3 := by intro M; rw [← eH_p]; exact Fr.new n_p
      have h_p : H3 p = some (.lst (bs.map V.ref)) := by rw [← eH_p]; exact upd_same
      clear eH_p
      refine ⟨p, _, rfl, SqL.of h_p, fun v hv => ?_, fun ys t hys n_t => ?_⟩
      · obtain ⟨b, hb, rfl⟩ := List.mem_map.mp hv
        obtain ⟨kv, hkv, e⟩ := paired_mem hbs b hb
        obtain ⟨y, x, e2⟩ := hk kv hkv
        rw [e2] at e
        exact ⟨b, y, x, rfl, (ev_p (M := [])).k0 e⟩
      have hyl : ys.length = bs.length := by rw [hys.length_eq, List.length_map]
      have hys2 : ∀ v ∈ ys, ∃ (b : Addr) (y x : Int), v = .ref b ∧ H3 b = some (.tup [.int y, .int x]) := fun v hv => by
        obtain ⟨b, hb, rfl⟩ := List.mem_map.mp (hys.mem_iff.mp hv)
        obtain ⟨kv, hkv, e⟩ := paired_mem hbs b hb
        obtain ⟨y, x, e2⟩ := hk kv hkv
        rw [e2] at e
        exact ⟨b, y, x, rfl, (ev_p (M := [])).k0 e⟩
      generalize eH_t : upd H3 t _ = H4
      have ev_t : ∀ {M : List Addr}, Fr M H3 H4 := by intro M; rw [← eH_t]; exact Fr.new n_t
      have h_t : H4 t = some (.lst ys) := by rw [← eH_t]; exact upd_same
      clear eH_t
      have fr := (fr.t0 ev_p).t0 ev_t
      refine ⟨t, rfl, ⟨_, SqL.of h_t⟩, fun D n_D => ?_⟩
      have D0 := fr.d _ n_D
      have tD := ne_of_none h_t n_D
      refine lc_list (xs := ys) (fun i H' => ∃ ws : List V, H' D = some (.lst ws) ∧ ws.length = i ∧ Pairs H' ws ∧ H' t = some (.lst ys) ∧ KeepT H4 H' ∧ Fr [] H H') ?_ ?_ ?_ ?_
      · exact ⟨[], upd_same, rfl, (fun u h => by cases h), (Fr.new (M := []) n_D).k0 h_t, (Fr.new (M := []) n_D).t, fr.t0 (Fr.new n_D)⟩
      · rintro i H5 _ ⟨ws, h_D, hwl, hwp, h_t, kt, fr⟩
        exact SqL.of h_t
      · rintro i v H5 hi ⟨ws, h_D, hwl, hwp, h_t, kt, fr⟩
        have hil := (List.getElem?_eq_some_iff.mp hi).1
        obtain ⟨b, y, x, rfl, hb⟩ := hys2 v (List.mem_of_getElem? hi)
        have hb := kt _ _ ((ev_t (M := [])).t _ _ hb)
        refine ⟨_, _, rfl, SqT.of (hb), rfl, _, _, rfl, _, _, rfl, rfl, rfl, _, rfl, _, rfl, (by show 2 ≤ sizeLine; omega), fun q n_q => ?_⟩
        generalize eH_q : upd H5 q _ = H6
        have ev_q : ∀ {M : List Addr}, Fr M H5 H6 := by intro M; rw [← eH_q]; exact Fr.new n_q
        have h_q : H6 q = some (.tup [.int x, .int y]) := by rw [← eH_q]; exact upd_same
        clear eH_q
        have h_D := (ev_q (M := [])).k0 h_D
        have h_t := (ev_q (M := [])).k0 h_t
        exact ⟨_, h_D, by omega, _, upd_same, by rw [List.length_append, hwl] <;> rfl, ((hwp.mono (ev_q (M := [])).t).snoc h_q).mono (Fr.put h_D).t, (Fr.put h_D).k1 h_t tD, fun t xs h => (Fr.put h_D).t _ _ ((ev_q (M := [])).t _ _ (kt t xs h)), (fr.t0 ev_q).t1 (Fr.put h_D) (.inr D0)⟩
      · rintro H5 ⟨ws, h_D, hwl, hwp, h_t, kt, fr⟩
        have hws : ws.length ≤ 300000 := by omega
        refine fun lf n_lf => ?_
        have lf0 := fr.d _ n_lf
        have Dlf := ne_of_none h_D n_lf
        generalize eH_lf : upd H5 lf _ = H6
        have ev_lf : ∀ {M : List Addr}, Fr M H5 H6 := by intro M; rw [← eH_lf]; exact Fr.new n_lf
        have h_lf : H6 lf = some (.dK []) := by rw [← eH_lf]; exact upd_same
        clear eH_lf
        have fr := fr.t0 ev_lf
        have h_D := (ev_lf (M := [])).k0 h_D
        refine fun rt n_rt => ?_
        have rt0 := fr.d _ n_rt
        have Drt := ne_of_none h_D n_rt
        have lr := ne_of_none h_lf n_rt
        generalize eH_rt : upd H6 rt _ = H7
        have ev_rt : ∀ {M : List Addr}, Fr M H6 H7 := by intro M; rw [← eH_rt]; exact Fr.new n_rt
        have h_rt : H7 rt = some (.dK []) := by rw [← eH_rt]; exact upd_same
        clear eH_rt
        have fr := fr.t0 ev_rt
        have h_D := (ev_rt (M := [])).k0 h_D
        have h_lf := (ev_rt (M := [])).k0 h_lf
        refine fun kn n_kn => ?_
        have kn0 := fr.d _ n_kn
        have Dkn := ne_of_none h_D n_kn
        generalize eH_kn : upd H7 kn _ = H8
        have ev_kn : ∀ {M : List Addr}, Fr M H7 H8 := by intro M; rw [← eH_kn]; exact Fr.new n_kn
        have h_kn : H8 kn = some (.dT []) := by rw [← eH_kn]; exact upd_same
        clear eH_kn
        have fr := fr.t0 ev_kn
        have h_D := (ev_kn (M := [])).k0 h_D
        have h_lf := (ev_kn (M := [])).k0 h_lf
        have h_rt := (ev_kn (M := [])).k0 h_rt
        have hwp := (((hwp.mono (ev_lf (M := [])).t).mono (ev_rt (M := [])).t).mono (ev_kn (M := [])).t)
        refine ⟨_, rfl, D, rfl, ⟨_, SqL.of h_D⟩, for_list (xs := ws) (fun i σ H' => ∃ (lk rk : List (L2.Key × V)) (kk : List (List L2.Key × V)) (v3 v4 : Option V), σ = [some (.ref a), some (.ref c), some (.ref d), v3, v4, some (.ref D), some (.ref lf), some (.ref rt), some (.ref kn)] ∧
          H' D = some (.lst ws) ∧ H' lf = some (.dK lk) ∧ lk.length ≤ i ∧ H' rt = some (.dK rk) ∧ rk.length ≤ i ∧ H' kn = some (.dT kk) ∧ kk.length ≤ i ∧ Pairs H' ws ∧ Fr [] H H') ?_ ?_ ?_ ?_⟩
        · exact ⟨[], [], [], _, _, rfl, h_D, h_lf, Nat.le_refl _, h_rt, Nat.le_refl _, h_kn, Nat.le_refl _, hwp, fr⟩
        · rintro i σ H9 _ ⟨lk, rk, kk, v3, v4, rfl, h_D, h_lf, l1, h_rt, l2, h_kn, l3, hwp, fr⟩
          exact SqL.of h_D
        · rintro i u σ H9 hi ⟨lk, rk, kk, v3, v4, rfl, h_D, h_lf, l1, h_rt, l2, h_kn, l3, hwp, fr⟩
          have hil := (List.getElem?_eq_some_iff.mp hi).1
          obtain ⟨b, x, y, rfl, hb⟩ := hwp u (List.mem_of_getElem? hi)
          refine ⟨_, _, rfl, SqT.of (hb), rfl, _, _, rfl, _, _, rfl, rfl, fun σ' H' => ∃ lk : List (L2.Key × V), σ' = [some (.ref a), some (.ref c), some (.ref d), some (.int x), some (.int y), some (.ref D), some (.ref lf), some (.ref rt), some (.ref kn)] ∧
            H' D = some (.lst ws) ∧ H' lf = some (.dK lk) ∧ lk.length ≤ i + 1 ∧ H' rt = some (.dK rk) ∧ H' kn = some (.dT kk) ∧ Pairs H' ws ∧ Fr [] H H', ?_, ?_⟩
          · refine ⟨_, rfl, _, rfl, lf, _, rfl, DGet.k (k := Sum.inl y) h_lf, _, rfl, ite2 (fun hn => ?_) (fun hn => ?_)⟩
            · refine ⟨_, rfl, _, rfl, _, rfl, lf, _, rfl, DPut.k (k := Sum.inl y) h_lf (by omega), _, rfl, (Fr.put h_lf).k1 h_D Dlf, upd_same, Nat.le_trans (length_putK _ _ _) (by omega), (Fr.put h_lf).k1 h_rt lr.symm, (Fr.put h_lf).k1 h_kn (ne_of h_kn h_lf (by intro z; cases z)), hwp.mono (Fr.put h_lf).t, fr.t1 (Fr.put h_lf) (.inr lf0)⟩
            · exact ⟨lk, rfl, h_D, h_lf, by omega, h_rt, h_kn, hwp, fr⟩
          · rintro σ' H10 ⟨lk, rfl, h_D, h_lf, l1, h_rt, h_kn, hwp, fr⟩
            have f1 := Fr.put (o := .dK (putK rk (Sum.inl y) (.int (x + 1)))) h_rt
            refine ⟨_, rfl, _, _, rfl, rfl, _, rfl, _, rfl, rt, _, rfl, DPut.k (k := Sum.inl y) h_rt (by omega), ?_⟩
            have h_kn := f1.k1 h_kn (ne_of h_kn h_rt (by intro z; cases z))
            have h_D := f1.k1 h_D Drt
            have h_lf := f1.k1 h_lf lr
            have hwp := hwp.mono f1.t
            have fr := fr.t1 f1 (.inr rt0)
            have h_rt : upd H10 rt (.dK (putK rk (Sum.inl y) (.int (x + 1)))) rt = some (.dK (putK rk (Sum.inl y) (.int (x + 1)))) := upd_same
            generalize upd H10 rt (.dK (putK rk (Sum.inl y) (.int (x + 1)))) = H11 at *
            refine ⟨_, rfl, _, rfl, _, rfl, (by show 2 ≤ sizeLine; omega), fun q n_q => ?_⟩
            generalize eH_q : upd H11 q _ = H12
            have ev_q : ∀ {M : List Addr}, Fr M H11 H12 := by intro M; rw [← eH_q]; exact Fr.new n_q
            have h_q : H12 q = some (.tup [.int x, .int y]) := by rw [← eH_q]; exact upd_same
            clear eH_q
            have h_kn := (ev_q (M := [])).k0 h_kn
            have f2 := Fr.put (o := .dT (putK kk [Sum.inl x, Sum.inl y] (.bl true))) h_kn
            refine ⟨kn, _, rfl, DPut.t (k := [Sum.inl x, Sum.inl y]) h_kn h_q (by omega), _, _, _, _, _, rfl, f2.k1 ((ev_q (M := [])).k0 h_D) Dkn, f2.k1 ((ev_q (M := [])).k0 h_lf) (ne_of ((ev_q (M := [])).k0 h_lf) h_kn (by intro z; cases z)), l1, f2.k1 ((ev_q (M := [])).k0 h_rt) (ne_of ((ev_q (M := [])).k0 h_rt) h_kn (by intro z; cases z)), Nat.le_trans (length_putK _ _ _) (by omega), upd_same, Nat.le_trans (length_putK _ _ _) (by omega), (hwp.mono (ev_q (M := [])).t).mono f2.t, (fr.t0 ev_q).t1 f2 (.inr kn0)⟩
        · rintro σ H9 ⟨lk, rk, kk, v3, v4, rfl, h_D, h_lf, l1, h_rt, l2, h_kn, l3, hwp, fr⟩
          have h_a := fr.k0 h_a
          have aD := ne_of h_a h_D (by intro z; cases z)
          have a1 := Fr.put (o := .ins CI dx (putF "cell_list" (.ref D) [])) h_a
          refine ⟨_, rfl, _, rfl, a, CI, dx, _, rfl, h_a, T.cI, T.i1, by decide, ?_⟩
          refine ⟨_, rfl, _, rfl, a, CI, dx, _, rfl, upd_same, T.cI, T.i2, (by show (1 : Nat) < 1000; decide), ?_⟩
          refine ⟨_, rfl, _, rfl, a, CI, dx, _, rfl, upd_same, T.cI, T.i3, (by show (2 : Nat) < 1000; decide), ?_⟩
          refine ⟨_, rfl, _, rfl, a, CI, dx, _, rfl, upd_same, T.cI, T.i4, (by show (3 : Nat) < 1000; decide), ?_⟩
          simp only [upd_upd]
          refine k _ ⟨dx, _, D, ws, upd_same, rfl, (Fr.put h_a).k1 h_D aD.symm, hws, hwp.mono (Fr.put h_a).t, rfl⟩ ((fr.mono (by simp)).ts (Fr.put h_a))
end

end K45

set_option maxHeartbeats 4000000
namespace K45
open PySem PySem.Spec PyProof.Rows L2
section
variable {P : Program} {w : World} {K : PySem.W.Frag} {mg : Str → Option Value} {base : Heap}
/-- a row with its list of stretches -/
def StrAt (l : Addr) (H0 : Hp) (n : Nat) (H : Hp) (u : V) : Prop := ∃ (b t : Addr) (y : Int) (xs : List V), u = .ref b ∧ H b = some (.tup [.int y, .ref t]) ∧ H t = some (.lst xs) ∧ xs ≠ [] ∧ Pairs H xs ∧ xs.length ≤ n ∧ H0 t = none ∧ l ≠ t
theorem StrAt.k0 {l : Addr} {H0 : Hp} {n : Nat} {H H' : Hp} {u : V} (h : StrAt l H0 n H u) (f : Fr [] H H') : StrAt l H0 n H' u :=
  let ⟨b, t, y, xs, e, h1, h2, h3, h4, h5⟩ := h; ⟨b, t, y, xs, e, f.k0 h1, f.k0 h2, h3, h4.mono f.t, h5⟩
theorem StrAt.le {l : Addr} {H0 : Hp} {n m : Nat} {H : Hp} {u : V} (h : StrAt l H0 n H u) (e : n ≤ m) : StrAt l H0 m H u :=
  let ⟨b, t, y, xs, e1, h1, h2, h3, h4, h5, h6⟩ := h; ⟨b, t, y, xs, e1, h1, h2, h3, h4, Nat.le_trans h5 e, h6⟩
/-- the list of rows is written -/
theorem StrAt.row {l : Addr} {H0 : Hp} {n : Nat} {H : Hp} {u : V} {us ws : List V} (h : StrAt l H0 n H u) (hl : H l = some (.lst us)) : StrAt l H0 n (upd H l (.lst ws)) u :=
  let ⟨b, t, y, xs, e, h1, h2, h3, h4, h5, h6, h7⟩ := h; ⟨b, t, y, xs, e, (Fr.put hl).t _ _ h1, (Fr.put hl).k1 h2 h7.symm, h3, h4.mono (Fr.put hl).t, h5, h6, h7⟩
/-- a list of stretches is written -/
theorem StrAt.str {l t : Addr} {H0 : Hp} {n : Nat} {H : Hp} {u : V} {xs ys : List V} (h : StrAt l H0 n H u) (ht : H t = some (.lst xs)) (hy : ys ≠ []) (hp : Pairs H ys) (hn : ys.length ≤ n) (t0 : H0 t = none) (lt : l ≠ t) : StrAt l H0 n (upd H t (.lst ys)) u := by
  obtain ⟨b, t', y, zs, e, h1, h2, h3, h4, h5, h6, h7⟩ := h
  by_cases z : t' = t
  · subst z
    exact ⟨b, t', y, ys, e, (Fr.put ht).t _ _ h1, upd_same, hy, hp.mono (Fr.put ht).t, hn, t0, lt⟩
  · exact ⟨b, t', y, zs, e, (Fr.put ht).t _ _ h1, (Fr.put ht).k1 h2 z, h3, h4.mono (Fr.put ht).t, h5, h6, h7⟩
theorem Pairs.set {H : Hp} {xs : List V} (h : Pairs H xs) {b : Addr} {x y : Int} (e : H b = some (.tup [.int x, .int y])) (j : Nat) : Pairs H (xs.set j (.ref b)) := fun u hu => by
  rcases List.mem_or_eq_of_mem_set hu with m | m
  · exact h u m
  · exact ⟨b, x, y, m, e⟩
theorem snoc_of {xs : List V} (h : xs ≠ []) : ∃ ys y, xs = ys ++ [y] := ⟨xs.dropLast, xs.getLast h, (List.dropLast_concat_getLast h).symm⟩
theorem ixN_last {n : Nat} (h : 1 ≤ n) : ixN n (-1) = some (n - 1) := by
  unfold ixN
  rw [if_neg (by omega), if_pos (by omega)]
  congr 1
  omega
abbrev s_spans : Stmt := inClass (top 27) 4
abbrev N_spans : List Str := ["self", "rows", "x", "y", "stretches", "row", "found"]
theorem sc_spans : FnScope ["self", "rows", "x", "y", "stretches", "row", "found"] ["self"] (defScope s_spans) := ⟨rfl, rfl, rfl, by decide +kernel, rfl, by decide +kernel, by decide +kernel⟩
theorem m_spans {CS CI CF : Addr} (F : Dm K CI "spans" "Ink.spans" s_spans) (G : Gn mg) (T : Ct K mg CS CI CF)   : C8.Met P w K mg base 1 CI "spans" (spSpans CI) [] := by
  refine met_by F sc_spans (fun _ _ _ _ _ _ us hl => match us, hl with | [_], _ => rfl) (fun vs H Q E h => ?_) (fun f cdv A outer s H vs Q E hr h => ?_)
  · obtain ⟨a, rfl, _⟩ := h
    rfl
  · obtain ⟨a, rfl, ⟨dx, fs, c, cs, h_a, hfl, h_c, hcl, hcp, hns⟩, k⟩ := h
    have sc := sc_spans
    refine ⟨_, (pss_cons (ps_set (i := 1) sc.nd rfl (Or.inl rfl) (pe_lst pa_nil))
      (pss_cons (ps_for PassesOwn.never rfl (pi_list (pe_fld (pv 0) rfl)) (pg_tup rfl (pgs_cons (pg_name (i := 2) sc.nd rfl (Or.inl rfl)) (pgs_cons (pg_name (i := 3) sc.nd rfl (Or.inl rfl)) pgs_nil)))
        (C8.pss_cut (ps_if (PW.pt (pw_or (pt_not (pt_truth (pv 1) (by intro _; rfl))) (pw_or1 (pt_cmpR op_ne (pe_ix ix_tup (pe_ix ix_list (pv 1) (pe_un un_neg pe_int) (fun _ _ => rfl)) pe_int (fun _ _ => rfl)) (pv 3) (nomark _)))))
          (pss_one (ps_expr (pe_bm PySem.F.plainAttrs_list PySem.F.slot_list_append PySem.F.type_list_append mt_append (pv 1) (pa_cons (pe_tup (pa_cons (pv 3) (pa_cons (pe_lst pa_nil) pa_nil))) pa_nil))))
          pss_nil)
        (pss_cons (ps_set (i := 4) sc.nd rfl (Or.inl rfl) (pe_ix ix_tup (pe_ix ix_list (pv 1) (pe_un un_neg pe_int) (fun _ _ => rfl)) pe_int (fun _ _ => rfl)))
        (pss_one (ps_if (PW.pt (pw_and (pt_truth (pv 4) (by intro _; rfl)) (pw_and1 (pt_cmpR op_eq (pe_ix ix_tup (pe_ix ix_list (pv 4) (pe_un un_neg pe_int) (fun _ _ => rfl)) pe_int (fun _ _ => rfl)) (pv 2) (nomark _)))))
          (pss_one (ps_asg (pe_tup (pa_cons (pe_ix ix_tup (pe_ix ix_list (pv 4) (pe_un un_neg pe_int) (fun _ _ => rfl)) pe_int (fun _ _ => rfl)) (pa_cons (pe_op op_add (pv 2) pe_int) pa_nil))) (pg_sub (pv 4) (pe_un un_neg pe_int) set_list)))
          (pss_one (ps_expr (pe_bm PySem.F.plainAttrs_list PySem.F.slot_list_append PySem.F.type_list_append mt_append (pv 4) (pa_cons (pe_tup (pa_cons (pv 2) (pa_cons (pe_op op_add (pv 2) pe_int) pa_nil))) pa_nil)))))))))
      (pss_one (ps_ret (pe_lc (own := [("row", 5), ("found", 6)])  rfl sc.nd (pi_list (pv 1)) (blkOk_by (N := N_spans) (sc := defScope s_spans) (by decide +kernel)) (fun _ _ _ _ _ => (pg_tupB (n := 2) rfl (pgs_cons (pg_name (i := 5) sc.nd rfl (Or.inl rfl) (Or.inr rfl)) (pgs_cons (pg_name (i := 6) sc.nd rfl (Or.inl rfl) (Or.inr rfl)) pgs_nil)) rfl rfl)) (fun _ _ _ _ _ => pts_nil) (fun _ _ _ _ _ => (pe_tup (pa_cons (pv 5) (pa_cons (pe_callTy call_tuple_ofB rfl G.n_tuple (by decide +kernel) (pa_cons (pv 6) pa_nil)) pa_nil))))))))), ?_⟩
    have hz := big
    refine ⟨(by show 0 ≤ sizeLine; omega), fun l n_l => ?_⟩
    have l0 := n_l
    have cl := ne_of_none h_c n_l
    generalize eH_l : upd H l _ = H1
    have ev_l : ∀ {M : List Addr}, Fr M H H1 := by intro M; rw [← eH_l]; exact Fr.new n_l
    have h_l : H1 l = some (.lst []) := by rw [← eH_l]; exact upd_same
    clear eH_l
    refine ⟨_, rfl, a, CI, dx, fs, _, rfl, (ev_l (M := [])).k0 h_a, T.cI, T.i1, hfl, c, rfl, ⟨_, SqL.of ((ev_l (M := [])).k0 h_c)⟩, for_list (xs := cs) (fun i σ H' => ∃ (us : List V) (v2 v3 v4 : Option V), σ = [some (.ref a), some (.ref l), v2, v3, v4, none, none] ∧ H' l = some (.lst us) ∧ us.length ≤ i ∧ (∀ u ∈ us, StrAt l H i H' u) ∧ Fr [] H H') ?_ ?_ ?_ ?_⟩
    · exact ⟨[], _, _, _, rfl, h_l, Nat.le_refl _, (fun u h => by cases h), ev_l⟩
    · rintro i σ H2 _ ⟨us, v2, v3, v4, rfl, h_l, hul, hst, fr⟩
      exact SqL.of (fr.k0 h_c)
    · rintro i u σ H2 hi ⟨us, v2, v3, v4, rfl, h_l, hul, hst, fr⟩
      have hil := (List.getElem?_eq_some_iff.mp hi).1
      obtain ⟨b, x, y, rfl, hb⟩ := hcp u (List.mem_of_getElem? hi)
      refine ⟨_, _, rfl, SqT.of (fr.k0 hb), rfl, _, _, rfl, _, _, rfl, rfl, fun σ' H' => ∃ (us : List V) (r t : Addr) (yy : Int) (xs : List V), σ' = [some (.ref a), some (.ref l), some (.int x), some (.int y), v4, none, none] ∧ H' l = some (.lst (us ++ [.ref r])) ∧ us.length ≤ i ∧ (∀ u ∈ us, StrAt l H i H' u) ∧
        H' r = some (.tup [.int yy, .ref t]) ∧ H' t = some (.lst xs) ∧ Pairs H' xs ∧ xs.length ≤ i ∧ H t = none ∧ l ≠ t ∧ Fr [] H H', ?_, ?_⟩
      · -- append a new row
        have fin : ∀ (e q : Addr) (H4 : Hp), Fr [] H2 H4 → H4 e = some (.lst []) → H4 q = some (.tup [.int y, .ref e]) → H2 e = none → H4 l = some (.lst us) ∧ ∃ (us' : List V) (r t : Addr) (yy : Int) (xs : List V),
          ([some (.ref a), some (.ref l), some (.int x), some (.int y), v4, none, none] : L2.St) = [some (.ref a), some (.ref l), some (.int x), some (.int y), v4, none, none] ∧ (upd H4 l (.lst (us ++ [.ref q]))) l = some (.lst (us' ++ [.ref r])) ∧ us'.length ≤ i ∧ (∀ u ∈ us', StrAt l H i (upd H4 l (.lst (us ++ [.ref q]))) u) ∧
          (upd H4 l (.lst (us ++ [.ref q]))) r = some (.tup [.int yy, .ref t]) ∧ (upd H4 l (.lst (us ++ [.ref q]))) t = some (.lst xs) ∧ Pairs (upd H4 l (.lst (us ++ [.ref q]))) xs ∧ xs.length ≤ i ∧ H t = none ∧ l ≠ t ∧ Fr [] H (upd H4 l (.lst (us ++ [.ref q]))) := by
          intro e q H4 f4 h_e h_q n_e
          have le := ne_of_none h_l n_e
          have e0 := fr.d _ n_e
          have h_l := f4.k0 h_l
          have f := Fr.put (o := .lst (us ++ [.ref q])) h_l
          exact ⟨h_l, us, q, e, y, [], rfl, upd_same, hul, fun u hu => ((hst u hu).k0 f4).row h_l, f.t _ _ h_q, f.k1 h_e le.symm, (fun u h => by cases h), Nat.zero_le _, e0, le, (fr.t0 f4).t1 f (.inr l0)⟩
        refine ⟨_, rfl, _, .inl ⟨us, SqL.of h_l, rfl⟩, ite2 (fun hc => ?_) (fun hc => ?_)⟩
        · refine ⟨_, rfl, Or.inl ⟨rfl, _, SqL.of h_l⟩, _, rfl, (by show 0 ≤ sizeLine; omega), fun e n_e => ⟨(by show 2 ≤ sizeLine; omega), fun q n_q => ?_⟩⟩
          obtain ⟨g1, g2⟩ := fin e q _ ((Fr.new n_e).t0 (Fr.new n_q)) ((Fr.new n_q : Fr [] _ _).k0 upd_same) upd_same n_e
          exact ⟨_, _, _, rfl, rfl, g1, (by omega), g2⟩
        · have hne : us ≠ [] := fun z => by rw [z] at hc; exact hc rfl
          obtain ⟨ws, u, rfl⟩ := snoc_of hne
          obtain ⟨r, t, yy, xs, rfl, h_r, h_t, hxn, hxp, hxl, t0, lt⟩ := hst u (List.mem_append_right _ (List.mem_singleton.mpr rfl))
          refine ⟨_, rfl, _, rfl, l, _, _, _, rfl, rfl, SqL.of h_l, atI_last _ _, r, _, _, _, rfl, rfl, SqT.of h_r, rfl, _, rfl, rfl, _, rfl, ite2 (fun hq => ?_) (fun hq => ?_)⟩
          · refine ⟨_, rfl, Or.inl ⟨rfl, _, SqL.of h_l⟩, _, rfl, (by show 0 ≤ sizeLine; omega), fun e n_e => ⟨(by show 2 ≤ sizeLine; omega), fun q n_q => ?_⟩⟩
            obtain ⟨g1, g2⟩ := fin e q _ ((Fr.new n_e).t0 (Fr.new n_q)) ((Fr.new n_q : Fr [] _ _).k0 upd_same) upd_same n_e
            exact ⟨_, _, _, rfl, rfl, g1, (by omega), g2⟩
          · rw [List.length_append] at hul
            exact ⟨ws, r, t, yy, xs, rfl, h_l, by omega, fun u hu => hst u (List.mem_append_left _ hu), h_r, h_t, hxp, hxl, t0, lt, fr⟩
      · rintro σ' H3 ⟨us, r, t, yy, xs, rfl, h_l, hul, hst, h_r, h_t, hxp, hxl, t0, lt, fr⟩
        refine ⟨_, rfl, _, rfl, l, _, _, _, rfl, rfl, SqL.of h_l, atI_last _ _, r, _, _, _, rfl, rfl, SqT.of h_r, rfl, ?_⟩
        -- the end: the list of stretches is written
        have fin : ∀ (H4 : Hp) (ys : List V), Fr [] H3 H4 → ys ≠ [] → ys.length ≤ i + 1 → Pairs H4 ys → ∃ (us' : List V) (v2 v3 v4 : Option V), ([some (.ref a), some (.ref l), some (.int x), some (.int y), some (.ref t), none, none] : L2.St) = [some (.ref a), some (.ref l), v2, v3, v4, none, none] ∧ (upd H4 t (.lst ys)) l = some (.lst us') ∧ us'.length ≤ i + 1 ∧ (∀ u ∈ us', StrAt l H (i + 1) (upd H4 t (.lst ys)) u) ∧ Fr [] H (upd H4 t (.lst ys)) := by
          intro H4 ys f hy hyl hyp
          have h_t := f.k0 h_t
          have h_l := f.k0 h_l
          have h_r := f.k0 h_r
          have f2 := Fr.put (o := .lst ys) h_t
          refine ⟨us ++ [.ref r], _, _, _, rfl, f2.k1 h_l lt, by rw [List.length_append]; show us.length + 1 ≤ i + 1; omega, fun u hu => ?_, (fr.t0 f).t1 f2 (.inr t0)⟩
          rcases List.mem_append.mp hu with m | m
          · exact (((hst u m).k0 f).le (Nat.le_succ _)).str h_t hy hyp hyl t0 lt
          · rw [List.mem_singleton.mp m]
            exact ⟨r, t, yy, ys, rfl, f2.t _ _ h_r, upd_same, hy, hyp.mono f2.t, hyl, t0, lt⟩
        refine ⟨_, rfl, _, .inl ⟨xs, SqL.of h_t, rfl⟩, ite2 (fun hc => ?_) (fun hc => ?_)⟩
        · have hne : xs ≠ [] := fun z => by rw [z] at hc; exact absurd hc (by decide)
          obtain ⟨xr, u, rfl⟩ := snoc_of hne
          obtain ⟨s1, x0, x1, rfl, h_s⟩ := hxp u (List.mem_append_right _ (List.mem_singleton.mpr rfl))
          refine ⟨_, rfl, _, rfl, t, _, _, _, rfl, rfl, SqL.of h_t, atI_last _ _, s1, _, _, _, rfl, rfl, SqT.of h_s, rfl, _, rfl, rfl, _, rfl, ite2 (fun hq => ?_) (fun hq => ?_)⟩
          · refine ⟨_, rfl, _, rfl, t, _, _, _, rfl, rfl, SqL.of h_t, atI_last _ _, s1, _, _, _, rfl, rfl, SqT.of h_s, rfl, _, rfl, _, _, rfl, rfl, (by show 2 ≤ sizeLine; omega), fun q n_q => ?_⟩
            generalize eH_q : upd H3 q _ = H4
            have ev_q : ∀ {M : List Addr}, Fr M H3 H4 := by intro M; rw [← eH_q]; exact Fr.new n_q
            have h_q : H4 q = some (.tup [.int x0, .int (x + 1)]) := by rw [← eH_q]; exact upd_same
            clear eH_q
            have hll : (xr ++ [V.ref s1]).length = xr.length + 1 := by rw [List.length_append] <;> rfl
            refine ⟨_, rfl, _, rfl, t, _, _, _, rfl, rfl, (ev_q (M := [])).k0 h_t, ixN_last (by omega), ?_⟩
            exact fin H4 _ ev_q (fun z => by have := congrArg List.length z; rw [List.length_set, hll] at this; cases this) (by rw [List.length_set]; omega) ((hxp.mono (ev_q (M := [])).t).set h_q _)
          · refine ⟨_, rfl, Or.inl ⟨rfl, _, SqL.of h_t⟩, _, rfl, _, rfl, _, _, rfl, rfl, (by show 2 ≤ sizeLine; omega), fun q n_q => ?_⟩
            generalize eH_q : upd H3 q _ = H4
            have ev_q : ∀ {M : List Addr}, Fr M H3 H4 := by intro M; rw [← eH_q]; exact Fr.new n_q
            have h_q : H4 q = some (.tup [.int x, .int (x + 1)]) := by rw [← eH_q]; exact upd_same
            clear eH_q
            refine ⟨_, _, _, rfl, rfl, (ev_q (M := [])).k0 h_t, (by omega), ?_⟩
            exact fin H4 _ ev_q (by simp) (by rw [List.length_append]; show _ + 1 ≤ i + 1; omega) ((hxp.mono (ev_q (M := [])).t).snoc h_q)
        · refine ⟨_, rfl, Or.inl ⟨rfl, _, SqL.of h_t⟩, _, rfl, _, rfl, _, _, rfl, rfl, (by show 2 ≤ sizeLine; omega), fun q n_q => ?_⟩
          generalize eH_q : upd H3 q _ = H4
          have ev_q : ∀ {M : List Addr}, Fr M H3 H4 := by intro M; rw [← eH_q]; exact Fr.new n_q
          have h_q : H4 q = some (.tup [.int x, .int (x + 1)]) := by rw [← eH_q]; exact upd_same
          clear eH_q
          refine ⟨_, _, _, rfl, rfl, (ev_q (M := [])).k0 h_t, (by omega), ?_⟩
          exact fin H4 _ ev_q (by simp) (by rw [List.length_append]; show _ + 1 ≤ i + 1; omega) ((hxp.mono (ev_q (M := [])).t).snoc h_q)
    · rintro σ H2 ⟨us, v2, v3, v4, rfl, h_l, hul, hst, fr⟩
      refine ⟨_, rfl, l, rfl, ⟨_, SqL.of h_l⟩, fun D n_D => ?_⟩
      have D0 := fr.d _ n_D
      have lD := ne_of_none h_l n_D
      refine lc_list (xs := us) (fun i H' => ∃ ws : List V, H' D = some (.lst ws) ∧ ws.length = i ∧ (∀ w ∈ ws, SpanRow H' w) ∧ H' l = some (.lst us) ∧ (∀ u ∈ us, ∃ (b t : Addr) (y : Int) (xs : List V), u = .ref b ∧ H' b = some (.tup [.int y, .ref t]) ∧ H' t = some (.lst xs) ∧ xs ≠ [] ∧ Pairs H' xs ∧ xs.length ≤ 300000 ∧ t ≠ D) ∧ Fr [] H H') ?_ ?_ ?_ ?_
      · refine ⟨[], upd_same, rfl, (fun u h => by cases h), (Fr.new (M := []) n_D).k0 h_l, fun u hu => ?_, fr.t0 (Fr.new n_D)⟩
        obtain ⟨b, t, y, xs, e, h1, h2, h3, h4, h5, h6, h7⟩ := hst u hu
        exact ⟨b, t, y, xs, e, (Fr.new (M := []) n_D).k0 h1, (Fr.new (M := []) n_D).k0 h2, h3, h4.mono (Fr.new (M := []) n_D).t, by omega, ne_of_none h2 n_D⟩
      · rintro i H5 _ ⟨ws, h_D, hwl, hwp, h_l, hst, fr⟩
        exact SqL.of h_l
      · rintro i v H5 hi ⟨ws, h_D, hwl, hwp, h_l, hst, fr⟩
        have hil := (List.getElem?_eq_some_iff.mp hi).1
        obtain ⟨b, t, y, xs, rfl, hb, ht, hxn, hxp, hxl, tD⟩ := hst v (List.mem_of_getElem? hi)
        refine ⟨_, _, rfl, SqT.of (hb), rfl, _, _, rfl, _, _, rfl, rfl, rfl, _, rfl, _, rfl, _, _, rfl, Or.inl ⟨SqL.of ht, fun q n_q => ?_⟩⟩
        generalize eH_q : upd H5 q _ = H6
        have ev_q : ∀ {M : List Addr}, Fr M H5 H6 := by intro M; rw [← eH_q]; exact Fr.new n_q
        have h_q : H6 q = some (.tup xs) := by rw [← eH_q]; exact upd_same
        clear eH_q
        refine ⟨(by show 2 ≤ sizeLine; omega), fun p n_p => ?_⟩
        generalize eH_p : upd H6 p _ = H7
        have ev_p : ∀ {M : List Addr}, Fr M H6 H7 := by intro M; rw [← eH_p]; exact Fr.new n_p
        have h_p : H7 p = some (.tup [.int y, .ref q]) := by rw [← eH_p]; exact upd_same
        clear eH_p
        have f : ∀ {M : List Addr}, Fr M H5 H7 := fun {M} => (ev_q (M := M)).t0 ev_p
        have h_D := (f (M := [])).k0 h_D
        have f2 := Fr.put (o := .lst (ws ++ [.ref p])) h_D
        refine ⟨_, h_D, by omega, _, upd_same, by rw [List.length_append, hwl] <;> rfl, fun w hw => ?_, f2.k1 ((f (M := [])).k0 h_l) lD, fun u hu => ?_, (fr.t0 f).t1 f2 (.inr D0)⟩
        · rcases List.mem_append.mp hw with m | m
          · exact ((hwp w m).mono (f (M := [])).t).mono f2.t
          · rw [List.mem_singleton.mp m]
            exact ⟨p, q, y, xs, rfl, f2.t _ _ h_p, f2.t _ _ ((ev_p (M := [])).t _ _ h_q), hxn, (hxp.mono (f (M := [])).t).mono f2.t⟩
        · obtain ⟨b, t, y, xs, e, h1, h2, h3, h4, h5, h6⟩ := hst u hu
          exact ⟨b, t, y, xs, e, f2.t _ _ ((f (M := [])).k0 h1), f2.k1 ((f (M := [])).k0 h2) h6, h3, (h4.mono (f (M := [])).t).mono f2.t, h5, h6⟩
      · rintro H5 ⟨ws, h_D, hwl, hwp, h_l, hst, fr⟩
        exact k D ws H5 D0 h_D (by omega) hwp fr
abbrev s_rends : Stmt := top 35
abbrev N_rends : List Str := ["ink", "lefts", "rights", "y", "spans"]
theorem sc_rends : FnScope ["ink", "lefts", "rights", "y", "spans"] ["ink"] (defScope s_rends) := ⟨rfl, rfl, rfl, by decide +kernel, rfl, by decide +kernel, by decide +kernel⟩
theorem c_rends (F : Df K mg "row_ends" s_rends) (G : Gn mg) {CS CI CF : Addr} (mt_spans : C8.Met P w K mg base 1 CI "spans" (spSpans CI) []) : C8.Cal P w K mg base 2 "row_ends" (spRends CI) [] := by
  refine cal_by F sc_rends (fun _ _ _ _ _ _ us hl => match us, hl with | [_], _ => rfl) (fun vs H Q E h => ?_) (fun f cdv A outer s H vs Q E hr h => ?_)
  · obtain ⟨a, rfl, _⟩ := h
    rfl
  · obtain ⟨a, rfl, hink, k⟩ := h
    have sc := sc_rends
    have hu := hu_of hr
    refine ⟨_, (pss_cons (ps_set (i := 1) sc.nd rfl (Or.inl rfl) pe_dnewK)
      (pss_cons (ps_set (i := 2) sc.nd rfl (Or.inl rfl) pe_dnewK)
      (pss_cons (ps_for PassesOwn.never rfl (pi_list (C8.pe_mt0 mt_spans hr (by decide) (pv 0))) (pg_tup rfl (pgs_cons (pg_name (i := 3) sc.nd rfl (Or.inl rfl)) (pgs_cons (pg_name (i := 4) sc.nd rfl (Or.inl rfl)) pgs_nil)))
        (pss_cons (ps_dput hu (pv 1) (pv 3) (pe_ix ix_tup (pe_ix ix_tup (pv 4) pe_int (fun _ _ => rfl)) pe_int (fun _ _ => rfl)) rfl)
        (pss_one (ps_dput hu (pv 2) (pv 3) (pe_ix ix_tup (pe_ix ix_tup (pv 4) (pe_un un_neg pe_int) (fun _ _ => rfl)) pe_int (fun _ _ => rfl)) rfl))))
      (pss_one (ps_ret (pe_tup (pa_cons (pv 1) (pa_cons (pv 2) pa_nil)))))))), ?_⟩
    have hz := big
    intro d n_d
    have d0 := n_d
    generalize eH_d : upd H d _ = H1
    have ev_d : ∀ {M : List Addr}, Fr M H H1 := by intro M; rw [← eH_d]; exact Fr.new n_d
    have h_d : H1 d = some (.dK []) := by rw [← eH_d]; exact upd_same
    clear eH_d
    intro e n_e
    have de := ne_of_none h_d n_e
    have e0 := (ev_d (M := [])).d _ n_e
    generalize eH_e : upd H1 e _ = H2
    have ev_e : ∀ {M : List Addr}, Fr M H1 H2 := by intro M; rw [← eH_e]; exact Fr.new n_e
    have h_e : H2 e = some (.dK []) := by rw [← eH_e]; exact upd_same
    clear eH_e
    have fr : Fr [] H H2 := (ev_d (M := [])).t0 ev_e
    have h_d := (ev_e (M := [])).k0 h_d
    have hink := hink.k0 fr
    have hink0 := hink
    obtain ⟨dx, fs, c, cs, h_a, hfl, h_c, hcl, hcp, hns⟩ := hink0
    refine ⟨_, rfl, a, dx, fs, rfl, h_a, hns, a, rfl, hink, fun l ws H3 n_l h_l hwl hws f3 => ⟨l, rfl, ⟨_, SqL.of h_l⟩, for_list (xs := ws) (fun i σ H' => ∃ (lk rk : List (L2.Key × V)) (v3 v4 : Option V), σ = [some (.ref a), some (.ref d), some (.ref e), v3, v4] ∧ H' l = some (.lst ws) ∧ (∀ w ∈ ws, SpanRow H' w) ∧
      H' d = some (.dK lk) ∧ IntInt lk ∧ lk.length ≤ i ∧ H' e = some (.dK rk) ∧ IntInt rk ∧ rk.length ≤ i ∧ Fr [] H H') ?_ ?_ ?_ ?_⟩⟩
    · exact ⟨[], [], _, _, rfl, h_l, hws, f3.k0 h_d, (fun kv h => by cases h), Nat.le_refl _, f3.k0 h_e, (fun kv h => by cases h), Nat.le_refl _, fr.t0 f3⟩
    · rintro i σ H4 _ ⟨lk, rk, v3, v4, rfl, h_l, hws, h_d, i1, l1, h_e, i2, l2, fr⟩
      exact SqL.of h_l
    · rintro i w' σ H4 hi ⟨lk, rk, v3, v4, rfl, h_l, hws, h_d, i1, l1, h_e, i2, l2, fr⟩
      have hil := (List.getElem?_eq_some_iff.mp hi).1
      obtain ⟨b, t, y, xs, rfl, h_b, h_t, hxn, hxp⟩ := hws w' (List.mem_of_getElem? hi)
      have hx0 : ∃ (s0 : Addr) (p0 p1 : Int), xs[0]? = some (.ref s0) ∧ H4 s0 = some (.tup [.int p0, .int p1]) := by
        cases xs with
        | nil => exact (hxn rfl).elim
        | cons u r =>
          obtain ⟨s0, p0, p1, e, h⟩ := hxp u List.mem_cons_self
          exact ⟨s0, p0, p1, by rw [e] <;> rfl, h⟩
      obtain ⟨s0, p0, p1, es0, h_s0⟩ := hx0
      obtain ⟨xr, u, exr⟩ := snoc_of hxn
      obtain ⟨s1, q0, q1, rfl, h_s1⟩ := hxp u (by rw [exr]; exact List.mem_append_right _ (List.mem_singleton.mpr rfl))
      have el : atI xs (-1) = some (V.ref s1) := by rw [exr]; exact atI_last _ _
      have f1 := Fr.put (o := .dK (putK lk (Sum.inl y) (.int p0))) h_d
      refine ⟨_, _, rfl, SqT.of (h_b), rfl, _, _, rfl, _, _, rfl, rfl, _, rfl, t, _, _, _, rfl, rfl, SqT.of h_t, atI_nat (j := 0) es0, s0, _, _, _, rfl, rfl, SqT.of h_s0, rfl, _, rfl, _, rfl, d, _, rfl, DPut.k (k := Sum.inl y) h_d (by omega), ?_⟩
      have h_t1 := f1.t _ _ h_t
      have h_s11 := f1.t _ _ h_s1
      have h_e1 := f1.k1 h_e de.symm
      have f2 := Fr.put (o := .dK (putK rk (Sum.inl y) (.int q1))) h_e1
      refine ⟨_, rfl, _, rfl, t, _, _, _, rfl, rfl, SqT.of h_t1, el, s1, _, _, _, rfl, rfl, SqT.of h_s11, rfl, _, rfl, _, rfl, e, _, rfl, DPut.k (k := Sum.inl y) h_e1 (by omega), ?_⟩
      have le1 := ne_of h_l h_d (by intro z; cases z)
      have le2 := ne_of h_l h_e (by intro z; cases z)
      exact ⟨_, _, _, _, rfl, f2.k1 (f1.k1 h_l le1) le2, fun w hw => ((hws w hw).mono f1.t).mono f2.t, f2.k1 upd_same de, i1.put y p0, Nat.le_trans (length_putK _ _ _) (by omega), upd_same, i2.put y q1, Nat.le_trans (length_putK _ _ _) (by omega), (fr.t1 f1 (.inr d0)).t1 f2 (.inr e0)⟩
    · rintro σ H4 ⟨lk, rk, v3, v4, rfl, h_l, hws, h_d, i1, l1, h_e, i2, l2, fr⟩
      refine ⟨_, rfl, _, rfl, (by show 2 ≤ sizeLine; omega), fun t n_t => ?_⟩
      have f := Fr.new (M := []) (o := .tup [.ref d, .ref e]) n_t
      exact k t d e lk rk _ upd_same ⟨f.k0 h_d, i1, by omega⟩ ⟨f.k0 h_e, i2, by omega⟩ d0 e0 (fr.t0 f)
end

end K45

set_option maxHeartbeats 4000000
namespace K45
open PySem PySem.Spec PyProof.Rows L2
/-! ### faces -/
structure FaceD where
  adv : Nat → Int
  lf : Nat → List (L2.Key × V)
  rf : Nat → List (L2.Key × V)
  kk : List (L2.Key × V)
  want : Int
  most : Int
  sp : Int × Int × Int
  has : List Nat
structure FaceX where
  dx : Addr
  fs : List (Str × V)
  lt : Addr
  le : Addr
  re : Addr
  kt : Addr
  sn : Addr
  ltk : List (L2.Key × V)
  lek : List (L2.Key × V)
  rek : List (L2.Key × V)
/-- H0: the heap when it was made (its own parts were not there) -/
structure FaceG (H0 H : Hp) (CF a : Addr) (D : FaceD) (X : FaceX) : Prop where
  at_ : H a = some (.ins CF X.dx X.fs)
  f3 : X.fs.lookup ("letter_table" : Str) = some (.ref X.lt)
  f4 : X.fs.lookup ("left_ends" : Str) = some (.ref X.le)
  f5 : X.fs.lookup ("right_ends" : Str) = some (.ref X.re)
  f6 : X.fs.lookup ("space_numbers" : Str) = some (.ref X.sn)
  f7 : X.fs.lookup ("want" : Str) = some (.int D.want)
  f8 : X.fs.lookup ("most" : Str) = some (.int D.most)
  f9 : X.fs.lookup ("kern_table" : Str) = some (.ref X.kt)
  m1 : X.fs.lookup ("advance" : Str) = none
  m2 : X.fs.lookup ("closest_gap" : Str) = none
  m3 : X.fs.lookup ("wanted_amount" : Str) = none
  m4 : X.fs.lookup ("nearer" : Str) = none
  lt : H X.lt = some (.dK X.ltk)
  lh : ∀ c ∈ D.has, ∃ v rs, valV X.ltk (Sum.inr (ch c)) = some v ∧ LetAt H v (D.adv c) rs
  le : H X.le = some (.dK X.lek)
  leh : ∀ c ∈ D.has, ∃ d, valV X.lek (Sum.inr (ch c)) = some (.ref d) ∧ EndsAt H d (D.lf c) ∧ H0 d = none
  re : H X.re = some (.dK X.rek)
  reh : ∀ c ∈ D.has, ∃ d, valV X.rek (Sum.inr (ch c)) = some (.ref d) ∧ EndsAt H d (D.rf c) ∧ H0 d = none
  kt : H X.kt = some (.dK D.kk)
  ko : KernOk D.kk
  sn : H X.sn = some (.tup [.int D.sp.1, .int D.sp.2.1, .int D.sp.2.2])
  n1 : H0 X.lt = none
  n2 : H0 X.le = none
  n3 : H0 X.re = none
  n4 : H0 X.kt = none
theorem FaceG.k0 {H0 H H' : Hp} {CF a : Addr} {D : FaceD} {X : FaceX} (x : FaceG H0 H CF a D X) (f : Fr [] H H') : FaceG H0 H' CF a D X :=
  ⟨f.k0 x.at_, x.f3, x.f4, x.f5, x.f6, x.f7, x.f8, x.f9, x.m1, x.m2, x.m3, x.m4, f.k0 x.lt, fun c hc => let ⟨v, rs, h1, h2⟩ := x.lh c hc; ⟨v, rs, h1, h2.mono f.t⟩, f.k0 x.le, fun c hc => let ⟨d, h1, h2, h3⟩ := x.leh c hc; ⟨d, h1, h2.k0 f, h3⟩, f.k0 x.re, fun c hc => let ⟨d, h1, h2, h3⟩ := x.reh c hc; ⟨d, h1, h2.k0 f, h3⟩, f.k0 x.kt, x.ko, f.k0 x.sn, x.n1, x.n2, x.n3, x.n4⟩
/-- something that stood before it was made, is written -/
theorem FaceG.k1 {H0 H H' : Hp} {CF a p : Addr} {D : FaceD} {X : FaceX} (x : FaceG H0 H CF a D X) (f : Fr [p] H H') {o : HO} (hp : H0 p = some o) (n : a ≠ p) : FaceG H0 H' CF a D X := by
  have ne : ∀ {b : Addr}, H0 b = none → b ≠ p := fun h => (ne_of_none hp h).symm
  exact ⟨f.k1 x.at_ n, x.f3, x.f4, x.f5, x.f6, x.f7, x.f8, x.f9, x.m1, x.m2, x.m3, x.m4, f.k1 x.lt (ne x.n1), fun c hc => let ⟨v, rs, h1, h2⟩ := x.lh c hc; ⟨v, rs, h1, h2.mono f.t⟩, f.k1 x.le (ne x.n2), fun c hc => let ⟨d, h1, h2, h3⟩ := x.leh c hc; ⟨d, h1, ⟨f.k1 h2.1 (ne h3), h2.2⟩, h3⟩, f.k1 x.re (ne x.n3), fun c hc => let ⟨d, h1, h2, h3⟩ := x.reh c hc; ⟨d, h1, ⟨f.k1 h2.1 (ne h3), h2.2⟩, h3⟩, f.k1 x.kt (ne x.n4), x.ko, f.t _ _ x.sn, x.n1, x.n2, x.n3, x.n4⟩
def FaceAt (H : Hp) (CF a : Addr) (D : FaceD) : Prop := ∃ H0 X, FaceG H0 H CF a D X
theorem FaceAt.k0 {H H' : Hp} {CF a : Addr} {D : FaceD} (x : FaceAt H CF a D) (f : Fr [] H H') : FaceAt H' CF a D := let ⟨H0, X, g⟩ := x; ⟨H0, X, g.k0 f⟩
/-! what a face answers -/
def gapStep (adv : Int) (lefts : List (L2.Key × V)) (found : Option (Int × Int)) (kv : L2.Key × V) : Option (Int × Int) :=
  match kv with
  | (.inl y, .int r) => match valV lefts (.inl y) with
    | some (.int l) => match found with
      | none => some (adv - r + l, y)
      | some f => if HT.lexLt [adv - r + l, y] [f.1, f.2] = true then some (adv - r + l, y) else found
    | _ => found
  | _ => found
def gapF (D : FaceD) (a b : Nat) : Option (Int × Int) := (D.rf a).foldl (gapStep (D.adv a) (D.lf b)) none
def wantF (D : FaceD) (a b : Nat) : Int :=
  match valV D.kk (Sum.inr (SX.S [a, b])) with
  | some (.int k) => k
  | _ => match gapF D a b with
    | none => 0
    | some g => if D.most < (if 0 > g.1 - D.want then 0 else g.1 - D.want) then D.most else (if 0 > g.1 - D.want then 0 else g.1 - D.want)
def nearF (D : FaceD) (a b : Nat) : Int :=
  if fig a = true ∨ fig b = true then 0
  else if (if D.adv b < D.adv a then D.adv b else D.adv a) - 1 < wantF D a b then (if D.adv b < D.adv a then D.adv b else D.adv a) - 1 else wantF D a b
theorem nearF_fig {D : FaceD} {a b : Nat} (h : fig a = true ∨ fig b = true) : nearF D a b = 0 := by unfold nearF; rw [if_pos h]
def spFspace (CF : Addr) : Sp := fun vs H Q _ => ∃ (o : Addr) (D : FaceD), vs = [.ref o] ∧ FaceAt H CF o D ∧ ∀ sn : Addr, H sn = some (.tup [.int D.sp.1, .int D.sp.2.1, .int D.sp.2.2]) → Q (.ref sn) H
def spAdv (CF : Addr) : Sp := fun vs H Q _ => ∃ (o : Addr) (D : FaceD) (c : Nat), vs = [.ref o, .str (ch c)] ∧ FaceAt H CF o D ∧ c ∈ D.has ∧ Q (.int (D.adv c)) H
def GapV (H : Hp) (v : V) : Option (Int × Int) → Prop
  | none => v = .non
  | some g => ∃ t, v = .ref t ∧ H t = some (.tup [.int g.1, .int g.2])
def spCgap (CF : Addr) : Sp := fun vs H Q _ => ∃ (o : Addr) (D : FaceD) (a b : Nat), vs = [.ref o, .str (ch a), .str (ch b)] ∧ FaceAt H CF o D ∧ a ∈ D.has ∧ b ∈ D.has ∧ ∀ (v : V) (H' : Hp), GapV H' v (gapF D a b) → Fr [] H H' → Q v H'
def spWanted (CF : Addr) : Sp := fun vs H Q _ => ∃ (o : Addr) (D : FaceD) (a b : Nat), vs = [.ref o, .str (ch a), .str (ch b)] ∧ FaceAt H CF o D ∧ a ∈ D.has ∧ b ∈ D.has ∧ ∀ H' : Hp, Fr [] H H' → Q (.int (wantF D a b)) H'
def spNear (CF : Addr) : Sp := fun vs H Q _ => ∃ (o : Addr) (D : FaceD) (a b : Nat), vs = [.ref o, .str (ch a), .str (ch b)] ∧ FaceAt H CF o D ∧ a ∈ D.has ∧ b ∈ D.has ∧ ∀ H' : Hp, Fr [] H H' → Q (.int (nearF D a b)) H'
def spFinit (CF : Addr) : Sp := fun vs H Q _ => ∃ (o ld sp ks dx : Addr) (want most : Int) (kvs kk : List (L2.Key × V)) (need : List Nat) (A : Nat → Int) (i j k : Int), vs = [.ref o, .ref ld, .ref sp, .int want, .int most, .ref ks] ∧ H o = some (.ins CF dx []) ∧ H ld = some (.dK kvs) ∧ TabOk H kvs need A ∧ (∀ c ∈ figL ++ [45], c ∈ need) ∧
  H sp = some (.tup [.int i, .int j, .int k]) ∧ H ks = some (.dK kk) ∧ KernOk kk ∧ kk.length ≤ 1000 ∧ ∀ (D : FaceD) (X : FaceX) (H' : Hp), FaceG H H' CF o D X → D.adv = A → D.has = need → Fr [o] H H' → Q .non H'
def spFace (K : PySem.W.Frag) (CF : Addr) : Sp := fun vs H Q _ => ∃ (h : Addr) (HD : HouseD) (need : List Nat) (A : Nat → Int), vs = [.ref h] ∧ HouseAt H h HD ∧ TabOk H HD.kvs need A ∧ (∀ c ∈ figL ++ [45], c ∈ need) ∧
  ∀ (o : Addr) (D : FaceD) (X : FaceX) (H' : Hp), FaceG H H' CF o D X → H o = none → D.adv = A → D.has = need → Fr [] H H' → Q (.ref o) H'
theorem FaceG.ghost {H0 H1 H : Hp} {CF a : Addr} {D : FaceD} {X : FaceX} (x : FaceG H0 H CF a D X) (h : ∀ p, H0 p = none → H1 p = none) : FaceG H1 H CF a D X :=
  ⟨x.at_, x.f3, x.f4, x.f5, x.f6, x.f7, x.f8, x.f9, x.m1, x.m2, x.m3, x.m4, x.lt, x.lh, x.le, fun c hc => let ⟨d, h1, h2, h3⟩ := x.leh c hc; ⟨d, h1, h2, h _ h3⟩, x.re, fun c hc => let ⟨d, h1, h2, h3⟩ := x.reh c hc; ⟨d, h1, h2, h _ h3⟩, x.kt, x.ko, x.sn, h _ x.n1, h _ x.n2, h _ x.n3, h _ x.n4⟩
/-! keeping inks -/
theorem InkAt.kd {H H' : Hp} {CI a p : Addr} {kvs : List (L2.Key × V)} (h : InkAt H CI a) (f : Fr [p] H H') (hp : H p = some (.dK kvs)) : InkAt H' CI a :=
  let ⟨dx, fs, l, us, h1, h2, h3, h4, h5, h6⟩ := h; ⟨dx, fs, l, us, f.k1 h1 (ne_of h1 hp (by intro z; cases z)), h2, f.k1 h3 (ne_of h3 hp (by intro z; cases z)), h4, h5.mono f.t, h6⟩
theorem InkAt.ko {H H' : Hp} {CI C a p dy : Addr} {gs : List (Str × V)} (h : InkAt H CI a) (f : Fr [p] H H') (hp : H p = some (.ins C dy gs)) (hg : gs.lookup ("cell_list" : Str) = none) : InkAt H' CI a := by
  obtain ⟨dx, fs, l, us, h1, h2, h3, h4, h5, h6⟩ := h
  have n : a ≠ p := fun z => by
    rw [z, hp] at h1
    injection h1 with h1
    injection h1 with _ _ h1
    rw [← h1, hg] at h2
    cases h2
  exact ⟨dx, fs, l, us, f.k1 h1 n, h2, f.k1 h3 (ne_of h3 hp (by intro z; cases z)), h4, h5.mono f.t, h6⟩
/-- the keys of a table of letters -/
theorem keys_str {H : Hp} {kvs : List (L2.Key × V)} {need : List Nat} {A : Nat → Int} (T : TabOk H kvs need A) : ∃ cs : List Nat, (kvs.map fun kv => kV kv.1) = (cs.map ch).map V.str ∧ cs.length = kvs.length ∧ (∀ c ∈ cs, c ∈ need) ∧ ∀ c ∈ need, c ∈ cs := by
  have key : ∀ l : List (L2.Key × V), (∀ kv ∈ l, kv ∈ kvs) → ∃ cs : List Nat, (l.map fun kv => kV kv.1) = (cs.map ch).map V.str ∧ cs.length = l.length ∧ (∀ c ∈ cs, c ∈ need) ∧ ∀ kv ∈ l, ∃ c ∈ cs, kv.1 = Sum.inr (ch c) := by
    intro l
    induction l with
    | nil => intro _; exact ⟨[], rfl, rfl, (fun c h => by cases h), fun kv h => by cases h⟩
    | cons kv l ih =>
      intro h
      obtain ⟨cs, e1, e2, e3, e4⟩ := ih fun x hx => h x (List.mem_cons_of_mem _ hx)
      obtain ⟨c, hc, hn⟩ := T.all kv (h kv List.mem_cons_self)
      refine ⟨c :: cs, ?_, by rw [List.length_cons, List.length_cons, e2], fun d hd => ?_, fun kw hkw => ?_⟩
      · rw [List.map_cons, List.map_cons, List.map_cons, e1, hc] <;> rfl
      · rcases List.mem_cons.mp hd with rfl | hd
        · exact hn
        · exact e3 d hd
      · rcases List.mem_cons.mp hkw with rfl | hkw
        · exact ⟨c, List.mem_cons_self, hc⟩
        · obtain ⟨d, h1, h2⟩ := e4 kw hkw
          exact ⟨d, List.mem_cons_of_mem _ h1, h2⟩
  obtain ⟨cs, e1, e2, e3, e4⟩ := key kvs fun _ h => h
  refine ⟨cs, e1, e2, e3, fun c hc => ?_⟩
  obtain ⟨v, rs, h1, _⟩ := T.has c hc
  obtain ⟨d, hd, e⟩ := e4 _ (valV_mem h1)
  have := ch_inj (Sum.inr.inj e)
  rw [this]
  exact hd
theorem keys_kern {kk : List (L2.Key × V)} (h : KernOk kk) : ∃ xs : List Str, (kk.map fun kv => kV kv.1) = xs.map V.str ∧ xs.length = kk.length ∧ ∀ x ∈ xs, ∃ i : Int, valV kk (Sum.inr x) = some (.int i) := by
  have key : ∀ l : List (L2.Key × V), (∀ kv ∈ l, kv ∈ kk) → ∃ xs : List Str, (l.map fun kv => kV kv.1) = xs.map V.str ∧ xs.length = l.length ∧ ∀ x ∈ xs, ∃ i : Int, valV kk (Sum.inr x) = some (.int i) := by
    intro l
    induction l with
    | nil => intro _; exact ⟨[], rfl, rfl, fun c h => by cases h⟩
    | cons kv l ih =>
      intro hm
      obtain ⟨xs, e1, e2, e3⟩ := ih fun x hx => hm x (List.mem_cons_of_mem _ hx)
      have hkv := hm kv List.mem_cons_self
      obtain ⟨x, i, e⟩ := h kv hkv
      refine ⟨x :: xs, ?_, by rw [List.length_cons, List.length_cons, e2], fun y hy => ?_⟩
      · rw [List.map_cons, List.map_cons, e1, e] <;> rfl
      · rcases List.mem_cons.mp hy with rfl | hy
        · rw [e] at hkv
          obtain ⟨u, hu⟩ := mem_valV hkv
          obtain ⟨z, j, e5⟩ := h _ (valV_mem hu)
          injection e5 with e5 e6
          exact ⟨j, by rw [hu, e6]⟩
        · exact e3 y hy
  exact key kk fun _ h => h
/-- a perm of signs, sign by sign -/
theorem perm_chs {ys : List Str} {cs : List Nat} (h : ys.Perm (cs.map ch)) : ∃ ds : List Nat, ys = ds.map ch ∧ ds.length = cs.length ∧ ∀ c, c ∈ ds ↔ c ∈ cs := by
  have key : ∀ l : List Str, (∀ y ∈ l, y ∈ cs.map ch) → ∃ ds : List Nat, l = ds.map ch := by
    intro l
    induction l with
    | nil => intro _; exact ⟨[], rfl⟩
    | cons y l ih =>
      intro hm
      obtain ⟨ds, e⟩ := ih fun x hx => hm x (List.mem_cons_of_mem _ hx)
      obtain ⟨c, _, rfl⟩ := List.mem_map.mp (hm y List.mem_cons_self)
      exact ⟨c :: ds, by rw [e] <;> rfl⟩
  obtain ⟨ds, rfl⟩ := key ys fun y hy => h.mem_iff.mp hy
  refine ⟨ds, rfl, by have := h.length_eq; rwa [List.length_map, List.length_map] at this, fun c => ?_⟩
  have hm : ∀ (l : List Nat), c ∈ l ↔ ch c ∈ l.map ch := fun l => ⟨fun h => List.mem_map.mpr ⟨c, h, rfl⟩, fun h => by
    obtain ⟨d, hd, e⟩ := List.mem_map.mp h
    rw [← ch_inj e]
    exact hd⟩
  rw [hm ds, hm cs]
  exact h.mem_iff

end K45

set_option maxHeartbeats 4000000
namespace K45
open PySem PySem.Spec PyProof.Rows L2
section
variable {P : Program} {w : World} {K : PySem.W.Frag} {mg : Str → Option Value} {base : Heap}
theorem eREQ : Str.ofString "0123456789-" = SX.S (figL ++ [45]) := by decide +kernel
theorem eFIG : Str.ofString "0123456789" = SX.S figL := by decide +kernel
theorem e0 : Str.ofString "0" = ch 48 := by decide +kernel
abbrev s_check : Stmt := top 33
abbrev N_check : List Str := ["letters", "required", "char"]
theorem sc_check : FnScope ["letters", "required", "char"] ["letters", "required"] (defScope s_check) := ⟨rfl, rfl, rfl, by decide +kernel, rfl, by decide +kernel, by decide +kernel⟩
theorem c_check (F : Df K mg "check_letters" s_check) (G : Gn mg)   : C8.Cal P w K mg base 1 "check_letters" spCheck [] := by
  refine cal_by F sc_check (fun _ _ _ _ _ _ us hl => match us, hl with | [_, _], _ => rfl) (fun vs H Q E h => ?_) (fun f cdv A outer s H vs Q E hr h => ?_)
  · obtain ⟨d, kvs, need, A, rfl, _⟩ := h
    rfl
  · obtain ⟨d, kvs, need, A, rfl, h_d, T, hneed, k⟩ := h
    have sc := sc_check
    have hu := hu_of hr
    refine ⟨_, (pss_cons (ps_for PassesOwn.never rfl (pi_str (pv 1)) (pg_name (i := 2) sc.nd rfl (Or.inl rfl))
        (pss_one (ps_if (pt_cmp (pc_dnotin hu (pv 2) (pv 0)))
          (pss_one ps_never)
          pss_nil)))
      (pss_one (ps_for PassesOwn.never rfl (pi_str (C8.pe_gc rfl G.g_FIGURES)) (pg_name (i := 2) sc.nd rfl (Or.inl rfl))
        (pss_one (ps_if (pt_cmpR op_ne (pe_ix ix_tup (pe_dget hu (pv 0) (pv 2) (fun _ _ => rfl)) pe_int (fun _ _ => rfl)) (pe_ix ix_tup (pe_dget hu (pv 0) pe_str (fun _ _ => rfl)) pe_int (fun _ _ => rfl)) (nomark _))
          (pss_one ps_never)
          pss_nil))))), ?_⟩
    have hz := big
    refine ⟨_, rfl, SX.S (figL ++ [45]), congrArg V.str eREQ, for_it walk_sign (fun i σ H' => ∃ v2 : Option V, σ = [some (.ref d), some (.str "0123456789-"), v2] ∧ H' = H) ⟨_, rfl, rfl⟩ (fun _ _ _ _ _ => trivial) ?_ ?_⟩
    · rintro i y σ H0' H1 hi ⟨v2, rfl, rfl⟩ ⟨rfl, c, hc, rfl⟩
      obtain ⟨v, rs, hv, hl, _⟩ := T.has c (hneed c (List.mem_of_getElem? hc))
      have hg := DGet.k (k := Sum.inr (ch c)) h_d
      rw [hv] at hg
      exact ⟨_, rfl, _, rfl, d, _, rfl, hg, _, rfl, ite2 (fun hc => absurd hc (by simp)) (fun hc => ⟨_, rfl, rfl⟩)⟩
    · rintro σ H1 ⟨v2, rfl, rfl⟩
      refine ⟨SX.S figL, congrArg V.str eFIG, for_it walk_sign (fun i σ H' => ∃ v2 : Option V, σ = [some (.ref d), some (.str "0123456789-"), v2] ∧ H' = H1) ⟨_, rfl, rfl⟩ (fun _ _ _ _ _ => trivial) ?_ ?_⟩
      · rintro i y σ H0' H1 hi ⟨v2, rfl, rfl⟩ ⟨rfl, c, hc, rfl⟩
        have hcf : fig c = true := fig_mem.mpr (List.mem_of_getElem? hc)
        obtain ⟨v, rs, hv, ⟨t, o, rfl, ht, _⟩, _⟩ := T.has c (hneed c (List.mem_append_left _ (List.mem_of_getElem? hc)))
        obtain ⟨v0, rs0, hv0, ⟨t0, o0, rfl, ht0, _⟩, _⟩ := T.has 48 (hneed 48 (by decide))
        have hg0 := dget_k h_d hv0
        have e00 : (kV (Sum.inr (ch 48)) : V) = V.str "0" := congrArg V.str e0.symm
        rw [e00] at hg0
        refine ⟨_, rfl, _, rfl, d, _, rfl, dget_k h_d hv, t, _, _, _, rfl, rfl, SqT.of ht, rfl, _, rfl, d, _, rfl, hg0, t0, _, _, _, rfl, rfl, SqT.of ht0, rfl, rfl, _, rfl, ite2 (fun hc => ?_) (fun hc => ⟨_, rfl, rfl⟩)⟩
        rw [T.fig c hcf, decide_eq_true rfl] at hc
        exact absurd hc (by decide)
      · rintro σ H2 ⟨v2, rfl, rfl⟩
        exact k
abbrev s_inks : Stmt := top 34
abbrev N_inks : List Str := ["letters", "inks", "char", "e"]
theorem sc_inks : FnScope ["letters", "inks", "char", "e"] ["letters"] (defScope s_inks) := ⟨rfl, rfl, rfl, by decide +kernel, rfl, by decide +kernel, by decide +kernel⟩
theorem c_inks (F : Df K mg "inks_of" s_inks) (G : Gn mg) {CS CI CF : Addr} (c_ink_of : C8.Cal P w K mg base 6 "ink_of" (spInkOf CI) []) : C8.Cal P w K mg base 7 "inks_of" (spInks CI) [] := by
  refine cal_by F sc_inks (fun _ _ _ _ _ _ us hl => match us, hl with | [_], _ => rfl) (fun vs H Q E h => ?_) (fun f cdv A outer s H vs Q E hr h => ?_)
  · obtain ⟨d, kvs, need, A, rfl, _⟩ := h
    rfl
  · obtain ⟨d, kvs, need, A, rfl, h_d, T, k⟩ := h
    have sc := sc_inks
    have hu := hu_of hr
    refine ⟨_, (pss_cons (ps_set (i := 1) sc.nd rfl (Or.inl rfl) pe_dnewK)
      (pss_cons (ps_for PassesOwn.never rfl (pi_list (pe_callB cr_sortedSA rfl G.n_sorted (by decide +kernel) (pa_cons (pe_callTy (call_list_dK rfl) rfl G.n_list (by decide +kernel) (pa_cons (pv 0) pa_nil)) pa_nil))) (pg_name (i := 2) sc.nd rfl (Or.inl rfl))
        (pss_one (ps_try_thru0 (pss_one (ps_dput hu (pv 1) (pv 2) (C8.pe_c c_ink_of hr (by decide) rfl (pa_cons (pe_ix ix_tup (pe_dget hu (pv 0) (pv 2) (fun _ _ => rfl)) pe_int (fun _ _ => rfl)) pa_nil)) rfl)))))
      (pss_one (ps_ret (pv 1))))), ?_⟩
    have hz := big
    intro e n_e
    have e0' := n_e
    have de := ne_of_none h_d n_e
    generalize eH_e : upd H e _ = H1
    have ev_e : ∀ {M : List Addr}, Fr M H H1 := by intro M; rw [← eH_e]; exact Fr.new n_e
    have h_e : H1 e = some (.dK []) := by rw [← eH_e]; exact upd_same
    clear eH_e
    obtain ⟨cs, ecs, hcl, hc1, hc2⟩ := keys_str T
    have hkl := T.len
    refine ⟨_, rfl, d, kvs, rfl, (ev_e (M := [])).k0 h_d, fun q n_q => ?_⟩
    rw [ecs]
    generalize eH_q : upd H1 q _ = H2
    have ev_q : ∀ {M : List Addr}, Fr M H1 H2 := by intro M; rw [← eH_q]; exact Fr.new n_q
    have h_q : H2 q = some (.lst ((cs.map ch).map V.str)) := by rw [← eH_q]; exact upd_same
    clear eH_q
    refine ⟨q, cs.map ch, rfl, SqL.of h_q, fun ys p hys n_p => ?_⟩
    obtain ⟨ds, rfl, hdl, hdm⟩ := perm_chs hys
    generalize eH_p : upd H2 p _ = H3
    have ev_p : ∀ {M : List Addr}, Fr M H2 H3 := by intro M; rw [← eH_p]; exact Fr.new n_p
    have h_p : H3 p = some (.lst ((ds.map ch).map V.str)) := by rw [← eH_p]; exact upd_same
    clear eH_p
    have fr : Fr [] H H3 := ((ev_e (M := [])).t0 ev_q).t0 ev_p
    have h_e := (ev_p (M := [])).k0 ((ev_q (M := [])).k0 h_e)
    refine ⟨p, rfl, ⟨_, SqL.of h_p⟩, for_list (xs := (ds.map ch).map V.str) (fun i σ H' => ∃ (ik : List (L2.Key × V)) (v2 : Option V), σ = [some (.ref d), some (.ref e), v2, none] ∧ H' e = some (.dK ik) ∧ ik.length ≤ i ∧ (∀ c ∈ ds.take i, ∃ a, valV ik (Sum.inr (ch c)) = some (.ref a) ∧ InkAt H' CI a) ∧ H' p = some (.lst ((ds.map ch).map V.str)) ∧ Fr [] H H') ?_ ?_ ?_ ?_⟩
    · exact ⟨[], _, rfl, h_e, Nat.le_refl _, (fun c h => by cases h), h_p, fr⟩
    · rintro i σ H4 _ ⟨ik, v2, rfl, h_e, hil, hin, h_p, fr⟩
      exact SqL.of h_p
    · rintro i x σ H4 hi ⟨ik, v2, rfl, h_e, hil, hin, h_p, fr⟩
      rw [List.getElem?_map, List.getElem?_map] at hi
      cases ec : ds[i]? with
      | none => rw [ec] at hi; cases hi
      | some c =>
        rw [ec] at hi
        cases hi
        have hids := (List.getElem?_eq_some_iff.mp ec).1
        have hcn := hc1 c ((hdm c).mp (List.mem_of_getElem? ec))
        obtain ⟨v, rs, hv, hlet, _⟩ := T.has c hcn
        obtain ⟨t, o, rfl, ht, hto, hrl, hrk⟩ := hlet.mono fr.t
        have pe : p ≠ e := ne_of h_p h_e (by intro z; cases z)
        refine ⟨_, rfl, _, rfl, d, _, rfl, dget_k (fr.k0 h_d) hv, t, _, _, _, rfl, rfl, SqT.of ht, rfl, _, rs, rfl, hto, hrl, hrk, fun a H5 n_a hink f5 => ?_⟩
        have h_e := f5.k0 h_e
        have fp := Fr.put (o := .dK (putK ik (Sum.inr (ch c)) (.ref a))) h_e
        refine ⟨_, rfl, _, rfl, e, _, rfl, DPut.k (k := Sum.inr (ch c)) h_e (by omega), _, _, rfl, upd_same, Nat.le_trans (length_putK _ _ _) (by omega), fun c2 hc2' => ?_, fp.k1 (f5.k0 h_p) pe, (fr.t0 f5).t1 fp (.inr e0')⟩
        by_cases z : c2 = c
        · subst z
          exact ⟨a, by rw [valV_put, if_pos rfl], hink.kd fp h_e⟩
        · have hm : c2 ∈ ds.take i := by
            rw [List.take_add_one, ec] at hc2'
            rcases List.mem_append.mp hc2' with m | m
            · exact m
            · exact absurd (List.mem_singleton.mp m) z
          obtain ⟨a2, h1, h2⟩ := hin c2 hm
          exact ⟨a2, by rw [valV_put, if_neg (fun y => z (ch_inj (Sum.inr.inj y)))]; exact h1, (h2.k0 f5).kd fp h_e⟩
    · rintro σ H4 ⟨ik, v2, rfl, h_e, hil, hin, h_p, fr⟩
      refine ⟨_, rfl, k e ik H4 e0' h_e (fun c hc => hin c ?_) fr⟩
      rw [List.length_map, List.length_map, List.take_of_length_le (Nat.le_refl _)]
      exact (hdm c).mpr (hc2 c hc)
end

end K45

set_option maxHeartbeats 4000000
namespace K45
open PySem PySem.Spec PyProof.Rows L2
section
variable {P : Program} {w : World} {K : PySem.W.Frag} {mg : Str → Option Value} {base : Heap}
abbrev s_finit : Stmt := inClass (top 36) 1
abbrev N_finit : List Str := ["self", "letters", "space", "want", "most", "kerns", "char", "pair"]
theorem sc_finit : FnScope ["self", "letters", "space", "want", "most", "kerns", "char", "pair"] ["self", "letters", "space", "want", "most", "kerns"] (defScope s_finit) := ⟨rfl, rfl, rfl, by decide +kernel, rfl, by decide +kernel, by decide +kernel⟩
def fs5 (ik cl lt le re : Addr) : List (Str × V) := [("inks", .ref ik), ("char_list", .ref cl), ("letter_table", .ref lt), ("left_ends", .ref le), ("right_ends", .ref re)]
def fs9 (ik cl lt le re sp kt : Addr) (want most : Int) : List (Str × V) := [("inks", .ref ik), ("char_list", .ref cl), ("letter_table", .ref lt), ("left_ends", .ref le), ("right_ends", .ref re), ("space_numbers", .ref sp), ("want", .int want), ("most", .int most), ("kern_table", .ref kt)]
/-- the face so far -/
structure FinI (H0 : Hp) (CF CI o dx ik cl lt le re : Addr) (ikk : List (L2.Key × V)) (cs : List V) (need : List Nat) (A : Nat → Int) (Hg : Hp) (n : Nat) (done : List Nat) (H : Hp) (ltk lek rek : List (L2.Key × V)) (lf rf : Nat → List (L2.Key × V)) : Prop where
  h_o : H o = some (.ins CF dx (fs5 ik cl lt le re))
  h_ik : H ik = some (.dK ikk)
  inks : ∀ c ∈ need, ∃ a, valV ikk (Sum.inr (ch c)) = some (.ref a) ∧ InkAt H CI a
  h_cl : H cl = some (.lst cs)
  h_lt : H lt = some (.dK ltk)
  h_le : H le = some (.dK lek)
  h_re : H re = some (.dK rek)
  l1 : ltk.length ≤ n
  l2 : lek.length ≤ n
  l3 : rek.length ≤ n
  lth : ∀ c ∈ done, ∃ v rs, valV ltk (Sum.inr (ch c)) = some v ∧ LetAt H v (A c) rs
  leh : ∀ c ∈ done, ∃ d, valV lek (Sum.inr (ch c)) = some (.ref d) ∧ EndsAt H d (lf c) ∧ Hg d = none
  reh : ∀ c ∈ done, ∃ d, valV rek (Sum.inr (ch c)) = some (.ref d) ∧ EndsAt H d (rf c) ∧ Hg d = none
  fr : Fr [o] H0 H
  frg : Fr [lt, le, re] Hg H
section
variable {H0 Hg H H' : Hp} {CF CI o dx ik cl lt le re : Addr} {ikk : List (L2.Key × V)} {cs : List V} {need done : List Nat} {A : Nat → Int} {n : Nat} {ltk lek rek : List (L2.Key × V)} {lf rf : Nat → List (L2.Key × V)}
theorem FinI.k0 (I : FinI H0 CF CI o dx ik cl lt le re ikk cs need A Hg n done H ltk lek rek lf rf) (f : Fr [] H H') : FinI H0 CF CI o dx ik cl lt le re ikk cs need A Hg n done H' ltk lek rek lf rf :=
  ⟨f.k0 I.h_o, f.k0 I.h_ik, fun c hc => let ⟨a, h1, h2⟩ := I.inks c hc; ⟨a, h1, h2.k0 f⟩, f.k0 I.h_cl, f.k0 I.h_lt, f.k0 I.h_le, f.k0 I.h_re, I.l1, I.l2, I.l3, fun c hc => let ⟨v, rs, h1, h2⟩ := I.lth c hc; ⟨v, rs, h1, h2.mono f.t⟩, fun c hc => let ⟨d, h1, h2, h3⟩ := I.leh c hc; ⟨d, h1, h2.k0 f, h3⟩, fun c hc => let ⟨d, h1, h2, h3⟩ := I.reh c hc; ⟨d, h1, h2.k0 f, h3⟩, I.fr.t0 f, I.frg.t0 f⟩
end
theorem mF_face {CS CI CF : Addr} (F : DiF K mg CF s_finit) (G : Gn mg) (T : Ct K mg CS CI CF) (c_check_letters : C8.Cal P w K mg base 1 "check_letters" spCheck []) (c_inks_of : C8.Cal P w K mg base 7 "inks_of" (spInks CI) []) (c_row_ends : C8.Cal P w K mg base 2 "row_ends" (spRends CI) []) : MakF P w K mg base 8 CF (spFinit CF) := by
  refine makF_by F sc_finit (fun _ _ _ _ _ _ us ws h1 h2 => match us, h1, ws, h2 with | [_, _], _, [_, _, _, _], _ => rfl) (fun vs H Q E h => ?_) (fun f cdv A outer s H vs Q E hr h => ?_)
  · obtain ⟨o, ld, sp, ks, dx, want, most, kvs, kk, need, A, i, j, k, rfl, _⟩ := h
    rfl
  · obtain ⟨o, ld, sp, ks, dx, want, most, kvs, kk, need, A, i, j, k, rfl, h_o, h_ld, TT, hneed, h_sp, h_ks, hko, hkl, kf⟩ := h
    have sc := sc_finit
    have hu := hu_of hr
    refine ⟨_, (pss_cons (ps_expr (C8.pe_c c_check_letters hr (by decide) rfl (pa_cons (pv 1) (pa_cons (pe_con (pv 0) rfl) pa_nil))))
      (pss_cons (ps_fld (pv 0) (C8.pe_c c_inks_of hr (by decide) rfl (pa_cons (pv 1) pa_nil)) rfl)
      (pss_cons (ps_fld (pv 0) (pe_callB cr_sortedSA rfl G.n_sorted (by decide +kernel) (pa_cons (pe_callTy (call_list_dK rfl) rfl G.n_list (by decide +kernel) (pa_cons (pv 1) pa_nil)) pa_nil)) rfl)
      (pss_cons (ps_fld (pv 0) pe_dnewK rfl)
      (pss_cons (ps_fld (pv 0) pe_dnewK rfl)
      (pss_cons (ps_fld (pv 0) pe_dnewK rfl)
      (pss_cons (ps_for PassesOwn.never rfl (pi_list (pe_fld (pv 0) rfl)) (pg_name (i := 6) sc.nd rfl (Or.inl rfl))
        (pss_cons (ps_dput hu (pe_fld (pv 0) rfl) (pv 6) (pe_dget hu (pv 1) (pv 6) (fun _ _ => rfl)) rfl)
        (pss_one (ps_asg (C8.pe_c c_row_ends hr (by decide) rfl (pa_cons (pe_dget hu (pe_fld (pv 0) rfl) (pv 6) (fun _ _ => rfl)) pa_nil)) (pg_tup rfl (pgs_cons (pg_sub (pe_fld (pv 0) rfl) (pv 6) (set_dict hu)) (pgs_cons (pg_sub (pe_fld (pv 0) rfl) (pv 6) (set_dict hu)) pgs_nil)))))))
      (pss_cons (ps_fld (pv 0) (pv 2) rfl)
      (pss_cons (ps_fld (pv 0) (pv 3) rfl)
      (pss_cons (ps_fld (pv 0) (pv 4) rfl)
      (pss_cons (ps_fld (pv 0) pe_dnewK rfl)
      (pss_one (ps_if (pt_cmpR op_notN (pv 5) pe_non (nomark _))
        (pss_one (ps_for PassesOwn.never rfl (pi_list (pe_callB cr_sortedSA rfl G.n_sorted (by decide +kernel) (pa_cons (pe_callTy (call_list_dK rfl) rfl G.n_list (by decide +kernel) (pa_cons (pv 5) pa_nil)) pa_nil))) (pg_name (i := 7) sc.nd rfl (Or.inl rfl))
          (pss_one (ps_dput hu (pe_fld (pv 0) rfl) (pv 7) (pe_dget hu (pv 5) (pv 7) (fun _ _ => rfl)) rfl))))
        pss_nil))))))))))))), ?_⟩
    have hz := big
    have hfr : H o = some (.ins CF dx []) := h_o
    obtain ⟨uq, hcon⟩ := T.req
    refine ⟨_, rfl, _, rfl, o, CF, dx, _, _, _, rfl, h_o, T.cF, hcon, rfl, ld, kvs, need, A, rfl, h_ld, TT, hneed, ?_⟩
    refine ⟨_, rfl, ld, kvs, need, A, rfl, h_ld, TT, fun ik ikk H1 n_ik h_ik hink f1 => ?_⟩
    have h_o1 := f1.k0 h_o
    have oik := ne_of_none h_o n_ik
    refine ⟨_, rfl, o, CF, dx, _, rfl, h_o1, T.cF, T.f1, (by decide), ?_⟩
    have p1 := Fr.put (o := .ins CF dx (putF "inks" (.ref ik) [])) h_o1
    have fr : Fr [o] H _ := Fr.ts (f1.mono (by simp)) p1
    have hink : ∀ c ∈ need, ∃ a, valV ikk (Sum.inr (ch c)) = some (.ref a) ∧ InkAt (upd H1 o (.ins CF dx (putF "inks" (.ref ik) []))) CI a := fun c hc => let ⟨a, h1, h2⟩ := hink c hc; ⟨a, h1, h2.ko p1 h_o1 rfl⟩
    have h_ik := p1.k1 h_ik oik.symm
    have h_o2 : (upd H1 o (.ins CF dx (putF "inks" (.ref ik) []))) o = some (.ins CF dx [("inks", .ref ik)]) := upd_same
    generalize upd H1 o (.ins CF dx (putF "inks" (.ref ik) [])) = H2 at *
    -- char_list
    obtain ⟨cs, ecs, hcl, hc1, hc2⟩ := keys_str TT
    have hkvl := TT.len
    have old : o ≠ ld := ne_of h_o h_ld (by intro z; cases z)
    have h_ld2 := fr.k1 h_ld old.symm
    refine ⟨_, rfl, ld, kvs, rfl, h_ld2, fun q n_q => ?_⟩
    rw [ecs]
    generalize eH_q : upd H2 q _ = H3
    have ev_q : ∀ {M : List Addr}, Fr M H2 H3 := by intro M; rw [← eH_q]; exact Fr.new n_q
    have h_q : H3 q = some (.lst ((cs.map ch).map V.str)) := by rw [← eH_q]; exact upd_same
    clear eH_q
    refine ⟨q, cs.map ch, rfl, SqL.of h_q, fun ys p hys n_p => ?_⟩
    obtain ⟨ds, rfl, hdl, hdm⟩ := perm_chs hys
    have op := ne_of_none ((ev_q (M := [])).k0 h_o2) n_p
    generalize eH_p : upd H3 p _ = H4
    have ev_p : ∀ {M : List Addr}, Fr M H3 H4 := by intro M; rw [← eH_p]; exact Fr.new n_p
    have h_p : H4 p = some (.lst ((ds.map ch).map V.str)) := by rw [← eH_p]; exact upd_same
    clear eH_p
    have f4 : ∀ {M : List Addr}, Fr M H2 H4 := fun {M} => (ev_q (M := M)).t0 ev_p
    have fr := fr.t0 f4
    have hink : ∀ c ∈ need, ∃ a, valV ikk (Sum.inr (ch c)) = some (.ref a) ∧ InkAt H4 CI a := fun c hc => let ⟨a, h1, h2⟩ := hink c hc; ⟨a, h1, h2.k0 f4⟩
    have h_o4 := (f4 (M := [])).k0 h_o2
    have h_ik := (f4 (M := [])).k0 h_ik
    refine ⟨_, rfl, o, CF, dx, _, rfl, h_o4, T.cF, T.f2, (by show (1 : Nat) < 1000; decide), ?_⟩
    have p1 := Fr.put (o := .ins CF dx (putF "char_list" (.ref p) [("inks", .ref ik)])) h_o4
    have fr := fr.ts p1
    have hink : ∀ c ∈ need, ∃ a, valV ikk (Sum.inr (ch c)) = some (.ref a) ∧ InkAt (upd H4 o (.ins CF dx (putF "char_list" (.ref p) [("inks", .ref ik)]))) CI a := fun c hc => let ⟨a, h1, h2⟩ := hink c hc; ⟨a, h1, h2.ko p1 h_o4 rfl⟩
    have h_ik := p1.k1 h_ik oik.symm
    have h_p := p1.k1 h_p op.symm
    have h_o5 : (upd H4 o (.ins CF dx (putF "char_list" (.ref p) [("inks", .ref ik)]))) o = some (.ins CF dx [("inks", .ref ik), ("char_list", .ref p)]) := upd_same
    generalize upd H4 o (.ins CF dx (putF "char_list" (.ref p) [("inks", .ref ik)])) = H5 at *
    -- three dicts
    refine fun lt n_lt => ?_
    have lt0 := fr.d _ n_lt
    have olt := ne_of_none h_o5 n_lt
    have iklt := ne_of_none h_ik n_lt
    generalize eH_lt : upd H5 lt _ = H6
    have ev_lt : ∀ {M : List Addr}, Fr M H5 H6 := by intro M; rw [← eH_lt]; exact Fr.new n_lt
    have h_lt : H6 lt = some (.dK []) := by rw [← eH_lt]; exact upd_same
    clear eH_lt
    have fr := fr.t0 ev_lt
    have h_o6 := (ev_lt (M := [])).k0 h_o5
    refine ⟨_, rfl, o, CF, dx, _, rfl, h_o6, T.cF, T.f3, (by show (2 : Nat) < 1000; decide), ?_⟩
    have p1 := Fr.put (o := .ins CF dx (putF "letter_table" (.ref lt) [("inks", .ref ik), ("char_list", .ref p)])) h_o6
    have fr := fr.ts p1
    have hink : ∀ c ∈ need, ∃ a, valV ikk (Sum.inr (ch c)) = some (.ref a) ∧ InkAt (upd H6 o (.ins CF dx (putF "letter_table" (.ref lt) [("inks", .ref ik), ("char_list", .ref p)]))) CI a := fun c hc => let ⟨a, h1, h2⟩ := hink c hc; ⟨a, h1, (h2.k0 ev_lt).ko p1 h_o6 rfl⟩
    have h_ik := p1.k1 ((ev_lt (M := [])).k0 h_ik) oik.symm
    have h_p := p1.k1 ((ev_lt (M := [])).k0 h_p) op.symm
    have h_lt := p1.k1 h_lt olt.symm
    have h_o7 : (upd H6 o (.ins CF dx (putF "letter_table" (.ref lt) [("inks", .ref ik), ("char_list", .ref p)]))) o = some (.ins CF dx [("inks", .ref ik), ("char_list", .ref p), ("letter_table", .ref lt)]) := upd_same
    generalize upd H6 o (.ins CF dx (putF "letter_table" (.ref lt) [("inks", .ref ik), ("char_list", .ref p)])) = H7 at *
    refine fun le n_le => ?_
    have le0 := fr.d _ n_le
    have ole := ne_of_none h_o7 n_le
    have ikle := ne_of_none h_ik n_le
    have ltle := ne_of_none h_lt n_le
    generalize eH_le : upd H7 le _ = H8
    have ev_le : ∀ {M : List Addr}, Fr M H7 H8 := by intro M; rw [← eH_le]; exact Fr.new n_le
    have h_le : H8 le = some (.dK []) := by rw [← eH_le]; exact upd_same
    clear eH_le
    have fr := fr.t0 ev_le
    have h_o8 := (ev_le (M := [])).k0 h_o7
    refine ⟨_, rfl, o, CF, dx, _, rfl, h_o8, T.cF, T.f4, (by show (3 : Nat) < 1000; decide), ?_⟩
    have p1 := Fr.put (o := .ins CF dx (putF "left_ends" (.ref le) [("inks", .ref ik), ("char_list", .ref p), ("letter_table", .ref lt)])) h_o8
    have fr := fr.ts p1
    have hink : ∀ c ∈ need, ∃ a, valV ikk (Sum.inr (ch c)) = some (.ref a) ∧ InkAt (upd H8 o (.ins CF dx (putF "left_ends" (.ref le) [("inks", .ref ik), ("char_list", .ref p), ("letter_table", .ref lt)]))) CI a := fun c hc => let ⟨a, h1, h2⟩ := hink c hc; ⟨a, h1, (h2.k0 ev_le).ko p1 h_o8 rfl⟩
    have h_ik := p1.k1 ((ev_le (M := [])).k0 h_ik) oik.symm
    have h_p := p1.k1 ((ev_le (M := [])).k0 h_p) op.symm
    have h_lt := p1.k1 ((ev_le (M := [])).k0 h_lt) olt.symm
    have h_le := p1.k1 h_le ole.symm
    have h_o9 : (upd H8 o (.ins CF dx (putF "left_ends" (.ref le) [("inks", .ref ik), ("char_list", .ref p), ("letter_table", .ref lt)]))) o = some (.ins CF dx [("inks", .ref ik), ("char_list", .ref p), ("letter_table", .ref lt), ("left_ends", .ref le)]) := upd_same
    generalize upd H8 o (.ins CF dx (putF "left_ends" (.ref le) [("inks", .ref ik), ("char_list", .ref p), ("letter_table", .ref lt)])) = H9 at *
    refine fun re n_re => ?_
    have re0 := fr.d _ n_re
    have ore := ne_of_none h_o9 n_re
    have ikre := ne_of_none h_ik n_re
    have ltre := ne_of_none h_lt n_re
    have lere := ne_of_none h_le n_re
    generalize eH_re : upd H9 re _ = H10
    have ev_re : ∀ {M : List Addr}, Fr M H9 H10 := by intro M; rw [← eH_re]; exact Fr.new n_re
    have h_re : H10 re = some (.dK []) := by rw [← eH_re]; exact upd_same
    clear eH_re
    have fr := fr.t0 ev_re
    have h_o10 := (ev_re (M := [])).k0 h_o9
    refine ⟨_, rfl, o, CF, dx, _, rfl, h_o10, T.cF, T.f5, (by show (4 : Nat) < 1000; decide), ?_⟩
    have p1 := Fr.put (o := .ins CF dx (putF "right_ends" (.ref re) [("inks", .ref ik), ("char_list", .ref p), ("letter_table", .ref lt), ("left_ends", .ref le)])) h_o10
    have fr := fr.ts p1
    have hink : ∀ c ∈ need, ∃ a, valV ikk (Sum.inr (ch c)) = some (.ref a) ∧ InkAt (upd H10 o (.ins CF dx (putF "right_ends" (.ref re) [("inks", .ref ik), ("char_list", .ref p), ("letter_table", .ref lt), ("left_ends", .ref le)]))) CI a := fun c hc => let ⟨a, h1, h2⟩ := hink c hc; ⟨a, h1, (h2.k0 ev_re).ko p1 h_o10 rfl⟩
    have h_ik := p1.k1 ((ev_re (M := [])).k0 h_ik) oik.symm
    have h_p := p1.k1 ((ev_re (M := [])).k0 h_p) op.symm
    have h_lt := p1.k1 ((ev_re (M := [])).k0 h_lt) olt.symm
    have h_le := p1.k1 ((ev_re (M := [])).k0 h_le) ole.symm
    have h_re := p1.k1 h_re ore.symm
    have h_o11 : (upd H10 o (.ins CF dx (putF "right_ends" (.ref re) [("inks", .ref ik), ("char_list", .ref p), ("letter_table", .ref lt), ("left_ends", .ref le)]))) o = some (.ins CF dx (fs5 ik p lt le re)) := upd_same
    generalize upd H10 o (.ins CF dx (putF "right_ends" (.ref re) [("inks", .ref ik), ("char_list", .ref p), ("letter_table", .ref lt), ("left_ends", .ref le)])) = H11 at *
    clear hcon
    have fr11 := fr
    have I : FinI H CF CI o dx ik p lt le re ikk ((ds.map ch).map V.str) need A H11 0 (ds.take 0) H11 [] [] [] (fun _ => []) (fun _ => []) :=
      ⟨h_o11, h_ik, hink, h_p, h_lt, h_le, h_re, Nat.le_refl _, Nat.le_refl _, Nat.le_refl _, (fun c h => by cases h), (fun c h => by cases h), (fun c h => by cases h), fr, Fr.refl _ _⟩
    have plt : p ≠ lt := ne_of h_p h_lt (by intro z; cases z)
    have ple : p ≠ le := ne_of h_p h_le (by intro z; cases z)
    have pre : p ≠ re := ne_of h_p h_re (by intro z; cases z)
    refine ⟨_, rfl, o, CF, dx, _, _, rfl, h_o11, T.cF, T.f2, rfl, p, rfl, ⟨_, SqL.of h_p⟩, for_list (xs := (ds.map ch).map V.str) (fun i σ H' => ∃ (ltk lek rek : List (L2.Key × V)) (lf rf : Nat → List (L2.Key × V)) (v6 : Option V), σ = [some (.ref o), some (.ref ld), some (.ref sp), some (.int want), some (.int most), some (.ref ks), v6, none] ∧
      FinI H CF CI o dx ik p lt le re ikk ((ds.map ch).map V.str) need A H11 i (ds.take i) H' ltk lek rek lf rf) ?_ ?_ ?_ ?_⟩
    · exact ⟨_, _, _, _, _, _, rfl, I⟩
    · rintro i σ H12 _ ⟨ltk, lek, rek, lf, rf, v6, rfl, I⟩
      exact SqL.of I.h_cl
    · rintro i x σ H12 hi ⟨ltk, lek, rek, lf, rf, v6, rfl, I⟩
      rw [List.getElem?_map, List.getElem?_map] at hi
      cases ec : ds[i]? with
      | none => rw [ec] at hi; cases hi
      | some c =>
        rw [ec] at hi
        cases hi
        have hids := (List.getElem?_eq_some_iff.mp ec).1
        have hcn := hc1 c ((hdm c).mp (List.mem_of_getElem? ec))
        obtain ⟨v, rs, hv, hlet, _⟩ := TT.has c hcn
        have hlet := hlet.mono I.fr.t
        have l1 := I.l1
        have l2 := I.l2
        have l3 := I.l3
        refine ⟨_, rfl, _, rfl, ld, _, rfl, dget_k (I.fr.k1 h_ld old.symm) hv, _, rfl, o, CF, dx, _, _, rfl, I.h_o, T.cF, T.f3, rfl, _, rfl, lt, _, rfl, DPut.k (k := Sum.inr (ch c)) I.h_lt (by omega), ?_⟩
        have p1 := Fr.put (o := .dK (putK ltk (Sum.inr (ch c)) v)) I.h_lt
        -- after the first write
        have h_o1 := p1.k1 I.h_o olt
        have h_ik1 := p1.k1 I.h_ik iklt
        obtain ⟨a, ha1, ha2⟩ := I.inks c hcn
        have ha2 := ha2.kd p1 I.h_lt
        refine ⟨_, rfl, o, CF, dx, _, _, rfl, h_o1, T.cF, T.f1, rfl, _, rfl, ik, _, rfl, dget_k h_ik1 ha1, a, rfl, ha2, fun t d e lk rk H13 h_t hd he d0 e0 f13 => ?_⟩
        have h_o2 := f13.k0 h_o1
        have h_le2 := f13.k0 (p1.k1 I.h_le ltle.symm)
        have h_re2 := f13.k0 (p1.k1 I.h_re ltre.symm)
        have p2 := Fr.put (o := .dK (putK lek (Sum.inr (ch c)) (.ref d))) h_le2
        have h_o3 := p2.k1 h_o2 ole
        have h_re3 := p2.k1 h_re2 lere.symm
        have p3 := Fr.put (o := .dK (putK rek (Sum.inr (ch c)) (.ref e))) h_re3
        have dg := I.frg.d _ (p1.d _ d0)
        have eg := I.frg.d _ (p1.d _ e0)
        have dle : d ≠ le := (ne_of_none ((p1.k1 I.h_le ltle.symm)) d0).symm
        have dre : d ≠ re := (ne_of_none ((p1.k1 I.h_re ltre.symm)) d0).symm
        have ele : e ≠ le := (ne_of_none ((p1.k1 I.h_le ltle.symm)) e0).symm
        have ere : e ≠ re := (ne_of_none ((p1.k1 I.h_re ltre.symm)) e0).symm
        refine ⟨t, _, rfl, SqT.of h_t, rfl, _, _, rfl, ⟨_, rfl, o, CF, dx, _, _, rfl, h_o2, T.cF, T.f4, rfl, _, rfl, le, _, rfl, DPut.k (k := Sum.inr (ch c)) h_le2 (by omega), _, _, rfl, ⟨_, rfl, o, CF, dx, _, _, rfl, h_o3, T.cF, T.f5, rfl, _, rfl, re, _, rfl, DPut.k (k := Sum.inr (ch c)) h_re3 (by omega), rfl, putK ltk (Sum.inr (ch c)) v, putK lek (Sum.inr (ch c)) (.ref d), putK rek (Sum.inr (ch c)) (.ref e), (fun x => if x = c then lk else lf x), (fun x => if x = c then rk else rf x), _, rfl, ?_⟩⟩⟩
        -- the whole
        have kt : KeepT H12 (upd (upd H13 le (.dK (putK lek (Sum.inr (ch c)) (.ref d)))) re (.dK (putK rek (Sum.inr (ch c)) (.ref e)))) := fun b xs h => p3.t _ _ (p2.t _ _ (f13.t _ _ (p1.t _ _ h)))
        have frg : Fr [lt, le, re] H12 (upd (upd H13 le (.dK (putK lek (Sum.inr (ch c)) (.ref d)))) re (.dK (putK rek (Sum.inr (ch c)) (.ref e)))) := (((p1.mono (by simp)).t0 f13).t1 p2 (.inl (by simp))).t1 p3 (.inl (by simp))
        have keepE : ∀ (b : Addr) (kk : List (L2.Key × V)), EndsAt H12 b kk → H11 b = none → EndsAt (upd (upd H13 le (.dK (putK lek (Sum.inr (ch c)) (.ref d)))) re (.dK (putK rek (Sum.inr (ch c)) (.ref e)))) b kk := fun b kk h hn => by
          have b1 : b ≠ lt := (ne_of_none h_lt hn).symm
          have b2 : b ≠ le := (ne_of_none h_le hn).symm
          have b3 : b ≠ re := (ne_of_none h_re hn).symm
          exact ⟨frg.k _ _ h.1 (by simp [b1, b2, b3]), h.2⟩
        have mem : ∀ x, x ∈ ds.take (i + 1) → x = c ∨ x ∈ ds.take i := fun x hx => by
          rw [List.take_add_one, ec] at hx
          rcases List.mem_append.mp hx with m | m
          · exact .inr m
          · exact .inl (List.mem_singleton.mp m)
        have nk : ∀ {x : Nat}, x ≠ c → ¬ (Sum.inr (ch x) : L2.Key) = Sum.inr (ch c) := fun h y => h (ch_inj (Sum.inr.inj y))
        refine ⟨p3.k1 h_o3 ore, frg.k _ _ I.h_ik (by simp [iklt, ikle, ikre]), fun x hx => ?_, frg.k _ _ I.h_cl (by simp [plt, ple, pre]), p3.k1 (p2.k1 (f13.k0 upd_same) ltle) ltre, p3.k1 upd_same lere, upd_same, Nat.le_trans (length_putK _ _ _) (by omega), Nat.le_trans (length_putK _ _ _) (by omega), Nat.le_trans (length_putK _ _ _) (by omega), fun x hx => ?_, fun x hx => ?_, fun x hx => ?_, I.fr.trans frg (fun y hy => ?_), I.frg.ts frg⟩
        · obtain ⟨a, h1, h2⟩ := I.inks x hx
          exact ⟨a, h1, (((h2.kd p1 I.h_lt).k0 f13).kd p2 h_le2).kd p3 h_re3⟩
        · by_cases z : x = c
          · subst z
            exact ⟨v, rs, by rw [valV_put, if_pos rfl], hlet.mono kt⟩
          · obtain ⟨v, rs, h1, h2⟩ := I.lth x ((mem x hx).resolve_left z)
            exact ⟨v, rs, by rw [valV_put, if_neg (nk z)]; exact h1, h2.mono kt⟩
        · by_cases z : x = c
          · subst z
            refine ⟨d, by rw [valV_put, if_pos rfl], ?_, dg⟩
            rw [if_pos rfl]
            exact ⟨p3.k1 (p2.k1 hd.1 dle) dre, hd.2⟩
          · obtain ⟨b, h1, h2, h3⟩ := I.leh x ((mem x hx).resolve_left z)
            refine ⟨b, by rw [valV_put, if_neg (nk z)]; exact h1, ?_, h3⟩
            rw [if_neg z]
            exact keepE b _ h2 h3
        · by_cases z : x = c
          · subst z
            refine ⟨e, by rw [valV_put, if_pos rfl], ?_, eg⟩
            rw [if_pos rfl]
            exact ⟨p3.k1 (p2.k1 he.1 ele) ere, he.2⟩
          · obtain ⟨b, h1, h2, h3⟩ := I.reh x ((mem x hx).resolve_left z)
            refine ⟨b, by rw [valV_put, if_neg (nk z)]; exact h1, ?_, h3⟩
            rw [if_neg z]
            exact keepE b _ h2 h3
        · rcases List.mem_cons.mp hy with rfl | hy
          · exact .inr lt0
          · rcases List.mem_cons.mp hy with rfl | hy
            · exact .inr le0
            · rw [List.mem_singleton.mp hy]
              exact .inr re0
    · rintro σ H12 ⟨ltk, lek, rek, lf, rf, v6, rfl, I⟩
      rw [List.length_map, List.length_map, List.take_of_length_le (Nat.le_refl _)] at I
      refine ⟨_, rfl, _, rfl, o, CF, dx, _, rfl, I.h_o, T.cF, T.f6, (by show (5 : Nat) < 1000; decide), ?_⟩
      refine ⟨_, rfl, _, rfl, o, CF, dx, _, rfl, upd_same, T.cF, T.f7, (by show (6 : Nat) < 1000; decide), ?_⟩
      refine ⟨_, rfl, _, rfl, o, CF, dx, _, rfl, upd_same, T.cF, T.f8, (by show (7 : Nat) < 1000; decide), ?_⟩
      simp only [upd_upd]
      have q1 := Fr.put (o := .ins CF dx (putF "most" (.int most) (putF "want" (.int want) (putF "space_numbers" (.ref sp) (fs5 ik p lt le re))))) I.h_o
      have h_o13 : (upd H12 o (.ins CF dx (putF "most" (.int most) (putF "want" (.int want) (putF "space_numbers" (.ref sp) (fs5 ik p lt le re)))))) o = some (.ins CF dx [("inks", .ref ik), ("char_list", .ref p), ("letter_table", .ref lt), ("left_ends", .ref le), ("right_ends", .ref re), ("space_numbers", .ref sp), ("want", .int want), ("most", .int most)]) := upd_same
      generalize upd H12 o (.ins CF dx (putF "most" (.int most) (putF "want" (.int want) (putF "space_numbers" (.ref sp) (fs5 ik p lt le re))))) = H13 at *
      refine fun kt n_kt => ?_
      have kt12 := q1.d _ n_kt
      have okt := ne_of_none h_o13 n_kt
      generalize eH_kt : upd H13 kt _ = H14
      have ev_kt : ∀ {M : List Addr}, Fr M H13 H14 := by intro M; rw [← eH_kt]; exact Fr.new n_kt
      have h_kt : H14 kt = some (.dK []) := by rw [← eH_kt]; exact upd_same
      clear eH_kt
      have h_o14 := (ev_kt (M := [])).k0 h_o13
      refine ⟨_, rfl, o, CF, dx, _, rfl, h_o14, T.cF, T.f9, (by show (8 : Nat) < 1000; decide), ?_⟩
      have q2 := Fr.put (o := .ins CF dx (putF "kern_table" (.ref kt) [("inks", .ref ik), ("char_list", .ref p), ("letter_table", .ref lt), ("left_ends", .ref le), ("right_ends", .ref re), ("space_numbers", .ref sp), ("want", .int want), ("most", .int most)])) h_o14
      have h_o15 : (upd H14 o (.ins CF dx (putF "kern_table" (.ref kt) [("inks", .ref ik), ("char_list", .ref p), ("letter_table", .ref lt), ("left_ends", .ref le), ("right_ends", .ref re), ("space_numbers", .ref sp), ("want", .int want), ("most", .int most)]))) o = some (.ins CF dx (fs9 ik p lt le re sp kt want most)) := upd_same
      generalize upd H14 o (.ins CF dx (putF "kern_table" (.ref kt) [("inks", .ref ik), ("char_list", .ref p), ("letter_table", .ref lt), ("left_ends", .ref le), ("right_ends", .ref re), ("space_numbers", .ref sp), ("want", .int want), ("most", .int most)])) = H15 at *
      have h_kt := q2.k1 h_kt okt.symm
      have f15 : Fr [o] H12 H15 := (q1.t0 ev_kt).ts q2
      have fr15 := I.fr.ts f15
      have oks : o ≠ ks := ne_of h_o h_ks (by intro z; cases z)
      have h_ks15 := fr15.k1 h_ks oks.symm
      obtain ⟨xs, exs, hxl, hxs⟩ := keys_kern hko
      refine ⟨_, rfl, rfl, _, rfl, ite2 (fun _ => ?_) (fun hc => (hc (by simp)).elim)⟩
      refine ⟨_, rfl, ks, kk, rfl, h_ks15, fun q n_q => ?_⟩
      rw [exs]
      generalize eH_q : upd H15 q _ = H16
      have ev_q : ∀ {M : List Addr}, Fr M H15 H16 := by intro M; rw [← eH_q]; exact Fr.new n_q
      have h_q : H16 q = some (.lst (xs.map V.str)) := by rw [← eH_q]; exact upd_same
      clear eH_q
      refine ⟨q, xs, rfl, SqL.of h_q, fun zs p2 hzs n_p2 => ?_⟩
      generalize eH_p2 : upd H16 p2 _ = H17
      have ev_p2 : ∀ {M : List Addr}, Fr M H16 H17 := by intro M; rw [← eH_p2]; exact Fr.new n_p2
      have h_p2 : H17 p2 = some (.lst (zs.map V.str)) := by rw [← eH_p2]; exact upd_same
      clear eH_p2
      have f17 : ∀ {M : List Addr}, Fr M H15 H17 := fun {M} => (ev_q (M := M)).t0 ev_p2
      have hzl : zs.length ≤ 1000 := by rw [hzs.length_eq, hxl]; exact hkl
      have ktp2 : p2 ≠ kt := ne_of h_p2 ((f17 (M := [])).k0 h_kt) (by intro z; cases z)
      have ksk : ks ≠ kt := ne_of_none (q1.k1 (I.fr.k1 h_ks oks.symm) oks.symm) n_kt
      refine ⟨p2, rfl, ⟨_, SqL.of h_p2⟩, for_list (xs := zs.map V.str) (fun i σ H' => ∃ (k2 : List (L2.Key × V)) (v6 v7 : Option V), σ = [some (.ref o), some (.ref ld), some (.ref sp), some (.int want), some (.int most), some (.ref ks), v6, v7] ∧ H' kt = some (.dK k2) ∧ KernOk k2 ∧ k2.length ≤ i ∧ H' p2 = some (.lst (zs.map V.str)) ∧ Fr [kt] H15 H') ?_ ?_ ?_ ?_⟩
      · exact ⟨[], _, _, rfl, (f17 (M := [])).k0 h_kt, (fun kv h => by cases h), Nat.le_refl _, h_p2, f17⟩
      · rintro i σ H18 _ ⟨k2, v6, v7, rfl, h_kt, hk2, hkl2, h_p2, f18⟩
        exact SqL.of h_p2
      · rintro i x σ H18 hi ⟨k2, v6, v7, rfl, h_kt, hk2, hkl2, h_p2, f18⟩
        rw [List.getElem?_map] at hi
        cases ez : zs[i]? with
        | none => rw [ez] at hi; cases hi
        | some z =>
          rw [ez] at hi
          cases hi
          have hil := (List.getElem?_eq_some_iff.mp ez).1
          obtain ⟨m, hm⟩ := hxs z (hzs.mem_iff.mp (List.mem_of_getElem? ez))
          have h_ks18 := f18.k1 h_ks15 ksk
          have h_o18 := f18.k1 h_o15 okt
          have p1 := Fr.put (o := .dK (putK k2 (Sum.inr z) (.int m))) h_kt
          exact ⟨_, rfl, _, rfl, ks, _, rfl, dget_k h_ks18 hm, _, rfl, o, CF, dx, _, _, rfl, h_o18, T.cF, T.f9, rfl, _, rfl, kt, _, rfl, DPut.k (k := Sum.inr z) h_kt (by omega), _, _, _, rfl, upd_same, hk2.put z m, Nat.le_trans (length_putK _ _ _) (by omega), p1.k1 h_p2 ktp2, f18.ts p1⟩
      · rintro σ H18 ⟨k2, v6, v7, rfl, h_kt, hk2, hkl2, h_p2, f18⟩
        have keep : ∀ b u, H12 b = some u → b ≠ o → H18 b = some u := fun b u h n => f18.k1 (f15.k1 h n) (ne_of_none h kt12)
        have kt12' : KeepT H12 H18 := fun b xs h => f18.t _ _ (f15.t _ _ h)
        have hO : ∀ b, H11 b = none → b ≠ o := fun b h => (ne_of_none h_o11 h).symm
        refine kf ⟨A, lf, rf, k2, want, most, (i, j, k), need⟩ ⟨dx, fs9 ik p lt le re sp kt want most, lt, le, re, kt, sp, ltk, lek, rek⟩ H18 ⟨f18.k1 h_o15 okt, rfl, rfl, rfl, rfl, rfl, rfl, rfl, rfl, rfl, rfl, rfl, keep _ _ I.h_lt olt.symm, fun c hc => ?_, keep _ _ I.h_le ole.symm, fun c hc => ?_, keep _ _ I.h_re ore.symm, fun c hc => ?_, h_kt, hk2, f18.t _ _ (fr15.t _ _ h_sp), lt0, le0, re0, I.fr.d _ kt12⟩ rfl rfl (fr15.t1 f18 (.inr (I.fr.d _ kt12)))
        · obtain ⟨v, rs, h1, h2⟩ := I.lth c ((hdm c).mpr (hc2 c hc))
          exact ⟨v, rs, h1, h2.mono kt12'⟩
        · obtain ⟨d, h1, h2, h3⟩ := I.leh c ((hdm c).mpr (hc2 c hc))
          exact ⟨d, h1, ⟨keep _ _ h2.1 (hO d h3), h2.2⟩, fr11.d _ h3⟩
        · obtain ⟨d, h1, h2, h3⟩ := I.reh c ((hdm c).mpr (hc2 c hc))
          exact ⟨d, h1, ⟨keep _ _ h2.1 (hO d h3), h2.2⟩, fr11.d _ h3⟩
end

end K45

set_option maxHeartbeats 4000000
namespace K45
open PySem PySem.Spec PyProof.Rows L2
section
variable {P : Program} {w : World} {K : PySem.W.Frag} {mg : Str → Option Value} {base : Heap}
theorem dget_rd {H : Hp} {a : Addr} {kvs : List (L2.Key × V)} {k : L2.Key} {o : Option V} (e : Rd H a (.dK kvs)) (h : valV kvs k = o) : DGet H a (kV k) o := .inl ⟨kvs, k, e, rfl, h.symm⟩
abbrev s_fspace : Stmt := inClass (top 36) 5
abbrev N_fspace : List Str := ["self"]
theorem sc_fspace : FnScope ["self"] ["self"] (defScope s_fspace) := ⟨rfl, rfl, rfl, by decide +kernel, rfl, by decide +kernel, by decide +kernel⟩
theorem pp_face {CS CI CF : Addr} (F : Dp1 K CF "space" "Face.space" s_fspace) (G : Gn mg) (T : Ct K mg CS CI CF) : Prp P w K mg base 1 CF "space" (spFspace CF) := by
  refine prp_by F sc_fspace (fun _ _ _ _ _ _ us hl => match us, hl with | [_], _ => rfl) (fun vs H Q E h => ?_) (fun f cdv A outer s H vs Q E hr h => ?_)
  · obtain ⟨o, D, rfl, _⟩ := h
    rfl
  · obtain ⟨o, D, rfl, ⟨H0, X, g⟩, k⟩ := h
    have sc := sc_fspace
    refine ⟨_, (pss_one (ps_ret (pe_fld (pv 0) rfl))), ?_⟩
    exact ⟨_, rfl, o, CF, _, _, _, rfl, g.at_, T.cF, T.f6, g.f6, k _ g.sn⟩
abbrev s_adv : Stmt := inClass (top 36) 6
abbrev N_adv : List Str := ["self", "char"]
theorem sc_adv : FnScope ["self", "char"] ["self", "char"] (defScope s_adv) := ⟨rfl, rfl, rfl, by decide +kernel, rfl, by decide +kernel, by decide +kernel⟩
theorem m_adv {CS CI CF : Addr} (F : Dm K CF "advance" "Face.advance" s_adv) (G : Gn mg) (T : Ct K mg CS CI CF)   : C8.Met P w K mg base 1 CF "advance" (spAdv CF) [] := by
  refine met_by F sc_adv (fun _ _ _ _ _ _ us hl => match us, hl with | [_, _], _ => rfl) (fun vs H Q E h => ?_) (fun f cdv A outer s H vs Q E hr h => ?_)
  · obtain ⟨o, D, c, rfl, _⟩ := h
    rfl
  · obtain ⟨o, D, c, rfl, ⟨H0, X, g⟩, hc, k⟩ := h
    have sc := sc_adv
    have hu := hu_of hr
    refine ⟨_, (pss_cons (ps_if (pt_cmp (pc_dnotin hu (pv 1) (pe_fld (pv 0) rfl)))
        (pss_one ps_never)
        pss_nil)
      (pss_one (ps_ret (pe_ix ix_tup (pe_dget hu (pe_fld (pv 0) rfl) (pv 1) (fun _ _ => rfl)) pe_int (fun _ _ => rfl))))), ?_⟩
    obtain ⟨v, rs, hv, ⟨t, ou, rfl, ht, _⟩⟩ := g.lh c hc
    refine ⟨_, rfl, _, rfl, o, CF, _, _, _, rfl, g.at_, T.cF, T.f3, g.f3, X.lt, _, rfl, dget_k (k := Sum.inr (ch c)) g.lt hv, _, rfl, ite2 (fun hc => absurd hc (by simp)) (fun hc => ?_)⟩
    exact ⟨_, rfl, o, CF, _, _, _, rfl, g.at_, T.cF, T.f3, g.f3, _, rfl, X.lt, _, rfl, dget_k (k := Sum.inr (ch c)) g.lt hv, t, _, _, _, rfl, rfl, SqT.of ht, rfl, k⟩
abbrev s_cgap : Stmt := inClass (top 36) 8
abbrev N_cgap : List Str := ["self", "a", "b", "found", "advance", "lefts", "y", "right", "gap"]
theorem sc_cgap : FnScope ["self", "a", "b", "found", "advance", "lefts", "y", "right", "gap"] ["self", "a", "b"] (defScope s_cgap) := ⟨rfl, rfl, rfl, by decide +kernel, rfl, by decide +kernel, by decide +kernel⟩
theorem m_cgap {CS CI CF : Addr} (F : Dm K CF "closest_gap" "Face.closest_gap" s_cgap) (G : Gn mg) (T : Ct K mg CS CI CF)  (mt_advance : C8.Met P w K mg base 1 CF "advance" (spAdv CF) []) : C8.Met P w K mg base 2 CF "closest_gap" (spCgap CF) [] := by
  refine met_by F sc_cgap (fun _ _ _ _ _ _ us hl => match us, hl with | [_, _, _], _ => rfl) (fun vs H Q E h => ?_) (fun f cdv A outer s H vs Q E hr h => ?_)
  · obtain ⟨o, D, a, b, rfl, _⟩ := h
    rfl
  · obtain ⟨o, D, a, b, rfl, hF, ha, hb, k⟩ := h
    have sc := sc_cgap
    have hu := hu_of hr
    refine ⟨_, (pss_cons (ps_set (i := 3) sc.nd rfl (Or.inl rfl) pe_non)
      (pss_cons (ps_set (i := 4) sc.nd rfl (Or.inl rfl) (C8.pe_mt mt_advance hr (by decide) (pv 0) (pa_cons (pv 1) pa_nil)))
      (pss_cons (ps_set (i := 5) sc.nd rfl (Or.inl rfl) (pe_dget hu (pe_fld (pv 0) rfl) (pv 2) (fun _ _ => rfl)))
      (pss_cons (ps_lock (ps_for PassesOwn.never rfl (pi_items (pe_dget hu (pe_fld (pv 0) rfl) (pv 1) (fun _ _ => rfl))) (pg_tup rfl (pgs_cons (pg_name (i := 6) sc.nd rfl (Or.inl rfl)) (pgs_cons (pg_name (i := 7) sc.nd rfl (Or.inl rfl)) pgs_nil)))
        (pss_one (ps_if (pt_cmp (pc_din hu (pv 6) (pv 5)))
          (pss_cons (ps_set (i := 8) sc.nd rfl (Or.inl rfl) (pe_op op_add (pe_op op_sub (pv 4) (pv 7)) (pe_dget hu (pv 5) (pv 6) (fun _ _ => rfl))))
          (pss_one (ps_if (PW.pt (pw_or (pt_cmpR op_isN (pv 3) pe_non (nomark _)) (pw_or1 (pt_cmpR (op_ltT hr.units0) (pe_tup (pa_cons (pv 8) (pa_cons (pv 6) pa_nil))) (pv 3) (nomark _)))))
            (pss_one (ps_set (i := 3) sc.nd rfl (Or.inl rfl) (pe_tup (pa_cons (pv 8) (pa_cons (pv 6) pa_nil)))))
            pss_nil)))
          pss_nil))))
      (pss_one (ps_ret (pv 3))))))), ?_⟩
    have hz := big
    obtain ⟨H0, X, g⟩ := id hF
    obtain ⟨dl, hl1, hl2, _⟩ := g.leh b hb
    obtain ⟨dr, hr1, hr2, _⟩ := g.reh a ha
    refine ⟨_, rfl, o, _, _, rfl, g.at_, g.m1, _, rfl, o, D, a, rfl, hF, ha, ?_⟩
    refine ⟨_, rfl, o, CF, _, _, _, rfl, g.at_, T.cF, T.f4, g.f4, _, rfl, X.le, _, rfl, dget_k (k := Sum.inr (ch b)) g.le hl1, ?_⟩
    have h_dr := hr2.1
    refine ⟨dr, _, h_dr, (by trivial), fun od => ?_⟩
    have ofr : H X.re ≠ none := by rw [g.re]; simp
    generalize eHF : upd H dr (.frz od (.dK (D.rf a))) = HF
    have keep : ∀ x u, H x = some u → x ≠ dr → HF x = some u := fun x u h n => by rw [← eHF, upd_ne n]; exact h
    have h_F : HF dr = some (.frz od (.dK (D.rf a))) := by rw [← eHF]; exact upd_same
    have odr : o ≠ dr := ne_of g.at_ h_dr (by intro z; cases z)
    have back : ∀ {H' : Hp}, Fr [] HF H' → Fr [] H (upd H' dr (.dK (D.rf a))) := fun {H'} f => ⟨fun x u h _ => (by
      by_cases z : x = dr
      · rw [z, upd_same, ← h_dr, ← z, h]
      · rw [upd_ne z]; exact f.k0 (keep x u h z)), fun x xs h => (by
      have z : x ≠ dr := ne_of h h_dr (by intro z; cases z)
      rw [upd_ne z]; exact f.t _ _ (keep x _ h z)), fun x h => (by
      by_cases z : x = dr
      · rw [z, upd_same] at h; cases h
      · rw [upd_ne z] at h
        have := f.d _ h
        rw [← eHF, upd_ne z] at this
        exact this)⟩
    have rd : ∀ {x : Addr} {kvs : List (L2.Key × V)}, H x = some (.dK kvs) → Rd HF x (.dK kvs) := fun {x kvs} h => by
      by_cases z : x = dr
      · subst z
        rw [h_dr] at h
        injection h with h
        injection h with h
        rw [← h]
        exact .inr ⟨od, h_F⟩
      · exact .inl (keep x _ h z)
    have rdk : ∀ {x : Addr} {kvs : List (L2.Key × V)} {H' : Hp}, Fr [] HF H' → Rd HF x (.dK kvs) → Rd H' x (.dK kvs) := fun {x kvs H'} f h => by
      rcases h with h | ⟨o, h⟩
      · exact .inl (f.k0 h)
      · exact .inr ⟨o, f.k0 h⟩
    have h_oF := keep _ _ g.at_ odr
    refine ⟨_, rfl, o, CF, _, _, _, rfl, h_oF, T.cF, T.f5, g.f5, _, rfl, X.re, _, rfl, dget_rd (k := Sum.inr (ch a)) (rd g.re) hr1, dr, od, D.rf a, rfl, h_F, for_it (walk_items (kvs := D.rf a)) (fun i σ H' => ∃ (fv : V) (v6 v7 v8 : Option V), σ = [some (.ref o), some (.str (ch a)), some (.str (ch b)), some fv, some (.int (D.adv a)), some (.ref dl), v6, v7, v8] ∧ GapV H' fv (((D.rf a).take i).foldl (gapStep (D.adv a) (D.lf b)) none) ∧ Fr [] HF H') ?_ ?_ ?_ ?_⟩
    · exact ⟨.non, _, _, _, rfl, rfl, Fr.refl _ _⟩
    · rintro i σ H' _ ⟨fv, v6, v7, v8, rfl, hg, fr⟩
      exact fr.k0 h_F
    · rintro i y σ H1 H2' hi ⟨fv, v6, v7, v8, rfl, hg, fr⟩ ⟨TT, x, u, rfl, n_TT, rfl, ex, eu⟩
      obtain ⟨kv, ekv, hkv⟩ := get_of (l := D.rf a) (j := i) hi
      obtain ⟨yy, rr, rfl⟩ := hr2.2.1 kv hkv
      have ex : ((D.rf a)[i]?).map (fun kv => kV kv.1) = some x := ex
      have eu : ((D.rf a)[i]?).map Prod.snd = some u := eu
      rw [ekv] at ex eu
      cases ex
      cases eu
      have et : (D.rf a).take (i + 1) = (D.rf a).take i ++ [(Sum.inl yy, V.int rr)] := by rw [List.take_add_one, ekv] <;> rfl
      generalize eH_TT : upd H1 TT _ = H2
      have ev_TT : ∀ {M : List Addr}, Fr M H1 H2 := by intro M; rw [← eH_TT]; exact Fr.new n_TT
      have h_TT : H2 TT = some (.tup [.int yy, .int rr]) := by rw [← eH_TT]; exact upd_same
      clear eH_TT
      have fr := fr.t0 ev_TT
      have hg : GapV H2 fv (((D.rf a).take i).foldl (gapStep (D.adv a) (D.lf b)) none) := by
        cases e : ((D.rf a).take i).foldl (gapStep (D.adv a) (D.lf b)) none with
        | none => rw [e] at hg; exact hg
        | some g0 =>
          rw [e] at hg
          obtain ⟨t, h1, h2⟩ := hg
          exact ⟨t, h1, (ev_TT (M := [])).t _ _ h2⟩
      have h_l := rdk fr (rd hl2.1)
      rw [et, List.foldl_append]
      generalize ((D.rf a).take i).foldl (gapStep (D.adv a) (D.lf b)) none = G0 at *
      refine ⟨_, _, rfl, SqT.of (h_TT), rfl, _, _, rfl, _, _, rfl, rfl, _, rfl, _, rfl, dl, _, rfl, dget_rd (k := Sum.inl yy) h_l rfl, _, rfl, ite2 (fun hc => ?_) (fun hc => ?_)⟩
      · cases el : valV (D.lf b) (Sum.inl yy) with
        | none => rw [el] at hc; exact absurd hc (by simp)
        | some lv =>
          obtain ⟨y2, ll, e2⟩ := hl2.2.1 _ (valV_mem el)
          injection e2 with e2 e3
          subst e3
          refine ⟨_, rfl, _, rfl, _, _, rfl, rfl, _, rfl, _, rfl, dl, _, rfl, dget_rd (k := Sum.inl yy) h_l el, _, _, rfl, rfl, _, rfl, rfl, _, rfl, ite2 (fun hn => ?_) (fun hn => ?_)⟩
          · cases G0 with
            | some g0 =>
              obtain ⟨t, rfl, _⟩ := hg
              exact absurd hn (by simp)
            | none =>
              refine ⟨_, rfl, _, rfl, (by show 2 ≤ sizeLine; omega), fun q n_q => ⟨_, _, _, _, rfl, ?_, fr.t0 (Fr.new n_q)⟩⟩
              have e9 : [((Sum.inl yy : L2.Key), V.int rr)].foldl (gapStep (D.adv a) (D.lf b)) none = some (D.adv a - rr + ll, yy) := by
                show gapStep (D.adv a) (D.lf b) none (Sum.inl yy, V.int rr) = _
                unfold gapStep
                simp only [el]
              rw [e9]
              exact ⟨q, rfl, upd_same⟩
          · cases G0 with
            | none =>
              cases hg
              exact (hn (by simp)).elim
            | some g0 =>
              obtain ⟨t, rfl, ht⟩ := hg
              have e9 : [((Sum.inl yy : L2.Key), V.int rr)].foldl (gapStep (D.adv a) (D.lf b)) (some g0) = if HT.lexLt [D.adv a - rr + ll, yy] [g0.1, g0.2] = true then some (D.adv a - rr + ll, yy) else some g0 := by
                show gapStep (D.adv a) (D.lf b) (some g0) (Sum.inl yy, V.int rr) = _
                unfold gapStep
                simp only [el]
              rw [e9]
              refine ⟨_, rfl, _, rfl, (by show 2 ≤ sizeLine; omega), fun q n_q => ?_⟩
              generalize eH_q : upd H2 q _ = H3
              have ev_q : ∀ {M : List Addr}, Fr M H2 H3 := by intro M; rw [← eH_q]; exact Fr.new n_q
              have h_q : H3 q = some (.tup [.int (D.adv a - rr + ll), .int yy]) := by rw [← eH_q]; exact upd_same
              clear eH_q
              have fr := fr.t0 ev_q
              have ht := (ev_q (M := [])).t _ _ ht
              refine ⟨_, rfl, q, t, [D.adv a - rr + ll, yy], [g0.1, g0.2], rfl, rfl, SqT.of h_q, SqT.of ht, _, rfl, ite2 (fun hb2 => ?_) (fun hb2 => ?_)⟩
              · rw [if_pos hb2]
                refine ⟨_, rfl, _, rfl, (by show 2 ≤ sizeLine; omega), fun q2 n_q2 => ⟨_, _, _, _, rfl, ?_, fr.t0 (Fr.new n_q2)⟩⟩
                exact ⟨q2, rfl, upd_same⟩
              · rw [if_neg hb2]
                exact ⟨_, _, _, _, rfl, ⟨t, rfl, ht⟩, fr⟩
      · have e9 : [((Sum.inl yy : L2.Key), V.int rr)].foldl (gapStep (D.adv a) (D.lf b)) G0 = G0 := by
          show gapStep (D.adv a) (D.lf b) G0 (Sum.inl yy, V.int rr) = _
          unfold gapStep
          cases el : valV (D.lf b) (Sum.inl yy) with
          | none => simp only [el]
          | some lv => rw [el] at hc; exact (hc rfl).elim
        rw [e9]
        exact ⟨_, _, _, _, rfl, hg, fr⟩
    · rintro σ H1 ⟨fv, v6, v7, v8, rfl, hg, fr⟩
      rw [List.take_of_length_le (Nat.le_refl _)] at hg
      refine ⟨fr.k0 h_F, _, rfl, k fv _ ?_ (back fr)⟩
      unfold gapF
      cases e : (D.rf a).foldl (gapStep (D.adv a) (D.lf b)) none with
      | none => rw [e] at hg; exact hg
      | some g0 =>
        rw [e] at hg
        obtain ⟨t, h1, h2⟩ := hg
        exact ⟨t, h1, by rw [upd_ne (ne_of h2 (fr.k0 h_F) (by intro z; cases z))]; exact h2⟩
abbrev s_wanted : Stmt := inClass (top 36) 9
abbrev N_wanted : List Str := ["self", "a", "b", "pair", "found"]
theorem sc_wanted : FnScope ["self", "a", "b", "pair", "found"] ["self", "a", "b"] (defScope s_wanted) := ⟨rfl, rfl, rfl, by decide +kernel, rfl, by decide +kernel, by decide +kernel⟩
theorem m_wanted {CS CI CF : Addr} (F : Dm K CF "wanted_amount" "Face.wanted_amount" s_wanted) (G : Gn mg) (T : Ct K mg CS CI CF)  (mt_closest_gap : C8.Met P w K mg base 2 CF "closest_gap" (spCgap CF) []) : C8.Met P w K mg base 3 CF "wanted_amount" (spWanted CF) [] := by
  refine met_by F sc_wanted (fun _ _ _ _ _ _ us hl => match us, hl with | [_, _, _], _ => rfl) (fun vs H Q E h => ?_) (fun f cdv A outer s H vs Q E hr h => ?_)
  · obtain ⟨o, D, a, b, rfl, _⟩ := h
    rfl
  · obtain ⟨o, D, a, b, rfl, hF, ha, hb, k⟩ := h
    have sc := sc_wanted
    have hu := hu_of hr
    refine ⟨_, (pss_cons (ps_set (i := 3) sc.nd rfl (Or.inl rfl) (pe_op op_add_str (pv 1) (pv 2)))
      (pss_cons (ps_if (pt_cmp (pc_din hu (pv 3) (pe_fld (pv 0) rfl)))
        (pss_one (ps_ret (pe_dget hu (pe_fld (pv 0) rfl) (pv 3) (fun _ _ => rfl))))
        pss_nil)
      (pss_cons (ps_set (i := 4) sc.nd rfl (Or.inl rfl) (C8.pe_mt mt_closest_gap hr (by decide) (pv 0) (pa_cons (pv 1) (pa_cons (pv 2) pa_nil))))
      (pss_cons (ps_if (pt_cmpR op_isN (pv 4) pe_non (nomark _))
        (pss_one (ps_ret pe_int))
        pss_nil)
      (pss_one (ps_ret (pe_callB (call_min2 rfl) rfl G.n_min (by decide +kernel) (pa_cons (pe_callB (call_max2 rfl) rfl G.n_max (by decide +kernel) (pa_cons (pe_op op_sub (pe_ix ix_tup (pv 4) pe_int (fun _ _ => rfl)) (pe_fld (pv 0) rfl)) (pa_cons pe_int pa_nil))) (pa_cons (pe_fld (pv 0) rfl) pa_nil))))))))), ?_⟩
    have hz := big
    obtain ⟨H0, X, g⟩ := id hF
    have ecat : ch a ++ ch b = SX.S [a, b] := SX.S_cat [a] [b]
    refine ⟨_, rfl, _, rfl, _, _, rfl, rfl, (by show 2 ≤ sizeLine; omega), ?_⟩
    rw [ecat]
    refine ⟨_, rfl, _, rfl, o, CF, _, _, _, rfl, g.at_, T.cF, T.f9, g.f9, X.kt, _, rfl, dget_rd (k := Sum.inr (SX.S [a, b])) (.inl g.kt) rfl, _, rfl, ite2 (fun hc => ?_) (fun hc => ?_)⟩
    · cases e : valV D.kk (Sum.inr (SX.S [a, b])) with
      | none => rw [e] at hc; exact absurd hc (by simp)
      | some v =>
        obtain ⟨x, m, e2⟩ := g.ko _ (valV_mem e)
        injection e2 with e2 e3
        subst e3
        have ew : wantF D a b = m := by unfold wantF; rw [e]
        rw [ew] at k
        exact ⟨_, rfl, o, CF, _, _, _, rfl, g.at_, T.cF, T.f9, g.f9, _, rfl, X.kt, _, rfl, dget_rd (k := Sum.inr (SX.S [a, b])) (.inl g.kt) e, k H (Fr.refl _ _)⟩
    · have e : valV D.kk (Sum.inr (SX.S [a, b])) = none := by
        cases e : valV D.kk (Sum.inr (SX.S [a, b])) with
        | none => rfl
        | some v => rw [e] at hc; exact (hc rfl).elim
      refine ⟨_, rfl, o, _, _, rfl, g.at_, g.m2, _, rfl, _, rfl, o, D, a, b, rfl, hF, ha, hb, fun v H1 hv f1 => ?_⟩
      unfold wantF at k
      rw [e] at k
      have g1 := g.k0 f1
      cases eg : gapF D a b with
      | none =>
        rw [eg] at hv k
        cases hv
        exact ⟨_, rfl, rfl, _, rfl, ite2 (fun _ => k H1 f1) (fun hn => (hn (by simp)).elim)⟩
      | some g0 =>
        rw [eg] at hv k
        obtain ⟨t, rfl, ht⟩ := hv
        refine ⟨_, rfl, rfl, _, rfl, ite2 (fun hn => absurd hn (by simp)) (fun _ => ?_)⟩
        exact ⟨_, rfl, t, _, _, _, rfl, rfl, SqT.of ht, rfl, _, rfl, o, CF, _, _, _, rfl, g1.at_, T.cF, T.f7, g1.f7, _, _, rfl, rfl, _, _, rfl, _, rfl, o, CF, _, _, _, rfl, g1.at_, T.cF, T.f8, g1.f8, _, _, rfl, k H1 f1⟩
abbrev s_near : Stmt := inClass (top 36) 10
abbrev N_near : List Str := ["self", "a", "b", "limit"]
theorem sc_near : FnScope ["self", "a", "b", "limit"] ["self", "a", "b"] (defScope s_near) := ⟨rfl, rfl, rfl, by decide +kernel, rfl, by decide +kernel, by decide +kernel⟩
theorem m_near {CS CI CF : Addr} (F : Dm K CF "nearer" "Face.nearer" s_near) (G : Gn mg) (T : Ct K mg CS CI CF)  (mt_advance : C8.Met P w K mg base 1 CF "advance" (spAdv CF) []) (mt_wanted_amount : C8.Met P w K mg base 3 CF "wanted_amount" (spWanted CF) []) : C8.Met P w K mg base 4 CF "nearer" (spNear CF) [] := by
  refine met_by F sc_near (fun _ _ _ _ _ _ us hl => match us, hl with | [_, _, _], _ => rfl) (fun vs H Q E h => ?_) (fun f cdv A outer s H vs Q E hr h => ?_)
  · obtain ⟨o, D, a, b, rfl, _⟩ := h
    rfl
  · obtain ⟨o, D, a, b, rfl, hF, ha, hb, k⟩ := h
    have sc := sc_near
    refine ⟨_, (pss_cons (ps_set (i := 3) sc.nd rfl (Or.inl rfl) (pe_op op_sub (pe_callB (call_min2 rfl) rfl G.n_min (by decide +kernel) (pa_cons (C8.pe_mt mt_advance hr (by decide) (pv 0) (pa_cons (pv 1) pa_nil)) (pa_cons (C8.pe_mt mt_advance hr (by decide) (pv 0) (pa_cons (pv 2) pa_nil)) pa_nil))) pe_int))
      (pss_cons (ps_if (PW.pt (pw_or (pt_cmpR op_in_sign (pv 1) (C8.pe_gc rfl G.g_FIGURES) rfl) (pw_or1 (pt_cmpR op_in_sign (pv 2) (C8.pe_gc rfl G.g_FIGURES) rfl))))
        (pss_one (ps_ret pe_int))
        pss_nil)
      (pss_one (ps_ret (pe_callB (call_min2 rfl) rfl G.n_min (by decide +kernel) (pa_cons (C8.pe_mt mt_wanted_amount hr (by decide) (pv 0) (pa_cons (pv 1) (pa_cons (pv 2) pa_nil))) (pa_cons (pv 3) pa_nil))))))), ?_⟩
    have hz := big
    obtain ⟨H0, X, g⟩ := id hF
    have hm : ∀ c : Nat, c ∈ (Str.ofString "0123456789").cps.toList ↔ fig c = true := fun c => by
      have e : (Str.ofString "0123456789").cps.toList = figL := by decide +kernel
      rw [e]
      exact fig_mem.symm
    refine ⟨_, rfl, o, _, _, rfl, g.at_, g.m1, _, rfl, o, D, a, rfl, hF, ha, _, rfl, o, _, _, rfl, g.at_, g.m1, _, rfl, o, D, b, rfl, hF, hb, _, _, rfl, _, _, rfl, rfl, _, rfl, a, _, rfl, rfl, _, rfl, ite2 (fun hc => ?_) (fun hc => ?_)⟩
    · have hf := (hm a).mp (of_decide_eq_true hc)
      rw [nearF_fig (.inl hf)] at k
      exact k H (Fr.refl _ _)
    · have hfa : ¬ fig a = true := fun z => hc (decide_eq_true ((hm a).mpr z))
      refine ⟨_, rfl, b, _, rfl, rfl, _, rfl, ite2 (fun hc => ?_) (fun hc => ?_)⟩
      · have hf := (hm b).mp (of_decide_eq_true hc)
        rw [nearF_fig (.inr hf)] at k
        exact k H (Fr.refl _ _)
      · have hfb : ¬ fig b = true := fun z => hc (decide_eq_true ((hm b).mpr z))
        refine ⟨_, rfl, o, _, _, rfl, g.at_, g.m3, _, rfl, _, rfl, o, D, a, b, rfl, hF, ha, hb, fun H1 f1 => ⟨_, rfl, _, _, rfl, ?_⟩⟩
        have e : nearF D a b = if (if D.adv b < D.adv a then D.adv b else D.adv a) - 1 < wantF D a b then (if D.adv b < D.adv a then D.adv b else D.adv a) - 1 else wantF D a b := by unfold nearF; rw [if_neg (fun z => z.elim hfa hfb)]
        rw [e] at k
        exact k H1 f1
end

end K45

set_option maxHeartbeats 4000000
namespace K45
open PySem PySem.Spec PyProof.Rows L2
section
variable {P : Program} {w : World} {K : PySem.W.Frag} {mg : Str → Option Value} {base : Heap}
abbrev s_face : Stmt := top 46
abbrev N_face : List Str := ["_law_house_here", "_law_letters", "_law_amounts", "_law_face_here"]
theorem sc_face : FnScope ["_law_house_here", "_law_letters", "_law_amounts", "_law_face_here"] ["_law_house_here"] (defScope s_face) := ⟨rfl, rfl, rfl, by decide +kernel, rfl, by decide +kernel, by decide +kernel⟩
theorem c_face (F : Df K mg "_law_face" s_face) (G : Gn mg) {CS CI CF : Addr} (MF : MakF P w K mg base 8 CF (spFinit CF))  : C8.Cal P w K mg base 10 "_law_face" (spFace K CF) [] := by
  refine cal_by F sc_face (fun _ _ _ _ _ _ us hl => match us, hl with | [_], _ => rfl) (fun vs H Q E h => ?_) (fun f cdv A outer s H vs Q E hr h => ?_)
  · obtain ⟨h, HD, need, A, rfl, _⟩ := h
    rfl
  · obtain ⟨h, HD, need, A, rfl, hh, TT, hneed, k⟩ := h
    obtain ⟨fF, fdF, psF, gF, M_Face, F_Face, hmF, B_Face⟩ := MF.ex
    have sc := sc_face
    refine ⟨_, (pss_cons (ps_set (i := 1) sc.nd rfl (Or.inl rfl) (pe_callTy call_dictD rfl G.n_dict (by decide +kernel) (pa_cons (pe_ix ix_list (pv 0) pe_int (fun _ _ => rfl)) pa_nil)))
      (pss_cons (ps_set (i := 2) sc.nd rfl (Or.inl rfl) (pe_callTy call_dictD rfl G.n_dict (by decide +kernel) (pa_cons (pe_ix ix_list (pv 0) pe_int (fun _ _ => rfl)) pa_nil)))
      (pss_cons (ps_set (i := 3) sc.nd rfl (Or.inl rfl) (pe_makeK (E := C8.E0) M_Face F_Face (hr.mono (by decide)) rfl hmF B_Face C8.pass0 (pa_cons (pv 1) pa_nil) (pk_cons (pe_ix ix_list (pv 0) pe_int (fun _ _ => rfl)) (pk_cons (pe_ix ix_list (pe_ix ix_list (pv 0) pe_int (fun _ _ => rfl)) pe_int (fun _ _ => rfl)) (pk_cons (pe_ix ix_list (pe_ix ix_list (pv 0) pe_int (fun _ _ => rfl)) pe_int (fun _ _ => rfl)) (pk_cons (pv 2) pk_nil))))))
      (pss_cons (ps_expr (pe_dclear (pv 1)))
      (pss_cons (ps_expr (pe_dclear (pv 2)))
      (pss_one (ps_ret (pv 3)))))))), ?_⟩
    have hz := big
    obtain ⟨i, j, l, hg⟩ := hh.g
    obtain ⟨wi, mo, hn⟩ := hh.n
    refine ⟨_, rfl, h, _, _, _, rfl, rfl, SqL.of hh.l, rfl, HD.tb, _, rfl, Rd.of hh.t, fun ld n_ld => ?_⟩
    have ld0 := n_ld
    generalize eH_ld : upd H ld _ = H1
    have ev_ld : ∀ {M : List Addr}, Fr M H H1 := by intro M; rw [← eH_ld]; exact Fr.new n_ld
    have h_ld : H1 ld = some (.dK HD.kvs) := by rw [← eH_ld]; exact upd_same
    clear eH_ld
    have hh1 := hh.k0 ev_ld
    refine ⟨_, rfl, h, _, _, _, rfl, rfl, SqL.of hh1.l, rfl, HD.pr, _, rfl, Rd.of hh1.p, fun la n_la => ?_⟩
    have lala := ne_of_none h_ld n_la
    have la0 := (ev_ld (M := [])).d _ n_la
    generalize eH_la : upd H1 la _ = H2
    have ev_la : ∀ {M : List Addr}, Fr M H1 H2 := by intro M; rw [← eH_la]; exact Fr.new n_la
    have h_la : H2 la = some (.dK HD.kk) := by rw [← eH_la]; exact upd_same
    clear eH_la
    have hh2 := hh1.k0 ev_la
    have fr : ∀ {M : List Addr}, Fr M H H2 := fun {M} => (ev_ld (M := M)).t0 ev_la
    have h_ld := (ev_la (M := [])).k0 h_ld
    have hg := (fr (M := [])).k0 hg
    have hn := (fr (M := [])).k0 hn
    refine ⟨_, rfl, _, rfl, h, _, _, _, rfl, rfl, SqL.of hh2.l, rfl, _, rfl, h, _, _, _, rfl, rfl, SqL.of hh2.l, rfl, HD.nu, _, _, _, rfl, rfl, SqL.of hn, rfl, _, rfl, h, _, _, _, rfl, rfl, SqL.of hh2.l, rfl, HD.nu, _, _, _, rfl, rfl, SqL.of hn, rfl, _, rfl, rfl, rfl, fun x dx n_x n_dx dne => ?_⟩
    have f3 : ∀ {M : List Addr}, Fr M H2 (upd (upd H2 dx (.own x)) x (.ins CF dx [])) := Fr.made n_x n_dx dne
    have xld := (ne_of_none h_ld n_x).symm
    have xla := (ne_of_none h_la n_x).symm
    refine ⟨x, ld, HD.gp, la, dx, wi, mo, HD.kvs, HD.kk, need, A, i, j, l, rfl, upd_same, (f3 (M := [])).k0 h_ld, TT.mono ((fr (M := [])).t0 f3).t, hneed, (f3 (M := [])).k0 hg, (f3 (M := [])).k0 h_la, hh.k, hh.kl, fun D X H4 hF eA eneed f4 => ⟨rfl, ?_⟩⟩
    have h_ld3 := (f3 (M := [])).k0 h_ld
    have h_la3 := (f3 (M := [])).k0 h_la
    have h_ld4 := f4.k1 h_ld3 xld.symm
    have h_la4 := f4.k1 h_la3 xla.symm
    have fr4 : Fr [] H H4 := ((fr (M := [])).t0 f3).t1 f4 (.inr ((fr (M := [])).d _ n_x))
    have h3l : ∀ {b : Addr} {u : HO}, H2 b = some u → (upd (upd H2 dx (.own x)) x (.ins CF dx [])) b = some u := fun h => (f3 (M := [])).k0 h
    refine ⟨_, rfl, Or.inr (Or.inr (Or.inl ⟨rfl, .inl ⟨_, h_ld4⟩⟩)), ld, _, rfl, rfl, h_ld4, ?_⟩
    have p1 := Fr.put (o := .dK []) h_ld4
    have g1 := hF.k1 p1 h_ld3 xld
    have h_la5 := p1.k1 h_la4 lala.symm
    refine ⟨_, rfl, Or.inr (Or.inr (Or.inl ⟨rfl, .inl ⟨_, h_la5⟩⟩)), la, _, rfl, rfl, h_la5, ?_⟩
    have p2 := Fr.put (o := .dK []) h_la5
    have g2 := g1.k1 p2 h_la3 xla
    exact ⟨_, rfl, k x D X _ (g2.ghost fun p hp => ((fr (M := [])).t0 f3).d p hp) ((fr (M := [])).d _ n_x) eA eneed ((fr4.t1 p1 (.inr ld0)).t1 p2 (.inr la0))⟩
end

end K45

set_option maxHeartbeats 4000000
namespace K45
open PySem PySem.Spec PyProof.Rows L2
/-! ### words: the plain side -/
structure Ce where
  c : Nat
  z : Int
  f : Str
  p : Nat
abbrev Sps : Type := Int × Str
def ceD (x : Ce) : Dt := .tup [.str (ch x.c), .int x.z, .str x.f, .int (x.p : Int)]
def spD (s : Sps) : Dt := .tup [.int s.1, .str s.2]
structure Wst where
  ws : List (List (List Ce))
  sp : List Sps
  ins : Bool
  br : Bool
  spc : Option Sps
def W0 : Wst := ⟨[], [], false, false, none⟩
def modL {α : Type} (g : α → α) : List α → List α
  | [] => []
  | [a] => [g a]
  | a :: b :: r => a :: modL g (b :: r)
theorem modL_snoc {α : Type} (g : α → α) : ∀ (xs : List α) (a : α), modL g (xs ++ [a]) = xs ++ [g a]
  | [], _ => rfl
  | [x], _ => rfl
  | x :: y :: r, a => by
    show x :: modL g (y :: r ++ [a]) = _
    rw [modL_snoc g (y :: r) a]
    rfl
def stepL (l : Ce) (s : Wst) : Wst :=
  ⟨if s.ins = true then (if s.br = true then modL (fun w => w ++ [[l]]) s.ws else modL (modL fun b => b ++ [l]) s.ws) else s.ws ++ [[[l]]],
   if s.ins = false ∧ s.ws ≠ [] then s.sp ++ [s.spc.getD (0, "")] else s.sp, true, false, s.spc⟩
def stepW (z : Int) (f : Str) (p : Nat) (s : Wst) (c : Nat) : Wst :=
  if c = 32 then ⟨s.ws, s.sp, false, false, if s.ins = true then some (z, f) else s.spc⟩
  else if c = 124 then ⟨s.ws, s.sp, s.ins, s.ins, s.spc⟩
  else stepL ⟨c, z, f, p⟩ s
def stepR (p : Nat) (s : Wst) : RR → Wst
  | .mark _ => s
  | .text t z f => t.foldl (stepW z f p) s
  | .shown _ t z f => t.foldl (stepW z f p) s
def wordsF (rs : List RR) : Wst := rs.zipIdx.foldl (fun s x => stepR x.2 s x.1) W0
def RRok : RR → Prop
  | .text t z f => t.length ≤ 100 ∧ SzOk z f
  | .mark _ => True
  | .shown _ t z f => t.length ≤ 100 ∧ SzOk z f
/-- nothing is empty, and a space stands ready -/
structure WIn (s : Wst) : Prop where
  a : s.ws ≠ [] → s.ins = false → s.spc ≠ none
  b : s.ins = true → s.ws ≠ []
  c : ∀ w ∈ s.ws, w ≠ [] ∧ ∀ x ∈ w, x ≠ []
theorem snoc_ex {α : Type} {xs : List α} (h : xs ≠ []) : ∃ ys y, xs = ys ++ [y] := ⟨xs.dropLast, xs.getLast h, (List.dropLast_concat_getLast h).symm⟩
theorem WIn.step {s : Wst} (h : WIn s) (l : Ce) : WIn (stepL l s) := by
  refine ⟨fun _ e => (by cases e), fun _ => ?_, ?_⟩
  · show (if s.ins = true then (if s.br = true then modL (fun w => w ++ [[l]]) s.ws else modL (modL fun b => b ++ [l]) s.ws) else s.ws ++ [[[l]]]) ≠ []
    split
    · rename_i hi
      obtain ⟨wr, w, e⟩ := snoc_ex (h.b hi)
      rw [e, modL_snoc, modL_snoc]
      split <;> simp
    · simp
  · show ∀ w ∈ (if s.ins = true then (if s.br = true then modL (fun w => w ++ [[l]]) s.ws else modL (modL fun b => b ++ [l]) s.ws) else s.ws ++ [[[l]]]), w ≠ [] ∧ ∀ x ∈ w, x ≠ []
    split
    · rename_i hi
      obtain ⟨wr, w, e⟩ := snoc_ex (h.b hi)
      have hc := h.c
      rw [e] at hc ⊢
      rw [modL_snoc, modL_snoc]
      have hw := hc w (List.mem_append_right _ (List.mem_singleton.mpr rfl))
      split
      · intro v hv
        rcases List.mem_append.mp hv with m | m
        · exact hc v (List.mem_append_left _ m)
        · rw [List.mem_singleton.mp m]
          refine ⟨by simp, fun x hx => ?_⟩
          rcases List.mem_append.mp hx with m | m
          · exact hw.2 x m
          · rw [List.mem_singleton.mp m]; simp
      · intro v hv
        rcases List.mem_append.mp hv with m | m
        · exact hc v (List.mem_append_left _ m)
        · rw [List.mem_singleton.mp m]
          obtain ⟨br, b, eb⟩ := snoc_ex hw.1
          have hw2 := hw.2
          rw [eb] at hw2 ⊢
          rw [modL_snoc]
          refine ⟨by simp, fun x hx => ?_⟩
          rcases List.mem_append.mp hx with m | m
          · exact hw2 x (List.mem_append_left _ m)
          · rw [List.mem_singleton.mp m]; simp
    · intro v hv
      rcases List.mem_append.mp hv with m | m
      · exact h.c v m
      · rw [List.mem_singleton.mp m]
        exact ⟨by simp, fun x hx => by rw [List.mem_singleton.mp hx]; simp⟩
theorem WIn.stepW {s : Wst} (h : WIn s) (z : Int) (f : Str) (p c : Nat) : WIn (K45.stepW z f p s c) := by
  unfold K45.stepW
  split
  · refine ⟨fun hw _ => ?_, (fun e => by cases e), h.c⟩
    show (if s.ins = true then some (z, f) else s.spc) ≠ none
    split
    · simp
    · rename_i hi
      exact h.a hw (by simpa using hi)
  · split
    · exact ⟨h.a, h.b, h.c⟩
    · exact h.step _
theorem WIn.zero : WIn W0 := ⟨fun h => (h rfl).elim, (fun h => by cases h), fun w h => by cases h⟩
/-! ### lists of lists at addresses -/
inductive RowsAt (H : Hp) : List Addr → List (List Dt) → Prop
  | nil : RowsAt H [] []
  | cons {a : Addr} {as : List Addr} {vs : List V} {ds : List Dt} {xs : List (List Dt)} (h : H a = some (.lst vs)) (t : Trs H vs ds) (r : RowsAt H as xs) : RowsAt H (a :: as) (ds :: xs)
theorem RowsAt.keep {M : List Addr} {H H' : Hp} (f : Fr M H H') : ∀ {as : List Addr} {xs : List (List Dt)}, RowsAt H as xs → (∀ a ∈ as, a ∉ M) → RowsAt H' as xs
  | _, _, .nil, _ => .nil
  | _, _, .cons h t r, n => .cons (f.k _ _ h (n _ List.mem_cons_self)) (t.mono f.t) (r.keep f fun a ha => n a (List.mem_cons_of_mem _ ha))
theorem RowsAt.k0 {H H' : Hp} (f : Fr [] H H') {as : List Addr} {xs : List (List Dt)} (r : RowsAt H as xs) : RowsAt H' as xs := r.keep f fun _ _ => by simp
theorem RowsAt.app {H : Hp} : ∀ {as bs : List Addr} {xs ys : List (List Dt)}, RowsAt H as xs → RowsAt H bs ys → RowsAt H (as ++ bs) (xs ++ ys)
  | _, _, _, _, .nil, r => r
  | _, _, _, _, .cons h t r, q => .cons h t (r.app q)
theorem RowsAt.len {H : Hp} : ∀ {as : List Addr} {xs : List (List Dt)}, RowsAt H as xs → as.length = xs.length
  | _, _, .nil => rfl
  | _, _, .cons _ _ r => congrArg (· + 1) r.len
theorem RowsAt.get {H : Hp} : ∀ {as : List Addr} {xs : List (List Dt)} {i : Nat} {ds : List Dt}, RowsAt H as xs → xs[i]? = some ds → ∃ a vs, as[i]? = some a ∧ H a = some (.lst vs) ∧ Trs H vs ds
  | _, _, _, _, .nil, e => by simp at e
  | _, _, 0, _, .cons (a := a) (vs := vs) h t r, e => by
    simp at e
    subst e
    exact ⟨a, vs, rfl, h, t⟩
  | _, _, i + 1, _, .cons h t r, e => by
    obtain ⟨a, vs, h1, h2⟩ := r.get (i := i) (by simpa using e)
    exact ⟨a, vs, by simpa using h1, h2⟩
theorem RowsAt.ex {H : Hp} : ∀ {as : List Addr} {xs : List (List Dt)}, RowsAt H as xs → ∀ a ∈ as, ∃ vs, H a = some (.lst vs)
  | _, _, .nil, _, m => by cases m
  | _, _, .cons h t r, a, m => by
    rcases List.mem_cons.mp m with rfl | m
    · exact ⟨_, h⟩
    · exact r.ex a m
theorem RowsAt.snoc_inv {H : Hp} : ∀ {xs : List (List Dt)} {as : List Addr} {ds : List Dt}, RowsAt H as (xs ++ [ds]) → ∃ bs b vs, as = bs ++ [b] ∧ RowsAt H bs xs ∧ H b = some (.lst vs) ∧ Trs H vs ds
  | [], _, _, .cons (a := a) (vs := vs) h t r => by
    cases r
    exact ⟨[], a, vs, rfl, .nil, h, t⟩
  | x :: xs, _, _, .cons (a := a) h t r => by
    obtain ⟨bs, b, vs, e, h1, h2, h3⟩ := RowsAt.snoc_inv (xs := xs) r
    exact ⟨a :: bs, b, vs, by rw [e] <;> rfl, .cons h t h1, h2, h3⟩
abbrev Lay : Type := List (Addr × List Addr)
inductive WordsAt (H : Hp) : Lay → List (List (List Ce)) → Prop
  | nil : WordsAt H [] []
  | cons {a : Addr} {bs : List Addr} {L : Lay} {w : List (List Ce)} {ws : List (List (List Ce))} (h : H a = some (.lst (bs.map V.ref))) (r : RowsAt H bs (w.map (List.map ceD))) (q : WordsAt H L ws) : WordsAt H ((a, bs) :: L) (w :: ws)
def foot (L : Lay) : List Addr := L.flatMap fun x => x.1 :: x.2
def heads (L : Lay) : List V := L.map fun x => V.ref x.1
theorem foot_app (L L' : Lay) : foot (L ++ L') = foot L ++ foot L' := List.flatMap_append
theorem heads_app (L L' : Lay) : heads (L ++ L') = heads L ++ heads L' := List.map_append
theorem WordsAt.keep {M : List Addr} {H H' : Hp} (f : Fr M H H') : ∀ {L : Lay} {ws : List (List (List Ce))}, WordsAt H L ws → (∀ a ∈ foot L, a ∉ M) → WordsAt H' L ws
  | _, _, .nil, _ => .nil
  | _, _, .cons h r q, n => .cons (f.k _ _ h (n _ (by simp [foot]))) (r.keep f fun a ha => n a (by simp [foot, ha])) (q.keep f fun a ha => n a (by simp only [foot, List.flatMap_cons, List.mem_append] at ha ⊢; exact .inr ha))
theorem WordsAt.k0 {H H' : Hp} (f : Fr [] H H') {L : Lay} {ws : List (List (List Ce))} (r : WordsAt H L ws) : WordsAt H' L ws := r.keep f fun _ _ => by simp
theorem WordsAt.app {H : Hp} : ∀ {L L' : Lay} {ws ws' : List (List (List Ce))}, WordsAt H L ws → WordsAt H L' ws' → WordsAt H (L ++ L') (ws ++ ws')
  | _, _, _, _, .nil, r => r
  | _, _, _, _, .cons h t r, q => .cons h t (r.app q)
theorem WordsAt.len {H : Hp} : ∀ {L : Lay} {ws : List (List (List Ce))}, WordsAt H L ws → L.length = ws.length
  | _, _, .nil => rfl
  | _, _, .cons _ _ r => congrArg (· + 1) r.len
theorem WordsAt.ex {H : Hp} : ∀ {L : Lay} {ws : List (List (List Ce))}, WordsAt H L ws → ∀ a ∈ foot L, ∃ vs, H a = some (.lst vs)
  | _, _, .nil, _, m => by cases m
  | _, _, .cons h t r, a, m => by
    simp only [foot, List.flatMap_cons, List.mem_append, List.mem_cons] at m
    rcases m with (rfl | m) | m
    · exact ⟨_, h⟩
    · exact t.ex a m
    · exact r.ex a m
theorem WordsAt.snoc_inv {H : Hp} : ∀ {ws : List (List (List Ce))} {L : Lay} {w : List (List Ce)}, WordsAt H L (ws ++ [w]) → ∃ L' a bs, L = L' ++ [(a, bs)] ∧ WordsAt H L' ws ∧ H a = some (.lst (bs.map V.ref)) ∧ RowsAt H bs (w.map (List.map ceD))
  | [], _, _, .cons (a := a) (bs := bs) h t r => by
    cases r
    exact ⟨[], a, bs, rfl, .nil, h, t⟩
  | x :: xs, _, _, .cons (a := a) (bs := cs) h t r => by
    obtain ⟨L', b, bs, e, h1, h2, h3⟩ := WordsAt.snoc_inv (ws := xs) r
    exact ⟨(a, cs) :: L', b, bs, by rw [e] <;> rfl, .cons h t h1, h2, h3⟩
theorem WordsAt.get {H : Hp} : ∀ {L : Lay} {ws : List (List (List Ce))} {i : Nat} {w : List (List Ce)}, WordsAt H L ws → ws[i]? = some w → ∃ a bs, (heads L)[i]? = some (V.ref a) ∧ H a = some (.lst (bs.map V.ref)) ∧ RowsAt H bs (w.map (List.map ceD))
  | _, _, _, _, .nil, e => by simp at e
  | _, _, 0, _, .cons (a := a) (bs := bs) h t r, e => by
    simp at e
    subst e
    exact ⟨a, bs, rfl, h, t⟩
  | _, _, i + 1, _, .cons h t r, e => by
    obtain ⟨a, bs, h1, h2⟩ := r.get (i := i) (by simpa using e)
    exact ⟨a, bs, by simpa [heads] using h1, h2⟩
/-- the words' list, the spaces' list -/
structure WoA (wa sa : Addr) (H0 H : Hp) (L : Lay) (ss : List V) (s : Wst) : Prop where
  hw : H wa = some (.lst (heads L))
  at_ : WordsAt H L s.ws
  nd : (wa :: sa :: foot L).Nodup
  hs : H sa = some (.lst ss)
  ht : Trs H ss (s.sp.map spD)
  new : ∀ a ∈ wa :: sa :: foot L, H0 a = none
  fr : Fr [] H0 H
theorem WoA.k0 {wa sa : Addr} {H0 H H' : Hp} {L : Lay} {ss : List V} {s : Wst} (I : WoA wa sa H0 H L ss s) (f : Fr [] H H') : WoA wa sa H0 H' L ss s :=
  ⟨f.k0 I.hw, I.at_.k0 f, I.nd, f.k0 I.hs, I.ht.mono f.t, I.new, I.fr.t0 f⟩
/-- only words and spaces matter -/
theorem WoA.eq {wa sa : Addr} {H0 H : Hp} {L : Lay} {ss : List V} {s s' : Wst} (I : WoA wa sa H0 H L ss s) (h1 : s'.ws = s.ws) (h2 : s'.sp = s.sp) : WoA wa sa H0 H L ss s' :=
  ⟨I.hw, h1 ▸ I.at_, I.nd, I.hs, h2 ▸ I.ht, I.new, I.fr⟩
theorem foot_sub {L : Lay} {a : Addr} {bs : List Addr} {x : Addr} (h : x ∈ foot L) : x ∈ foot (L ++ [(a, bs)]) := by rw [foot_app]; exact List.mem_append_left _ h
/-- a letter more in the last box -/
theorem WoA.letter {wa sa : Addr} {H0 H : Hp} {L : Lay} {ss : List V} {s : Wst} (I : WoA wa sa H0 H L ss s) {wr : List (List (List Ce))} {br : List (List Ce)} {b : List Ce} (e : s.ws = wr ++ [br ++ [b]]) {v : V} {l : Ce} (hv : Tr H v (ceD l)) :
    ∃ (hs : List V) (a c : Addr) (bs : List Addr) (vs : List V), heads L = hs ++ [V.ref a] ∧ H a = some (.lst (bs.map V.ref ++ [V.ref c])) ∧ H c = some (.lst vs) ∧ vs.length = b.length ∧
      ∀ s' : Wst, s'.ws = wr ++ [br ++ [b ++ [l]]] → s'.sp = s.sp → WoA wa sa H0 (upd H c (.lst (vs ++ [v]))) L ss s' := by
  have h1 := I.at_
  rw [e] at h1
  obtain ⟨L', a, bs, rfl, h2, h3, h4⟩ := h1.snoc_inv
  rw [List.map_append] at h4
  obtain ⟨cs, c, vs, rfl, h5, h6, h7⟩ := RowsAt.snoc_inv (xs := br.map (List.map ceD)) (ds := b.map ceD) h4
  refine ⟨heads L', a, c, cs, vs, heads_app _ _, by rw [h3, List.map_append] <;> rfl, h6, by rw [h7.length, List.length_map], fun s' e1 e2 => ?_⟩
  have f := Fr.put (o := .lst (vs ++ [v])) h6
  have nd := I.nd
  have ef : foot (L' ++ [(a, cs ++ [c])]) = foot L' ++ (a :: (cs ++ [c])) := by rw [foot_app]; simp [foot]
  rw [ef] at nd
  have hc1 : c ∉ wa :: sa :: (foot L' ++ (a :: cs)) := by
    have e3 : wa :: sa :: (foot L' ++ (a :: (cs ++ [c]))) = (wa :: sa :: (foot L' ++ (a :: cs))) ++ [c] := by simp
    rw [e3, List.nodup_append] at nd
    exact fun m => nd.2.2 c m c (List.mem_singleton.mpr rfl) rfl
  simp only [List.mem_cons, List.mem_append, not_or] at hc1
  obtain ⟨n1, n2, n3, n4, n5⟩ := hc1
  refine ⟨f.k1 I.hw (Ne.symm n1), ?_, I.nd, f.k1 I.hs (Ne.symm n2), by rw [e2]; exact I.ht.mono f.t, I.new, I.fr.t1 f (.inr (I.new c (by rw [ef]; simp)))⟩
  rw [e1]
  refine (h2.keep f fun x hx => by simp only [List.mem_singleton]; exact fun z => n3 (z ▸ hx)).app (.cons (f.k1 h3 (Ne.symm n4)) ?_ .nil)
  rw [List.map_append]
  refine (h5.keep f fun x hx => by simp only [List.mem_singleton]; exact fun z => n5 (z ▸ hx)).app (.cons upd_same ?_ .nil)
  rw [List.map_append]
  exact (h7.mono f.t).snoc (hv.mono f.t)
/-- a box more in the last word -/
theorem WoA.box {wa sa : Addr} {H0 H : Hp} {L : Lay} {ss : List V} {s : Wst} (I : WoA wa sa H0 H L ss s) {wr : List (List (List Ce))} {w : List (List Ce)} (e : s.ws = wr ++ [w]) {v : V} {l : Ce} (hv : Tr H v (ceD l)) :
    ∃ (hs : List V) (a : Addr) (bs : List Addr), heads L = hs ++ [V.ref a] ∧ H a = some (.lst (bs.map V.ref)) ∧ bs.length = w.length ∧
      ∀ (s' : Wst) (q : Addr), s'.ws = wr ++ [w ++ [[l]]] → s'.sp = s.sp → H q = none → ∃ L', WoA wa sa H0 (upd (upd H q (.lst [v])) a (.lst (bs.map V.ref ++ [.ref q]))) L' ss s' := by
  have h1 := I.at_
  rw [e] at h1
  obtain ⟨L', a, bs, rfl, h2, h3, h4⟩ := h1.snoc_inv
  refine ⟨heads L', a, bs, heads_app _ _, h3, by rw [h4.len, List.length_map], fun s' q e1 e2 n_q => ?_⟩
  have f1 : ∀ {M : List Addr}, Fr M H (upd H q (.lst [v])) := Fr.new n_q
  have h3' := (f1 (M := [])).k0 h3
  have f := Fr.put (o := .lst (bs.map V.ref ++ [.ref q])) h3'
  have nd := I.nd
  have ef : foot (L' ++ [(a, bs)]) = foot L' ++ (a :: bs) := by rw [foot_app]; simp [foot]
  have ef2 : foot (L' ++ [(a, bs ++ [q])]) = (foot L' ++ (a :: bs)) ++ [q] := by rw [foot_app]; simp [foot]
  have hq : ∀ x ∈ wa :: sa :: foot (L' ++ [(a, bs)]), x ≠ q := fun x hx => by
    rcases List.mem_cons.mp hx with rfl | hx
    · exact ne_of_none I.hw n_q
    · rcases List.mem_cons.mp hx with rfl | hx
      · exact ne_of_none I.hs n_q
      · obtain ⟨vs, h⟩ := I.at_.ex x hx
        exact ne_of_none h n_q
  rw [ef] at nd hq
  have nd2 := nd
  have e3 : wa :: sa :: (foot L' ++ (a :: bs)) = (wa :: sa :: foot L') ++ (a :: bs) := by simp
  rw [e3, List.nodup_append] at nd2
  have na : ∀ x ∈ wa :: sa :: foot L', x ≠ a := fun x hx => nd2.2.2 x hx a List.mem_cons_self
  have nb : ∀ x ∈ bs, x ≠ a := fun x hx z => (List.nodup_cons.mp nd2.2.1).1 (z ▸ hx)
  have q0 := I.fr.d _ n_q
  refine ⟨L' ++ [(a, bs ++ [q])], ?_, ?_, ?_, f.k1 ((f1 (M := [])).k0 I.hs) (na sa (by simp)), by rw [e2]; exact (I.ht.mono (f1 (M := [])).t).mono f.t, fun x hx => ?_, (I.fr.t0 f1).t1 f (.inr (I.new a (by rw [ef]; simp)))⟩
  · rw [f.k1 ((f1 (M := [])).k0 I.hw) (na wa (by simp)), heads_app, heads_app] <;> rfl
  · rw [e1]
    refine ((h2.k0 f1).keep f fun x hx => by simp only [List.mem_singleton]; exact na x (by simp [hx])).app (.cons (by rw [upd_same, List.map_append] <;> rfl) ?_ .nil)
    rw [List.map_append]
    refine ((h4.k0 f1).keep f fun x hx => by simp only [List.mem_singleton]; exact nb x hx).app (.cons (f.k1 upd_same ?_) ?_ .nil)
    · exact (ne_of_none h3 n_q).symm
    · exact .cons ((hv.mono (f1 (M := [])).t).mono f.t) .nil
  · rw [ef2]
    have e4 : wa :: sa :: (foot L' ++ a :: bs ++ [q]) = (wa :: sa :: (foot L' ++ (a :: bs))) ++ [q] := by simp
    rw [e4, List.nodup_append]
    exact ⟨nd, by simp, fun x hx y hy => by rw [List.mem_singleton.mp hy]; exact hq x hx⟩
  · rw [ef2] at hx
    have hx2 : x ∈ (wa :: sa :: (foot L' ++ (a :: bs))) ++ [q] := by simpa using hx
    rcases List.mem_append.mp hx2 with m | m
    · exact I.new x (by rw [ef]; exact m)
    · rw [List.mem_singleton.mp m]; exact q0
/-- a word more -/
theorem WoA.word {wa sa : Addr} {H0 H : Hp} {L : Lay} {ss : List V} {s : Wst} (I : WoA wa sa H0 H L ss s) {v : V} {l : Ce} (hv : Tr H v (ceD l)) {q r : Addr} (n_q : H q = none) (n_r : upd H q (.lst [v]) r = none) (s' : Wst) (e1 : s'.ws = s.ws ++ [[[l]]]) (e2 : s'.sp = s.sp) :
    ∃ L', WoA wa sa H0 (upd (upd (upd H q (.lst [v])) r (.lst [.ref q])) wa (.lst (heads L ++ [.ref r]))) L' ss s' := by
  have f1 : ∀ {M : List Addr}, Fr M H (upd H q (.lst [v])) := Fr.new n_q
  have f2 : ∀ {M : List Addr}, Fr M (upd H q (.lst [v])) (upd (upd H q (.lst [v])) r (.lst [.ref q])) := Fr.new n_r
  have rq : q ≠ r := fun z => by rw [← z, upd_same] at n_r; cases n_r
  have hr0 := (f1 (M := [])).d _ n_r
  have hw := (f2 (M := [])).k0 ((f1 (M := [])).k0 I.hw)
  have f := Fr.put (o := .lst (heads L ++ [.ref r])) hw
  have hq : ∀ x ∈ wa :: sa :: foot L, x ≠ q ∧ x ≠ r := fun x hx => by
    rcases List.mem_cons.mp hx with rfl | hx
    · exact ⟨ne_of_none I.hw n_q, ne_of_none I.hw hr0⟩
    · rcases List.mem_cons.mp hx with rfl | hx
      · exact ⟨ne_of_none I.hs n_q, ne_of_none I.hs hr0⟩
      · obtain ⟨vs, h⟩ := I.at_.ex x hx
        exact ⟨ne_of_none h n_q, ne_of_none h hr0⟩
  have nd := I.nd
  have ef2 : foot (L ++ [(r, [q])]) = foot L ++ [r, q] := by rw [foot_app]; simp [foot]
  have nw : ∀ x ∈ sa :: foot L, x ≠ wa := fun x hx z => (List.nodup_cons.mp nd).1 (z ▸ hx)
  refine ⟨L ++ [(r, [q])], by rw [upd_same, heads_app] <;> rfl, ?_, ?_, f.k1 ((f2 (M := [])).k0 ((f1 (M := [])).k0 I.hs)) (nw sa (by simp)), by rw [e2]; exact ((I.ht.mono (f1 (M := [])).t).mono (f2 (M := [])).t).mono f.t, fun x hx => ?_, ((I.fr.t0 f1).t0 f2).t1 f (.inr (I.new wa (by simp)))⟩
  · rw [e1]
    refine (((I.at_.k0 f1).k0 f2).keep f fun x hx => by simp only [List.mem_singleton]; exact nw x (by simp [hx])).app (.cons (f.k1 upd_same (ne_of_none I.hw hr0).symm) (.cons (f.k1 ((f2 (M := [])).k0 upd_same) (ne_of_none I.hw n_q).symm) (.cons (((hv.mono (f1 (M := [])).t).mono (f2 (M := [])).t).mono f.t) .nil) .nil) .nil)
  · rw [ef2]
    have e4 : wa :: sa :: (foot L ++ [r, q]) = (wa :: sa :: foot L) ++ [r, q] := by simp
    rw [e4, List.nodup_append]
    refine ⟨nd, by simp [rq.symm], fun x hx y hy => ?_⟩
    rcases List.mem_cons.mp hy with rfl | hy
    · exact (hq x hx).2
    · rw [List.mem_singleton.mp hy]; exact (hq x hx).1
  · rw [ef2] at hx
    have hx2 : x ∈ (wa :: sa :: foot L) ++ [r, q] := by simpa using hx
    rcases List.mem_append.mp hx2 with m | m
    · exact I.new x m
    · rcases List.mem_cons.mp m with rfl | m
      · exact I.fr.d _ hr0
      · rw [List.mem_singleton.mp m]; exact I.fr.d _ n_q
/-- a space more -/
theorem WoA.space {wa sa : Addr} {H0 H : Hp} {L : Lay} {ss : List V} {s : Wst} (I : WoA wa sa H0 H L ss s) {v : V} {x : Sps} (hv : Tr H v (spD x)) (s' : Wst) (e1 : s'.ws = s.ws) (e2 : s'.sp = s.sp ++ [x]) : WoA wa sa H0 (upd H sa (.lst (ss ++ [v]))) L (ss ++ [v]) s' := by
  have f := Fr.put (o := .lst (ss ++ [v])) I.hs
  have nd := I.nd
  have n1 : wa ≠ sa := fun z => (List.nodup_cons.mp nd).1 (by rw [z]; simp)
  have n2 : ∀ x ∈ foot L, x ≠ sa := fun x hx z => (List.nodup_cons.mp (List.nodup_cons.mp nd).2).1 (z ▸ hx)
  refine ⟨f.k1 I.hw n1, by rw [e1]; exact I.at_.keep f fun x hx => by simp only [List.mem_singleton]; exact n2 x hx, nd, upd_same, ?_, I.new, I.fr.t1 f (.inr (I.new sa (by simp)))⟩
  rw [e2, List.map_append]
  exact (I.ht.mono f.t).snoc (hv.mono f.t)
/-- all is short -/
def Short (n : Nat) (s : Wst) : Prop := s.ws.length ≤ n ∧ s.sp.length ≤ n ∧ ∀ w ∈ s.ws, w.length ≤ n ∧ ∀ b ∈ w, b.length ≤ n
def spWords : Sp := fun vs H Q _ => ∃ (v : V) (rs : List RR), vs = [v] ∧ Tr H v (.tup (rs.map rrD)) ∧ rs.length ≤ 100 ∧ (∀ r ∈ rs, RRok r) ∧
  ∀ (t wa sa : Addr) (L : Lay) (ss : List V) (H' : Hp), H' t = some (.tup [.ref wa, .ref sa]) → H' wa = some (.lst (heads L)) → WordsAt H' L (wordsF rs).ws → H' sa = some (.lst ss) → Trs H' ss ((wordsF rs).sp.map spD) → Short 10000 (wordsF rs) → WIn (wordsF rs) → Fr [] H H' → Q (.ref t) H'

end K45

set_option maxHeartbeats 4000000
namespace K45
open PySem PySem.Spec PyProof.Rows L2
section
variable {P : Program} {w : World} {K : PySem.W.Frag} {mg : Str → Option Value} {base : Heap}
theorem e32 : Str.ofString " " = ch 32 := by decide +kernel
theorem e124 : Str.ofString "|" = ch 124 := by decide +kernel
theorem Short.le {n m : Nat} {s : Wst} (h : Short n s) (e : n ≤ m) : Short m s := ⟨Nat.le_trans h.1 e, Nat.le_trans h.2.1 e, fun w hw => ⟨Nat.le_trans (h.2.2 w hw).1 e, fun b hb => Nat.le_trans ((h.2.2 w hw).2 b hb) e⟩⟩
theorem Short.stepL {n : Nat} {s : Wst} (h : Short n s) (hi : WIn s) (l : Ce) : Short (n + 1) (stepL l s) := by
  obtain ⟨h1, h2, h3⟩ := h
  refine ⟨?_, ?_, ?_⟩
  · show (if s.ins = true then (if s.br = true then modL (fun w => w ++ [[l]]) s.ws else modL (modL fun b => b ++ [l]) s.ws) else s.ws ++ [[[l]]]).length ≤ n + 1
    split
    · rename_i hs
      obtain ⟨wr, w, e⟩ := snoc_ex (hi.b hs)
      rw [e] at h1 ⊢
      rw [modL_snoc, modL_snoc]
      rw [List.length_append] at h1
      split <;> (rw [List.length_append]; exact Nat.le_succ_of_le h1)
    · rw [List.length_append]; exact Nat.succ_le_succ h1
  · show (if s.ins = false ∧ s.ws ≠ [] then s.sp ++ [s.spc.getD (0, "")] else s.sp).length ≤ n + 1
    split
    · rw [List.length_append]; exact Nat.succ_le_succ h2
    · exact Nat.le_succ_of_le h2
  · show ∀ w ∈ (if s.ins = true then (if s.br = true then modL (fun w => w ++ [[l]]) s.ws else modL (modL fun b => b ++ [l]) s.ws) else s.ws ++ [[[l]]]), w.length ≤ n + 1 ∧ ∀ b ∈ w, b.length ≤ n + 1
    have up : ∀ w ∈ s.ws, w.length ≤ n + 1 ∧ ∀ b ∈ w, b.length ≤ n + 1 := fun w hw => ⟨Nat.le_succ_of_le (h3 w hw).1, fun b hb => Nat.le_succ_of_le ((h3 w hw).2 b hb)⟩
    split
    · rename_i hs
      obtain ⟨wr, w, e⟩ := snoc_ex (hi.b hs)
      rw [e] at h3 up ⊢
      have hw := h3 w (List.mem_append_right _ (List.mem_singleton.mpr rfl))
      have hc := hi.c w (by rw [e]; exact List.mem_append_right _ (List.mem_singleton.mpr rfl))
      rw [modL_snoc, modL_snoc]
      split
      · intro v hv
        rcases List.mem_append.mp hv with m | m
        · exact up v (List.mem_append_left _ m)
        · rw [List.mem_singleton.mp m]
          refine ⟨by rw [List.length_append]; exact Nat.succ_le_succ hw.1, fun x hx => ?_⟩
          rcases List.mem_append.mp hx with m | m
          · exact Nat.le_succ_of_le (hw.2 x m)
          · rw [List.mem_singleton.mp m]; exact Nat.succ_le_succ (Nat.zero_le _)
      · intro v hv
        rcases List.mem_append.mp hv with m | m
        · exact up v (List.mem_append_left _ m)
        · rw [List.mem_singleton.mp m]
          obtain ⟨br, b, eb⟩ := snoc_ex hc.1
          rw [eb] at hw ⊢
          rw [modL_snoc]
          refine ⟨by rw [List.length_append]; have := hw.1; rw [List.length_append] at this; exact Nat.le_succ_of_le this, fun x hx => ?_⟩
          rcases List.mem_append.mp hx with m | m
          · exact Nat.le_succ_of_le (hw.2 x (List.mem_append_left _ m))
          · rw [List.mem_singleton.mp m, List.length_append]
            exact Nat.succ_le_succ (hw.2 b (List.mem_append_right _ (List.mem_singleton.mpr rfl)))
    · intro v hv
      rcases List.mem_append.mp hv with m | m
      · exact up v m
      · rw [List.mem_singleton.mp m]
        refine ⟨Nat.succ_le_succ (Nat.zero_le _), fun b hb => ?_⟩
        rw [List.mem_singleton.mp hb]; exact Nat.succ_le_succ (Nat.zero_le _)
theorem Short.stepW {n : Nat} {s : Wst} (h : Short n s) (hi : WIn s) (z : Int) (f : Str) (p c : Nat) : Short (n + 1) (K45.stepW z f p s c) := by
  unfold K45.stepW
  split
  · exact Short.le (s := ⟨s.ws, s.sp, _, _, _⟩) h (Nat.le_succ _)
  · split
    · exact Short.le (s := ⟨s.ws, s.sp, _, _, _⟩) h (Nat.le_succ _)
    · exact h.stepL hi _
def SpcAt (H : Hp) (v : V) : Option Sps → Prop
  | none => v = .non
  | some x => Tr H v (spD x)
theorem SpcAt.mono {H H' : Hp} (k : KeepT H H') {v : V} {o : Option Sps} (h : SpcAt H v o) : SpcAt H' v o := by
  cases o with
  | none => exact h
  | some x => exact Tr.mono k h
theorem rr_cells {r : RR} (h : RRok r) : (∃ n, r = .mark n) ∨ ∃ (t : List Nat) (z : Int) (f : Str), t.length ≤ 100 ∧ (∀ p s, stepR p s r = t.foldl (stepW z f p) s) ∧ ((r = .text t z f) ∨ ∃ k, r = .shown k t z f) := by
  cases r with
  | mark n => exact .inl ⟨n, rfl⟩
  | text t z f => exact .inr ⟨t, z, f, h.1, fun _ _ => rfl, .inl rfl⟩
  | shown k t z f => exact .inr ⟨t, z, f, h.1, fun _ _ => rfl, .inr ⟨k, rfl⟩⟩
abbrev s_words : Stmt := top 2
abbrev N_words : List Str := ["resolved", "words", "spaces", "inside", "broken", "space", "place", "run", "char", "text", "size", "face", "letter"]
theorem sc_words : FnScope ["resolved", "words", "spaces", "inside", "broken", "space", "place", "run", "char", "text", "size", "face", "letter"] ["resolved"] (defScope s_words) := ⟨rfl, rfl, rfl, by decide +kernel, rfl, by decide +kernel, by decide +kernel⟩
theorem c_words (F : Df K mg "words_of" s_words) (G : Gn mg)   : C8.Cal P w K mg base 1 "words_of" spWords [] := by
  refine cal_by F sc_words (fun _ _ _ _ _ _ us hl => match us, hl with | [_], _ => rfl) (fun vs H Q E h => ?_) (fun f cdv A outer s H vs Q E hr h => ?_)
  · obtain ⟨v, rs, rfl, _⟩ := h
    rfl
  · obtain ⟨v, rs, rfl, hv, hrl, hok, k⟩ := h
    have sc := sc_words
    refine ⟨_, (pss_cons (ps_set (i := 1) sc.nd rfl (Or.inl rfl) (pe_lst pa_nil))
      (pss_cons (ps_set (i := 2) sc.nd rfl (Or.inl rfl) (pe_lst pa_nil))
      (pss_cons (ps_set (i := 3) sc.nd rfl (Or.inl rfl) pe_bl)
      (pss_cons (ps_set (i := 4) sc.nd rfl (Or.inl rfl) pe_bl)
      (pss_cons (ps_set (i := 5) sc.nd rfl (Or.inl rfl) pe_non)
      (pss_cons (ps_for PassesOwn.never rfl (pi_enumT rfl G.n_enumerate (pa_cons (pv 0) pa_nil)) (pg_tup rfl (pgs_cons (pg_name (i := 6) sc.nd rfl (Or.inl rfl)) (pgs_cons (pg_name (i := 7) sc.nd rfl (Or.inl rfl)) pgs_nil)))
        (pss_cons (ps_if (pt_cmpR op_eq (pe_ix ix_tup (pv 7) pe_int (fun _ _ => rfl)) pe_str (nomark _))
          (pss_one ps_continue)
          pss_nil)
        (pss_cons (ps_asg (pe_slice sl_tup (pv 7) (po_some (pe_un un_neg pe_int)) po_none) (pg_tup rfl (pgs_cons (pg_name (i := 9) sc.nd rfl (Or.inl rfl)) (pgs_cons (pg_name (i := 10) sc.nd rfl (Or.inl rfl)) (pgs_cons (pg_name (i := 11) sc.nd rfl (Or.inl rfl)) pgs_nil)))))
        (pss_one (ps_for PassesOwn.never rfl (pi_str (pv 9)) (pg_name (i := 8) sc.nd rfl (Or.inl rfl))
          (pss_one (ps_if (pt_cmpR op_eq (pv 8) pe_str (nomark _))
            (C8.pss_cut (ps_if (pt_val (pv 3))
              (pss_one (ps_set (i := 5) sc.nd rfl (Or.inl rfl) (pe_tup (pa_cons (pv 10) (pa_cons (pv 11) pa_nil)))))
              pss_nil)
            (pss_cons (ps_set (i := 3) sc.nd rfl (Or.inl rfl) pe_bl)
            (pss_one (ps_set (i := 4) sc.nd rfl (Or.inl rfl) pe_bl))))
            (pss_one (ps_if (pt_cmpR op_eq (pv 8) pe_str (nomark _))
              (pss_one (ps_set (i := 4) sc.nd rfl (Or.inl rfl) (pv 3)))
              (pss_cons (ps_set (i := 12) sc.nd rfl (Or.inl rfl) (pe_tup (pa_cons (pv 8) (pa_cons (pv 10) (pa_cons (pv 11) (pa_cons (pv 6) pa_nil))))))
              (C8.pss_cut (ps_if (PW.pt (pw_and (pt_not (pt_val (pv 3))) (pw_and1 (pt_truth (pv 1) (by intro _; rfl)))))
                (pss_one (ps_expr (pe_bm PySem.F.plainAttrs_list PySem.F.slot_list_append PySem.F.type_list_append mt_append (pv 2) (pa_cons (pv 5) pa_nil))))
                pss_nil)
              (C8.pss_cut (ps_if (pt_not (pt_val (pv 3)))
                (pss_one (ps_expr (pe_bm PySem.F.plainAttrs_list PySem.F.slot_list_append PySem.F.type_list_append mt_append (pv 1) (pa_cons (pe_lst (pa_cons (pe_lst (pa_cons (pv 12) pa_nil)) pa_nil)) pa_nil))))
                (pss_one (ps_if (pt_val (pv 4))
                  (pss_one (ps_expr (pe_bm PySem.F.plainAttrs_list PySem.F.slot_list_append PySem.F.type_list_append mt_append (pe_ix ix_list (pv 1) (pe_un un_neg pe_int) (fun _ _ => rfl)) (pa_cons (pe_lst (pa_cons (pv 12) pa_nil)) pa_nil))))
                  (pss_one (ps_expr (pe_bm PySem.F.plainAttrs_list PySem.F.slot_list_append PySem.F.type_list_append mt_append (pe_ix ix_list (pe_ix ix_list (pv 1) (pe_un un_neg pe_int) (fun _ _ => rfl)) (pe_un un_neg pe_int) (fun _ _ => rfl)) (pa_cons (pv 12) pa_nil)))))))
              (pss_cons (ps_set (i := 3) sc.nd rfl (Or.inl rfl) pe_bl)
              (pss_one (ps_set (i := 4) sc.nd rfl (Or.inl rfl) pe_bl)))))))))))))))
      (pss_one (ps_ret (pe_tup (pa_cons (pv 1) (pa_cons (pv 2) pa_nil))))))))))), ?_⟩
    have hz := big
    obtain ⟨a, vs, rfl, ha, hvs⟩ := hv.inv
    have hvl : vs.length = rs.length := by rw [hvs.length, List.length_map]
    refine ⟨(by show 0 ≤ sizeLine; omega), fun wa n_wa => ?_⟩
    have wa0 := n_wa
    generalize eH_wa : upd H wa _ = H1
    have ev_wa : ∀ {M : List Addr}, Fr M H H1 := by intro M; rw [← eH_wa]; exact Fr.new n_wa
    have h_wa : H1 wa = some (.lst []) := by rw [← eH_wa]; exact upd_same
    clear eH_wa
    refine ⟨(by show 0 ≤ sizeLine; omega), fun sa n_sa => ?_⟩
    have wsa := ne_of_none h_wa n_sa
    have sa0 := (ev_wa (M := [])).d _ n_sa
    generalize eH_sa : upd H1 sa _ = H2
    have ev_sa : ∀ {M : List Addr}, Fr M H1 H2 := by intro M; rw [← eH_sa]; exact Fr.new n_sa
    have h_sa : H2 sa = some (.lst []) := by rw [← eH_sa]; exact upd_same
    clear eH_sa
    have h_wa := (ev_sa (M := [])).k0 h_wa
    have fr : Fr [] H H2 := (ev_wa (M := [])).t0 ev_sa
    have I : WoA wa sa H H2 [] [] W0 := ⟨h_wa, .nil, by simp [foot, wsa], h_sa, .nil, fun x hx => (by
      rcases List.mem_cons.mp hx with rfl | hx
      · exact wa0
      · rcases List.mem_cons.mp hx with rfl | hx
        · exact sa0
        · cases hx), fr⟩
    refine ⟨_, rfl, a, vs, rfl, SqT.of (fr.k0 ha), for_it (walk_enumT (xs := vs)) (fun i σ H' => ∃ (s : Wst) (L : Lay) (ss : List V) (pv : V) (v6 v7 v8 v9 v10 v11 v12 : Option V), σ = [some (.ref a), some (.ref wa), some (.ref sa), some (.bl s.ins), some (.bl s.br), some pv, v6, v7, v8, v9, v10, v11, v12] ∧
      s = (rs.take i).zipIdx.foldl (fun s x => stepR x.2 s x.1) W0 ∧ WoA wa sa H H' L ss s ∧ SpcAt H' pv s.spc ∧ WIn s ∧ Short (100 * i) s) ?_ ?_ ?_ ?_⟩
    · exact ⟨W0, [], [], .non, _, _, _, _, _, _, _, rfl, rfl, I, rfl, .zero, ⟨Nat.le_refl _, Nat.le_refl _, fun w hw => by cases hw⟩⟩
    · rintro i σ H' _ ⟨s, L, ss, pv, v6, v7, v8, v9, v10, v11, v12, rfl, es, I, hp, hi, hs⟩
      exact SqT.of (I.fr.k0 ha)
    · rintro i y σ H3 H4' hi ⟨s, L, ss, pv, v6, v7, v8, v9, v10, v11, v12, rfl, es, I, hp, hin, hs⟩ ⟨T, u, x, rfl, n_T, rfl, eu, hx⟩
      cases eu
      have hi2 : i < vs.length := hi
      generalize eH_T : upd H3 T _ = H4
      have ev_T : ∀ {M : List Addr}, Fr M H3 H4 := by intro M; rw [← eH_T]; exact Fr.new n_T
      have h_T : H4 T = some (.tup [.int (i : Nat), x]) := by rw [← eH_T]; exact upd_same
      clear eH_T
      have I := I.k0 ev_T
      have hp := hp.mono (ev_T (M := [])).t
      obtain ⟨dt, hdt, hxt⟩ := hvs.get' hx
      rw [List.getElem?_map] at hdt
      cases er : rs[i]? with
      | none => rw [er] at hdt; cases hdt
      | some r =>
        rw [er] at hdt
        cases hdt
        have hr := hok r (List.mem_of_getElem? er)
        have hil := (List.getElem?_eq_some_iff.mp er).1
        have hxt := hxt.mono I.fr.t
        have et : (rs.take (i + 1)).zipIdx.foldl (fun s x => stepR x.2 s x.1) W0 = stepR i s r := by
          rw [List.take_add_one, er]
          show (rs.take i ++ [r]).zipIdx.foldl _ _ = _
          rw [List.zipIdx_append, List.foldl_append, ← es, List.length_take, Nat.min_eq_left (by omega)]
          show stepR (0 + i) s r = _
          rw [Nat.zero_add]
        rcases rr_cells hr with ⟨m, rfl⟩ | ⟨t, z, f, htl, hst, hrr⟩
        · obtain ⟨b, rfl, hb⟩ := Tr.flat (hxt : Tr H4 x (.tup _)) rfl
          refine ⟨_, _, rfl, SqT.of (h_T), rfl, _, _, rfl, _, _, rfl, rfl, _, rfl, b, _, _, _, rfl, rfl, SqT.of hb, rfl, rfl, _, rfl, ite2 (fun hc => ?_) (fun hc => (hc (by decide +kernel)).elim)⟩
          exact ⟨s, L, ss, pv, _, _, _, _, _, _, _, rfl, et.symm, I, hp, hin, hs.le (by omega)⟩
        · -- a run with text
          have hrun : ∃ (b : Addr) (x0 : V) (xs : List V), x = .ref b ∧ H4 b = some (.tup (x0 :: xs)) ∧ decide (x0 = V.str "mark") = false ∧ scal x0 (V.str "mark") = true ∧ ¬ (HT.sIx (x0 :: xs).length 0 (some (-3)) = 0 ∧ HT.sIx (x0 :: xs).length (x0 :: xs).length none = (x0 :: xs).length) ∧ cutV (x0 :: xs) (some (-3)) none = [.str (SX.S t), .int z, .str f] := by
            rcases hrr with rfl | ⟨kk, rfl⟩
            · obtain ⟨b, rfl, hb⟩ := Tr.flat (hxt : Tr H4 x (.tup _)) rfl
              exact ⟨b, _, _, rfl, hb, by decide +kernel, rfl, (by show ¬ (HT.sIx 4 0 (some (-3)) = 0 ∧ HT.sIx 4 4 none = 4); decide), rfl⟩
            · obtain ⟨b, rfl, hb⟩ := Tr.flat (hxt : Tr H4 x (.tup _)) rfl
              exact ⟨b, _, _, rfl, hb, by decide +kernel, rfl, (by show ¬ (HT.sIx 5 0 (some (-3)) = 0 ∧ HT.sIx 5 5 none = 5); decide), rfl⟩
          obtain ⟨b, x0, xs, rfl, hb, hx0, hsc, hsl, hcut⟩ := hrun
          refine ⟨_, _, rfl, SqT.of (h_T), rfl, _, _, rfl, _, _, rfl, rfl, _, rfl, b, _, _, _, rfl, rfl, SqT.of hb, atI_nat (j := 0) rfl, hsc, _, rfl, ite2 (fun hc => ?_) (fun hc => ?_)⟩
          · rw [hx0] at hc
            exact absurd hc (by decide)
          refine ⟨_, rfl, _, rfl, _, rfl, b, _, rfl, SqT.of hb, hsl, fun q n_q => ?_⟩
          rw [hcut]
          generalize eH_q : upd H4 q _ = H5
          have ev_q : ∀ {M : List Addr}, Fr M H4 H5 := by intro M; rw [← eH_q]; exact Fr.new n_q
          have h_q : H5 q = some (.tup [.str (SX.S t), .int z, .str f]) := by rw [← eH_q]; exact upd_same
          clear eH_q
          have I := I.k0 ev_q
          have hp := hp.mono (ev_q (M := [])).t
          refine ⟨_, _, rfl, SqT.of (h_q), rfl, _, _, rfl, _, _, rfl, _, _, rfl, rfl, _, rfl, SX.S t, rfl, for_it (walk_sign (l := t)) (fun j σ H' => ∃ (s : Wst) (L : Lay) (ss : List V) (pv : V) (v8 v12 : Option V), σ = [some (.ref a), some (.ref wa), some (.ref sa), some (.bl s.ins), some (.bl s.br), some pv, some (.int (i : Nat)), some (.ref b), v8, some (.str (SX.S t)), some (.int z), some (.str f), v12] ∧
            s = (t.take j).foldl (stepW z f i) ((rs.take i).zipIdx.foldl (fun s x => stepR x.2 s x.1) W0) ∧ WoA wa sa H H' L ss s ∧ SpcAt H' pv s.spc ∧ WIn s ∧ Short (100 * i + j) s) ?_ (fun _ _ _ _ _ => trivial) ?_ ?_⟩
          · exact ⟨s, L, ss, pv, _, _, rfl, es, I, hp, hin, hs⟩
          · rintro j y σ H0' H6 hj ⟨s, L, ss, pv, v8, v12, rfl, es, I, hp, hin, hs⟩ ⟨rfl, c, hc, rfl⟩
            have hjl : j < t.length := hj
            have et : (t.take (j + 1)).foldl (stepW z f i) ((rs.take i).zipIdx.foldl (fun s x => stepR x.2 s x.1) W0) = stepW z f i s c := by
              rw [List.take_add_one, hc]
              show (t.take j ++ [c]).foldl _ _ = _
              rw [List.foldl_append, ← es] <;> rfl
            have hsh := hs.stepW hin z f i c
            have hwi := hin.stepW z f i c
            rw [et]
            clear et es
            refine ⟨_, rfl, rfl, _, rfl, ite2 (fun hq => ?_) (fun hq => ?_)⟩
            · have hc32 : c = 32 := by
                have h1 := of_decide_eq_true hq
                injection h1 with h1
                rw [e32] at h1
                exact ch_inj h1
              have es : stepW z f i s c = ⟨s.ws, s.sp, false, false, if s.ins = true then some (z, f) else s.spc⟩ := by unfold stepW; rw [if_pos hc32]
              rw [es] at hsh hwi ⊢
              refine ⟨fun σ' H' => ∃ pv : V, σ' = [some (.ref a), some (.ref wa), some (.ref sa), some (.bl s.ins), some (.bl s.br), some pv, some (.int (i : Nat)), some (.ref b), some (.str (ch c)), some (.str (SX.S t)), some (.int z), some (.str f), v12] ∧ WoA wa sa H H' L ss s ∧ SpcAt H' pv (if s.ins = true then some (z, f) else s.spc), ?_, ?_⟩
              · refine ⟨_, rfl, _, rfl, ite2 (fun hb2 => ?_) (fun hb2 => ?_)⟩
                · refine ⟨_, rfl, _, rfl, (by show 2 ≤ sizeLine; omega), fun q2 n_q2 => ⟨_, rfl, I.k0 (Fr.new n_q2), ?_⟩⟩
                  rw [if_pos hb2]
                  exact Tr.of_flat (ds := [.int z, .str f]) upd_same rfl
                · refine ⟨_, rfl, I, ?_⟩
                  rw [if_neg hb2]
                  exact hp
              · rintro σ' H7 ⟨pv, rfl, I, hp⟩
                exact ⟨_, L, ss, pv, _, _, rfl, rfl, I.eq rfl rfl, hp, hwi, hsh⟩
            · have hc32 : ¬ c = 32 := fun z => hq (decide_eq_true (by rw [z, e32]))
              refine ⟨_, rfl, rfl, _, rfl, ite2 (fun hq2 => ?_) (fun hq2 => ?_)⟩
              · have hc124 : c = 124 := by
                  have h1 := of_decide_eq_true hq2
                  injection h1 with h1
                  rw [e124] at h1
                  exact ch_inj h1
                have es : stepW z f i s c = ⟨s.ws, s.sp, s.ins, s.ins, s.spc⟩ := by unfold stepW; rw [if_neg hc32, if_pos hc124]
                rw [es] at hsh hwi ⊢
                exact ⟨_, rfl, _, L, ss, pv, _, _, rfl, rfl, I.eq rfl rfl, hp, hwi, hsh⟩
              · have hc124 : ¬ c = 124 := fun z => hq2 (decide_eq_true (by rw [z, e124]))
                have es : stepW z f i s c = stepL ⟨c, z, f, i⟩ s := by unfold stepW; rw [if_neg hc32, if_neg hc124]
                rw [es] at hsh hwi ⊢
                have hsl : s.ws.length ≤ 10000 ∧ s.sp.length ≤ 10000 := ⟨Nat.le_trans hs.1 (by omega), Nat.le_trans hs.2.1 (by omega)⟩
                refine ⟨_, rfl, _, rfl, _, rfl, _, rfl, (by show 4 ≤ sizeLine; omega), fun q2 n_q2 => ?_⟩
                generalize eH_q2 : upd H6 q2 _ = H7
                have ev_q2 : ∀ {M : List Addr}, Fr M H6 H7 := by intro M; rw [← eH_q2]; exact Fr.new n_q2
                have h_q2 : H7 q2 = some (.tup [.str (ch c), .int z, .str f, .int (i : Nat)]) := by rw [← eH_q2]; exact upd_same
                clear eH_q2
                have I := I.k0 ev_q2
                have hp := hp.mono (ev_q2 (M := [])).t
                have hlt : Tr H7 (.ref q2) (ceD ⟨c, z, f, i⟩) := Tr.of_flat (ds := [.str (ch c), .int z, .str f, .int (i : Nat)]) h_q2 rfl
                refine ⟨fun σ' H' => ∃ (ss : List V), σ' = [some (.ref a), some (.ref wa), some (.ref sa), some (.bl s.ins), some (.bl s.br), some pv, some (.int (i : Nat)), some (.ref b), some (.str (ch c)), some (.str (SX.S t)), some (.int z), some (.str f), some (.ref q2)] ∧
                  WoA wa sa H H' L ss ⟨s.ws, if s.ins = false ∧ s.ws ≠ [] then s.sp ++ [s.spc.getD (0, "")] else s.sp, s.ins, s.br, s.spc⟩ ∧ SpcAt H' pv s.spc ∧ Tr H' (.ref q2) (ceD ⟨c, z, f, i⟩), ?_, ?_⟩
                · refine ⟨_, rfl, _, rfl, ite2 (fun hb2 => ?_) (fun hb2 => ?_)⟩
                  · have hins : s.ins = false := by simpa using hb2
                    refine ⟨_, rfl, _, .inl ⟨_, SqL.of I.hw, rfl⟩, ite2 (fun hb3 => ?_) (fun hb3 => ?_)⟩
                    · have hne : s.ws ≠ [] := fun z => by
                        have := I.at_.len
                        rw [z] at this
                        have hh : L = [] := List.length_eq_zero_iff.mp this
                        rw [hh] at hb3
                        exact absurd hb3 (by decide)
                      cases esp : s.spc with
                      | none => exact (hin.a hne hins esp).elim
                      | some x =>
                        rw [esp] at hp
                        have hssl : ss.length ≤ 10000 := by rw [I.ht.length, List.length_map]; exact hsl.2
                        refine ⟨_, rfl, Or.inl ⟨rfl, _, SqL.of I.hs⟩, _, rfl, _, _, _, rfl, rfl, I.hs, (by omega), ss ++ [pv], rfl, ?_, ?_, ?_⟩
                        · rw [if_pos ⟨hins, hne⟩]
                          exact I.space hp _ rfl rfl
                        · exact hp.mono (Fr.put I.hs).t
                        · exact hlt.mono (Fr.put I.hs).t
                    · have hne : s.ws = [] := by
                        have := I.at_.len
                        cases hL : L with
                        | nil => rw [hL] at this; exact List.length_eq_zero_iff.mp this.symm
                        | cons x r => rw [hL] at hb3; exact (hb3 rfl).elim
                      refine ⟨ss, rfl, ?_, hp, hlt⟩
                      rw [if_neg (fun z => z.2 hne)]
                      exact I.eq rfl rfl
                  · refine ⟨ss, rfl, ?_, hp, hlt⟩
                    have hins : ¬ s.ins = false := fun z => hb2 (by rw [z] <;> rfl)
                    rw [if_neg (fun z => hins z.1)]
                    exact I.eq rfl rfl
                · rintro σ' H8 ⟨ss, rfl, I, hp, hlt⟩
                  generalize hs1 : (if s.ins = false ∧ s.ws ≠ [] then s.sp ++ [s.spc.getD (0, "")] else s.sp) = sp1 at *
                  refine ⟨fun σ' H' => ∃ (L : Lay), σ' = [some (.ref a), some (.ref wa), some (.ref sa), some (.bl s.ins), some (.bl s.br), some pv, some (.int (i : Nat)), some (.ref b), some (.str (ch c)), some (.str (SX.S t)), some (.int z), some (.str f), some (.ref q2)] ∧
                    WoA wa sa H H' L ss (stepL ⟨c, z, f, i⟩ s) ∧ SpcAt H' pv s.spc, ?_, ?_⟩
                  · refine ⟨_, rfl, _, rfl, ite2 (fun hb2 => ?_) (fun hb2 => ?_)⟩
                    · have hins : s.ins = false := by simpa using hb2
                      refine ⟨_, rfl, Or.inl ⟨rfl, _, SqL.of I.hw⟩, _, rfl, (by show 1 ≤ sizeLine; omega), fun r1 n_r1 => ⟨(by show 1 ≤ sizeLine; omega), fun r2 n_r2 => ?_⟩⟩
                      have hLl : (heads L).length ≤ 10000 := by rw [heads, List.length_map, I.at_.len]; exact hsl.1
                      obtain ⟨L', I'⟩ := I.word hlt n_r1 n_r2 (stepL ⟨c, z, f, i⟩ s) (by unfold stepL; simp [hins]) (by unfold stepL; exact hs1)
                      have f1 : KeepT H8 _ := (Fr.new (M := []) (o := .lst [.ref q2]) n_r1).t
                      have f2 : KeepT _ _ := (Fr.new (M := []) (o := .lst [.ref r1]) n_r2).t
                      have hw2 := (Fr.new (M := []) (o := .lst [.ref r1]) n_r2).k0 ((Fr.new (M := []) (o := .lst [.ref q2]) n_r1).k0 I.hw)
                      exact ⟨_, _, _, rfl, rfl, hw2, (by omega), L', rfl, I', ((hp.mono f1).mono f2).mono (Fr.put hw2).t⟩
                    · have hins : s.ins = true := by
                        cases e : s.ins with
                        | true => rfl
                        | false => rw [e] at hb2; exact (hb2 rfl).elim
                      obtain ⟨wr, w0, ew⟩ := snoc_ex (hin.b hins)
                      refine ⟨_, rfl, _, rfl, ite2 (fun hb3 => ?_) (fun hb3 => ?_)⟩
                      · obtain ⟨hs0, a2, bs, eh, h_a2, hbl, hmk⟩ := I.box (s := ⟨s.ws, sp1, s.ins, s.br, s.spc⟩) ew hlt
                        have hwl : w0.length ≤ 10000 := Nat.le_trans (hs.2.2 w0 (by rw [ew]; simp)).1 (by omega)
                        refine ⟨_, rfl, _, rfl, wa, _, _, V.ref a2, rfl, rfl, SqL.of I.hw, (by rw [eh]; exact atI_last _ _), Or.inl ⟨rfl, _, SqL.of h_a2⟩, _, rfl, (by show 1 ≤ sizeLine; omega), fun r1 n_r1 => ?_⟩
                        obtain ⟨L', I'⟩ := hmk (stepL ⟨c, z, f, i⟩ s) r1 (by unfold stepL; simp only [hins, hb3, if_true]; rw [ew, modL_snoc]) (by unfold stepL; exact hs1) n_r1
                        have h_a3 := (Fr.new (M := []) (o := .lst [.ref q2]) n_r1).k0 h_a2
                        exact ⟨_, _, _, rfl, rfl, h_a3, (by rw [List.length_map]; omega), L', rfl, I', (hp.mono (Fr.new (M := []) (o := .lst [.ref q2]) n_r1).t).mono (Fr.put h_a3).t⟩
                      · have hbr : s.br = false := by
                          cases e : s.br with
                          | false => rfl
                          | true => rw [e] at hb3; exact (hb3 rfl).elim
                        obtain ⟨br, b0, eb⟩ := snoc_ex (hin.c w0 (by rw [ew]; simp)).1
                        rw [eb] at ew
                        obtain ⟨hs0, a2, c2, bs, us, eh, h_a2, h_c2, hul, hmk⟩ := I.letter (s := ⟨s.ws, sp1, s.ins, s.br, s.spc⟩) ew hlt
                        have hwl : b0.length ≤ 10000 := Nat.le_trans ((hs.2.2 (br ++ [b0]) (by rw [ew]; simp)).2 b0 (by simp)) (by omega)
                        have I' := hmk (stepL ⟨c, z, f, i⟩ s) (by unfold stepL; simp only [hins, hbr, if_true]; rw [ew, if_neg (by decide), modL_snoc, modL_snoc]) (by unfold stepL; exact hs1)
                        exact ⟨_, rfl, _, rfl, wa, _, _, V.ref a2, rfl, rfl, SqL.of I.hw, (by rw [eh]; exact atI_last _ _), _, rfl, a2, _, _, _, rfl, rfl, SqL.of h_a2, atI_last _ _, Or.inl ⟨rfl, _, SqL.of h_c2⟩, _, rfl, _, _, _, rfl, rfl, h_c2, (by omega), L, rfl, I', hp.mono (Fr.put h_c2).t⟩
                  · rintro σ' H9 ⟨L, rfl, I, hp⟩
                    exact ⟨_, L, ss, pv, _, _, rfl, rfl, I, hp, hwi, hsh⟩
          · rintro σ H6 ⟨s', L, ss, pv, v8, v12, rfl, es', I, hp, hin, hs⟩
            rw [List.take_of_length_le (Nat.le_refl _), ← es, ← hst i s, ← et] at es'
            exact ⟨s', L, ss, pv, _, _, _, _, _, _, _, rfl, es', I, hp, hin, hs.le (by omega)⟩
    · rintro σ H3 ⟨s, L, ss, pv, v6, v7, v8, v9, v10, v11, v12, rfl, es, I, hp, hin, hs⟩
      rw [List.take_of_length_le (by omega)] at es
      have es : s = wordsF rs := es
      subst es
      refine ⟨_, rfl, _, rfl, (by show 2 ≤ sizeLine; omega), fun t n_t => ?_⟩
      have I2 := I.k0 (Fr.new n_t (o := .tup [.ref wa, .ref sa]))
      exact k t wa sa L ss _ upd_same I2.hw I2.at_ I2.hs I2.ht (hs.le (by omega)) hin I2.fr
end

end K45

set_option maxHeartbeats 4000000
namespace K45
open PySem PySem.Spec PyProof.Rows L2
/-! ### sorted of tuples of mixed shapes: the first text tells the shape -/
section
open PySem PySem.Spec PyProof.Rows PyProof.Rows.G PySem.W
def shT (tag : List Nat) (i : Nat) : Bool := decide (i ≤ (if tag.length = 4 then 3 else if tag.length = 5 then 1 else 2))
def mixL : List Value → Option (List (Int ⊕ List Nat))
  | .str x t :: r => tupItems (shT x.cps.toList) 0 (.str x t :: r)
  | _ => none
def mixKey (h : Heap) : Value → Option (List (Int ⊕ List Nat))
  | .ref a => match h.get? a with
    | some o => if isTupObj h (.ref a) = true then (match o.data with | .seq xs _ => mixL xs.toList | _ => none) else none
    | none => none
  | _ => none
@[reducible] def mixKind (h : Heap) : PyProof.Rows.KeyKind where
  toKeyOrd := PyProof.Rows.listOrd itemOrd
  keyOf := mixKey h
  dflt := []
theorem mixL_some {vs : List Value} {l : List (Int ⊕ List Nat)} (h : mixL vs = some l) : ∃ x t r, vs = .str x t :: r ∧ tupItems (shT x.cps.toList) 0 vs = some l := by
  cases vs with
  | nil => cases h
  | cons v r =>
    cases v with
    | str x t => exact ⟨x, t, r, rfl, h⟩
    | _ => cases h
theorem mixKey_some {h : Heap} {v : Value} {l : List (Int ⊕ List Nat)} (hv : mixKey h v = some l) :
    ∃ a o xs n x t r, v = .ref a ∧ h.get? a = some o ∧ o.cls = .type "tuple" ∧ o.data = .seq xs n ∧ xs.toList = .str x t :: r ∧ tupItems (shT x.cps.toList) 0 xs.toList = some l := by
  cases v with
  | ref a =>
    unfold mixKey at hv
    cases ho : h.get? a with
    | none => simp only [ho] at hv; cases hv
    | some o =>
      simp only [ho] at hv
      by_cases hc : isTupObj h (.ref a) = true
      · rw [if_pos hc] at hv
        cases hd : o.data with
        | seq xs n =>
          simp only [hd] at hv
          obtain ⟨x, t, r, e1, e2⟩ := mixL_some hv
          refine ⟨a, o, xs, n, x, t, r, rfl, ho, ?_, hd, e1, e2⟩
          simp only [isTupObj, ho] at hc
          cases hcl : o.cls with
          | type m =>
            rw [hcl] at hc
            have e : m = "tuple" := by simpa using hc
            rw [e]
          | _ => rw [hcl] at hc; simp at hc
        | _ => simp only [hd] at hv; cases hv
      · rw [if_neg hc] at hv
        cases hv
  | _ => cases hv
variable {prog : Program} {w : World} {A : Around} {E : Value → Shared → Prop} {s : Shared}
theorem mix_ltAt {h : Heap} (k : KeepsTups h s.heap) : PyProof.Rows.G.LtAt prog w s (mixKind h) (tuples' true) := by
  intro A E x y as bs Q hx hy hq
  obtain ⟨a₁, o₁, xs, n, x1, t1, r1, rfl, ho₁, hc₁, hd₁, e1, hi₁⟩ := mixKey_some hx
  obtain ⟨a₂, o₂, ys, m, x2, t2, r2, rfl, ho₂, hc₂, hd₂, e2, hi₂⟩ := mixKey_some hy
  refine kat_lt (k a₁ o₁ ho₁ hc₁) hd₁ (k a₂ o₂ ho₂ hc₂) hd₂ ?_
  by_cases hxy : x1 = x2
  · subst hxy
    exact tup_lex xs.toList ys.toList 0 as bs hi₁ hi₂ (by rw [Array.length_toList, Array.length_toList]) hq
  · have s1 : shT x1.cps.toList 0 = true := decide_eq_true (Nat.zero_le _)
    have s2 : shT x2.cps.toList 0 = true := decide_eq_true (Nat.zero_le _)
    rw [e1] at hi₁ ⊢
    rw [e2] at hi₂ ⊢
    obtain ⟨y1, u1, l1, z1, rfl, _⟩ := tupItems_str s1 hi₁
    obtain ⟨y2, u2, l2, z2, rfl, _⟩ := tupItems_str s2 hi₂
    cases z1
    cases z2
    have hne : x1.cps.toList ≠ x2.cps.toList := fun hl => hxy (by
      have hc : x1.cps = x2.cps := Array.toList_inj.mp hl
      cases x1; cases x2
      simp only [Str.mk.injEq]
      exact hc)
    refine kat_cons (wpAny_eqBool_str ?_)
    refine kat_go (fun e => absurd (of_decide_eq_true e) hxy) (fun _ => kat_no ?_)
    have hq2 : Q (lexLt itemOrd (Sum.inr x1.cps.toList :: l1) (Sum.inr x2.cps.toList :: l2)) s := hq
    rw [lex_diff (fun z => hne (Sum.inr.inj z))] at hq2
    exact oneLt_any_str hq2
theorem sorted_mix {l : Addr} {vs fs : List Value} {Q : Value → Shared → Prop} (hl : s.heap.IsList l vs.toArray)
    (ht : TupsOf s.heap (fun _ => true) vs fs) (hk : ∀ v, v ∈ vs → ∃ l, mixKey s.heap v = some l) (hL : vs.length ≤ sizeLine)
    (h : ∀ out : Array Value, out.toList.Perm vs → Q (.ref (s.heap.objs.size + 1)) { s with heap := sortedAll s.heap vs out }) :
    wpAny (model prog w) A (call (.builtin "sorted") [.ref l]) Q E s :=
  sortedG (κ := mixKind s.heap) (kd := tuples' true) hl (fun p hp => by
      rw [pairsOf_toList] at hp
      obtain ⟨e, hm⟩ := mem_zip_self hp
      exact hk p.1 hm) (fun s₂ k => mix_ltAt (s := s₂) k)
    (fun h2 _ _ s₂ _ k hq => tup_kind (s := s₂) (by rw [TupsOf.length ht]; omega) (TupsOf.keep k ht) hq) hL (fun st' hp _ _ => h _ (Srt.out_perm hp))
end
def mixT (sh : Nat → Bool) : Nat → List Dt → Bool
  | _, [] => true
  | i, .int _ :: r => !sh i && mixT sh (i + 1) r
  | i, .str _ :: r => sh i && mixT sh (i + 1) r
  | _, .tup _ :: _ => false
def MixOk (ds : List Dt) : Prop := ∃ x r, ds = .str x :: r ∧ mixT (shT x.cps.toList) 0 ds = true
theorem mix_items {sh : Nat → Bool} : ∀ {ds : List Dt} {us : List Value} {i : Nat}, Vals (ds.map fv) us → mixT sh i ds = true → ∃ l, tupItems sh i us = some l
  | [], _, _, .nil, _ => ⟨[], by simp [tupItems]⟩
  | .int n :: ds, _ :: us, i, .cons r t, e => by
    obtain ⟨tk, rfl⟩ := r
    have e' : (!sh i && mixT sh (i + 1) ds) = true := e
    rw [Bool.and_eq_true] at e'
    obtain ⟨l, hl⟩ := mix_items t e'.2
    have hs : sh i = false := by simpa using e'.1
    exact ⟨Sum.inl n :: l, by simp [tupItems, hs, hl]⟩
  | .str x :: ds, _ :: us, i, .cons r t, e => by
    obtain ⟨tk, rfl⟩ := r
    have e' : (sh i && mixT sh (i + 1) ds) = true := e
    rw [Bool.and_eq_true] at e'
    obtain ⟨l, hl⟩ := mix_items t e'.2
    exact ⟨Sum.inr x.cps.toList :: l, by simp [tupItems, e'.1, hl]⟩
  | .tup _ :: _, _, _, _, e => by cases e
def rSortedM (K : PySem.W.Frag) : List V → Hp → VK → Prop := fun vs H Q => ∃ a xs, vs = [V.ref a] ∧ SqL K H a xs ∧ (∀ x ∈ xs, ∃ t ds, x = V.ref t ∧ H t = some (.tup (ds.map fv)) ∧ MixOk ds) ∧
  ∀ ys p, ys.Perm xs → H p = none → Q (.ref p) (upd H p (.lst ys))
theorem tups_of {h : Heap} : ∀ {us : List Value}, (∀ u ∈ us, ∃ f, PyProof.Rows.TupOf h (fun _ => true) u f) → ∃ fs, PyProof.Rows.TupsOf h (fun _ => true) us fs
  | [], _ => ⟨[], .nil⟩
  | u :: us, hu => by
    obtain ⟨f, hf⟩ := hu u List.mem_cons_self
    obtain ⟨fs, hfs⟩ := tups_of (us := us) fun v hv => hu v (List.mem_cons_of_mem _ hv)
    exact ⟨f :: fs, .cons hf hfs⟩
theorem cr_sortedM {X : Cx} : CallR X (.builtin "sorted") (rSortedM X.K) := by
  intro pins s σ H vs us Q I r h
  obtain ⟨a, xs, rfl, hs, hx, q⟩ := h
  obtain ⟨its, rv, hl, hz⟩ := I.list hs
  obtain ⟨u, rfl, ru⟩ := vals1 r
  obtain rfl : u = Value.ref a := ru
  obtain ⟨e1, e2⟩ := refs_back rv fun x m => by
    obtain ⟨t, _, e, _⟩ := hx x m
    exact ⟨t, e⟩
  have key : ∀ v ∈ its, ∃ t ob us2 n x tk r l, v = .ref t ∧ s.heap.get? t = some ob ∧ ob.cls = .type "tuple" ∧ ob.data = .seq us2 n ∧ us2.toList = Value.str x tk :: r ∧ tupItems (shT x.cps.toList) 0 us2.toList = some l := fun v hv => by
    obtain ⟨t, rfl⟩ := e2 v hv
    have hm : V.ref t ∈ xs := by rw [e1]; exact List.mem_map.mpr ⟨_, hv, rfl⟩
    obtain ⟨t', ds, e, ht, x, r, rfl, hmx⟩ := hx _ hm
    cases e
    obtain ⟨_, its2, r2, ob, ho, hc, n, hd⟩ := I.hok _ _ ht
    obtain ⟨l, hl⟩ := mix_items r2 hmx
    cases r2 with
    | cons rx rt =>
      obtain ⟨tk, rfl⟩ := rx
      exact ⟨t, ob, _, n, x, tk, _, l, rfl, ho, hc, hd, rfl, hl⟩
  obtain ⟨fs, hfs⟩ := tups_of (h := s.heap) (us := its) fun v hv => by
    obtain ⟨t, ob, us2, n, x, tk, r, l, e, ho, hc, hd, hu, _⟩ := key v hv
    refine ⟨.str x tk, t, ob, us2, n, e, ho, hc, hd, ?_, (fun z => by cases z), fun _ => ⟨x, tk, rfl⟩⟩
    have : us2.toList[0]? = some (Value.str x tk) := by rw [hu] <;> rfl
    simpa using this
  refine sorted_mix hl.isList hfs (fun v hv => ?_) (by rw [← rv.length]; exact hz) fun out hp => ?_
  · obtain ⟨t, ob, us2, n, x, tk, r, l, rfl, ho, hc, hd, hu, hi⟩ := key v hv
    refine ⟨l, ?_⟩
    have ht : PyProof.Rows.G.isTupObj s.heap (.ref t) = true := by simp [PyProof.Rows.G.isTupObj, ho, hc]
    unfold mixKey
    simp only [ho]
    rw [if_pos ht]
    simp only [hd]
    rw [hu] at hi ⊢
    exact hi
  · have h3 : ∀ u ∈ out.toList, ∃ a, u = Value.ref a := fun u hu => e2 u (hp.mem_iff.mp hu)
    obtain ⟨ep, he'⟩ := PyProof.Rows.sortedAll_at s.heap its out
    refine ⟨.ref _, upd H (s.heap.objs.size + 1) (.lst (out.toList.map backV)), I.laid (t' := s.toks) (fun _ _ => PyProof.Rows.sortedAll_old) (Nat.le_succ _) ⟨?_, out.toList, ep, vals_back h3, he'⟩, rfl, q _ _ ?_ (I.hok.fresh (Nat.le_succ _))⟩
    · rw [List.length_map, hp.length_eq, ← rv.length]; exact hz
    · rw [e1]; exact hp.map backV

end K45

set_option maxHeartbeats 4000000
namespace K45
open PySem PySem.Spec PyProof.Rows L2
/-! ### measures: the plain side -/
inductive Ms where
  | letter (f : Str) (c : Nat) | pair (f : Str) (a b : Nat) | hyphen (f : Str) (a : Nat) | space (f : Str)
abbrev Fcs : Type := Str → FaceD
def msD (F : Fcs) : Ms → List Dt
  | .letter f c => [.str "letter", .str f, .str (ch c), .int ((F f).adv c)]
  | .pair f a b => [.str "pair", .str f, .str (ch a), .str (ch b), .int (nearF (F f) a b)]
  | .hyphen f a => [.str "hyphen", .str f, .str (ch a), .int ((F f).adv 45), .int (nearF (F f) a 45)]
  | .space f => [.str "space", .str f, .int (F f).sp.1, .int (F f).sp.2.1, .int (F f).sp.2.2]
def keyM (F : Fcs) : Ms → List L2.Key
  | .letter f c => [.inr "letter", .inr f, .inr (ch c), .inl ((F f).adv c)]
  | .pair f a b => [.inr "pair", .inr f, .inr (ch a), .inr (ch b), .inl (nearF (F f) a b)]
  | .hyphen f a => [.inr "hyphen", .inr f, .inr (ch a), .inl ((F f).adv 45), .inl (nearF (F f) a 45)]
  | .space f => [.inr "space", .inr f, .inl (F f).sp.1, .inl (F f).sp.2.1, .inl (F f).sp.2.2]
theorem msD_flat (F : Fcs) (m : Ms) : (msD F m).all isF = true := by cases m <;> rfl
theorem msD_key (F : Fcs) (m : Ms) : (msD F m).map fv = (keyM F m).map kV := by cases m <;> rfl
theorem msD_mix (F : Fcs) (m : Ms) : MixOk (msD F m) := by
  have e1 : ∀ i, shT (Str.ofString "letter").cps.toList i = decide (i ≤ 2) := fun i => by
    have : (Str.ofString "letter").cps.toList = [108, 101, 116, 116, 101, 114] := by decide +kernel
    rw [this] <;> rfl
  have e2 : ∀ i, shT (Str.ofString "pair").cps.toList i = decide (i ≤ 3) := fun i => by
    have : (Str.ofString "pair").cps.toList = [112, 97, 105, 114] := by decide +kernel
    rw [this] <;> rfl
  have e3 : ∀ i, shT (Str.ofString "hyphen").cps.toList i = decide (i ≤ 2) := fun i => by
    have : (Str.ofString "hyphen").cps.toList = [104, 121, 112, 104, 101, 110] := by decide +kernel
    rw [this] <;> rfl
  have e4 : ∀ i, shT (Str.ofString "space").cps.toList i = decide (i ≤ 1) := fun i => by
    have : (Str.ofString "space").cps.toList = [115, 112, 97, 99, 101] := by decide +kernel
    rw [this] <;> rfl
  cases m with
  | letter f c => exact ⟨"letter", _, rfl, by show mixT (shT (Str.ofString "letter").cps.toList) 0 [.str "letter", .str f, .str (ch c), .int ((F f).adv c)] = true; simp [mixT, e1]⟩
  | pair f a b => exact ⟨"pair", _, rfl, by show mixT (shT (Str.ofString "pair").cps.toList) 0 [.str "pair", .str f, .str (ch a), .str (ch b), .int (nearF (F f) a b)] = true; simp [mixT, e2]⟩
  | hyphen f a => exact ⟨"hyphen", _, rfl, by show mixT (shT (Str.ofString "hyphen").cps.toList) 0 [.str "hyphen", .str f, .str (ch a), .int ((F f).adv 45), .int (nearF (F f) a 45)] = true; simp [mixT, e3]⟩
  | space f => exact ⟨"space", _, rfl, by show mixT (shT (Str.ofString "space").cps.toList) 0 [.str "space", .str f, .int (F f).sp.1, .int (F f).sp.2.1, .int (F f).sp.2.2] = true; simp [mixT, e4]⟩
def msT (F : Fcs) (m : Ms) : Dt := .tup (msD F m)
def pairM (b : Option Ce) (l : Ce) : List Ms :=
  match b with
  | some b => if b.z = l.z ∧ b.f = l.f then [.pair l.f b.c l.c] else []
  | none => []
def letM (st : List Ms × Option Ce) (l : Ce) : List Ms × Option Ce := (st.1 ++ [.letter l.f l.c] ++ pairM st.2 l, some l)
def hypM (b : Option Ce) : List Ms :=
  match b with
  | some b => [.hyphen b.f b.c]
  | none => []
def boxM (st : List Ms × Option Ce) (box : List Ce) : List Ms × Option Ce := box.foldl letM (st.1 ++ hypM st.2, st.2)
def msF (word : List (List Ce)) : List Ms := (word.foldl boxM ([], none)).1
/-- both faces under their names -/
def FacesAt (H : Hp) (d CF : Addr) (F : Fcs) (need : List Nat) : Prop := ∃ fk, H d = some (.dK fk) ∧ ∀ f, FaceN f → ∃ o, valV fk (Sum.inr f) = some (.ref o) ∧ FaceAt H CF o (F f) ∧ ∀ c ∈ need, c ∈ (F f).has
theorem FacesAt.k0 {H H' : Hp} {d CF : Addr} {F : Fcs} {need : List Nat} (h : FacesAt H d CF F need) (f : Fr [] H H') : FacesAt H' d CF F need :=
  let ⟨fk, h1, h2⟩ := h; ⟨fk, f.k0 h1, fun x hx => let ⟨o, e, h3, h4⟩ := h2 x hx; ⟨o, e, h3.k0 f, h4⟩⟩
def CeOk (need : List Nat) (l : Ce) : Prop := l.c ∈ need ∧ SzOk l.z l.f
def spWmeas (K : PySem.W.Frag) (CF : Addr) : Sp := fun vs H Q _ => ∃ (w fd : Addr) (bs : List Addr) (word : List (List Ce)) (F : Fcs) (need : List Nat), vs = [.ref w, .ref fd] ∧ H w = some (.lst (bs.map V.ref)) ∧ RowsAt H bs (word.map (List.map ceD)) ∧ (∀ b ∈ word, ∀ l ∈ b, CeOk need l) ∧ 45 ∈ need ∧ FacesAt H fd CF F need ∧ word.length ≤ 10000 ∧ word.flatten.length ≤ 10000 ∧
  ∀ (l : Addr) (us : List V) (H' : Hp), H l = none → H' l = some (.lst us) → Trs H' us ((msF word).map (msT F)) → us.length ≤ word.length + 2 * word.flatten.length → Fr [] H H' → Q (.ref l) H'
/-! ### the letters, in order -/
def isL (c : Nat) : Bool := !(decide (c = 32) || decide (c = 124))
def letsT (t : List Nat) (z : Int) (f : Str) (p : Nat) : List Ce := (t.filter isL).map fun c => ⟨c, z, f, p⟩
def letsR (p : Nat) : RR → List Ce
  | .mark _ => []
  | .text t z f => letsT t z f p
  | .shown _ t z f => letsT t z f p
def lets (rs : List RR) : List Ce := (rs.zipIdx.map fun x => letsR x.2 x.1).flatten
theorem flat_step {s : Wst} (h : WIn s) (l : Ce) : (stepL l s).ws.flatten.flatten = s.ws.flatten.flatten ++ [l] := by
  show (if s.ins = true then (if s.br = true then modL (fun w => w ++ [[l]]) s.ws else modL (modL fun b => b ++ [l]) s.ws) else s.ws ++ [[[l]]]).flatten.flatten = _
  split
  · rename_i hi
    obtain ⟨wr, w, e⟩ := snoc_ex (h.b hi)
    rw [e, modL_snoc, modL_snoc]
    split
    · simp
    · obtain ⟨br, b, eb⟩ := snoc_ex (h.c w (by rw [e]; simp)).1
      rw [eb, modL_snoc]
      simp
  · simp
theorem flat_stepW {s : Wst} (h : WIn s) (z : Int) (f : Str) (p c : Nat) : (stepW z f p s c).ws.flatten.flatten = s.ws.flatten.flatten ++ (if isL c = true then [⟨c, z, f, p⟩] else []) := by
  unfold stepW isL
  by_cases h1 : c = 32
  · rw [if_pos h1]; simp [h1]
  · rw [if_neg h1]
    by_cases h2 : c = 124
    · rw [if_pos h2]; simp [h2]
    · rw [if_neg h2, flat_step h]; simp [h1, h2]
theorem fold_text (z : Int) (f : Str) (p : Nat) : ∀ (t : List Nat) (s : Wst), WIn s → WIn (t.foldl (stepW z f p) s) ∧ (t.foldl (stepW z f p) s).ws.flatten.flatten = s.ws.flatten.flatten ++ letsT t z f p
  | [], s, h => ⟨h, by simp [letsT]⟩
  | c :: t, s, h => by
    obtain ⟨h1, h2⟩ := fold_text z f p t (stepW z f p s c) (h.stepW z f p c)
    refine ⟨h1, ?_⟩
    rw [List.foldl_cons, h2, flat_stepW h]
    unfold letsT
    rw [List.filter_cons]
    split <;> simp
theorem fold_run {s : Wst} (h : WIn s) (p : Nat) (r : RR) : WIn (stepR p s r) ∧ (stepR p s r).ws.flatten.flatten = s.ws.flatten.flatten ++ letsR p r := by
  cases r with
  | mark n => exact ⟨h, by show _ = _ ++ []; simp [stepR]⟩
  | text t z f => exact fold_text z f p t s h
  | shown k t z f => exact fold_text z f p t s h
theorem fold_runs : ∀ (xs : List (RR × Nat)) (s : Wst), WIn s → WIn (xs.foldl (fun s x => stepR x.2 s x.1) s) ∧ (xs.foldl (fun s x => stepR x.2 s x.1) s).ws.flatten.flatten = s.ws.flatten.flatten ++ (xs.map fun x => letsR x.2 x.1).flatten
  | [], s, h => ⟨h, by simp⟩
  | x :: xs, s, h => by
    obtain ⟨h1, h2⟩ := fold_run h x.2 x.1
    obtain ⟨h3, h4⟩ := fold_runs xs _ h1
    exact ⟨h3, by rw [List.foldl_cons, h4, h2]; simp⟩
theorem words_flat (rs : List RR) : (wordsF rs).ws.flatten.flatten = lets rs := by
  have := (fold_runs rs.zipIdx W0 WIn.zero).2
  unfold wordsF
  rw [this]
  rfl
theorem words_win (rs : List RR) : WIn (wordsF rs) := (fold_runs rs.zipIdx W0 WIn.zero).1
theorem lets_len : ∀ (xs : List (RR × Nat)), (∀ x ∈ xs, RRok x.1) → ((xs.map fun x => letsR x.2 x.1).flatten).length ≤ 100 * xs.length
  | [], _ => Nat.le_refl _
  | x :: xs, h => by
    rw [List.map_cons, List.flatten_cons, List.length_append, List.length_cons]
    have h1 := lets_len xs fun y hy => h y (List.mem_cons_of_mem _ hy)
    have h2 : (letsR x.2 x.1).length ≤ 100 := by
      have hx := h x List.mem_cons_self
      cases e : x.1 with
      | mark n => exact Nat.zero_le _
      | text t z f =>
        rw [e] at hx
        show (letsT t z f x.2).length ≤ 100
        unfold letsT
        rw [List.length_map]
        exact Nat.le_trans (List.length_filter_le _ _) hx.1
      | shown k t z f =>
        rw [e] at hx
        show (letsT t z f x.2).length ≤ 100
        unfold letsT
        rw [List.length_map]
        exact Nat.le_trans (List.length_filter_le _ _) hx.1
    omega
/-- the runs' letters are of the house -/
def RRin (need : List Nat) : RR → Prop
  | .mark _ => True
  | .text t _ _ => ∀ c ∈ t, isL c = true → c ∈ need
  | .shown _ t _ _ => ∀ c ∈ t, isL c = true → c ∈ need
theorem lets_ok {need : List Nat} {rs : List RR} (h1 : ∀ r ∈ rs, RRok r) (h2 : ∀ r ∈ rs, RRin need r) : ∀ l ∈ lets rs, CeOk need l := by
  intro l hl
  unfold lets at hl
  obtain ⟨ls, hls, hl⟩ := List.mem_flatten.mp hl
  obtain ⟨x, hx, rfl⟩ := List.mem_map.mp hls
  have hm : x.1 ∈ rs := by
    obtain ⟨i, hi⟩ := List.getElem?_of_mem hx
    rw [List.getElem?_zipIdx] at hi
    cases e : rs[i]? with
    | none => rw [e] at hi; cases hi
    | some r => rw [e] at hi; cases hi; exact List.mem_of_getElem? e
  have a1 := h1 x.1 hm
  have a2 := h2 x.1 hm
  have key : ∀ (t : List Nat) (z : Int) (f : Str), SzOk z f → (∀ c ∈ t, isL c = true → c ∈ need) → l ∈ letsT t z f x.2 → CeOk need l := fun t z f hs hn hl => by
    unfold letsT at hl
    obtain ⟨c, hc, rfl⟩ := List.mem_map.mp hl
    obtain ⟨hc1, hc2⟩ := List.mem_filter.mp hc
    exact ⟨hn c hc1 hc2, hs⟩
  cases e : x.1 with
  | mark n => rw [e] at hl; cases hl
  | text t z f => rw [e] at hl a1 a2; exact key t z f a1.2 a2 hl
  | shown k t z f => rw [e] at hl a1 a2; exact key t z f a1.2 a2 hl
/-- the spaces: one less than the words, in known faces -/
structure SpIn (s : Wst) : Prop where
  n : s.sp.length + 1 = s.ws.length ∨ (s.ws = [] ∧ s.sp = [])
  ok : ∀ x ∈ s.sp, SzOk x.1 x.2
  c : ∀ x, s.spc = some x → SzOk x.1 x.2
theorem SpIn.step {s : Wst} (h : WIn s) (q : SpIn s) (l : Ce) : SpIn (stepL l s) := by
  have hlen : (stepL l s).ws.length = if s.ins = true then s.ws.length else s.ws.length + 1 := by
    show (if s.ins = true then (if s.br = true then modL (fun w => w ++ [[l]]) s.ws else modL (modL fun b => b ++ [l]) s.ws) else s.ws ++ [[[l]]]).length = _
    split
    · rename_i hi
      obtain ⟨wr, w, e⟩ := snoc_ex (h.b hi)
      rw [e, modL_snoc, modL_snoc]
      split <;> simp
    · simp
  refine ⟨?_, ?_, q.c⟩
  · left
    rw [hlen]
    show (if s.ins = false ∧ s.ws ≠ [] then s.sp ++ [s.spc.getD (0, "")] else s.sp).length + 1 = _
    by_cases hi : s.ins = true
    · rw [if_pos hi, if_neg (by rw [hi]; simp)]
      rcases q.n with e | ⟨e, _⟩
      · exact e
      · exact (h.b hi e).elim
    · rw [if_neg hi]
      have hf : s.ins = false := by simpa using hi
      by_cases hw : s.ws = []
      · rw [if_neg (fun z => z.2 hw)]
        rcases q.n with e | ⟨_, e⟩
        · rw [hw] at e; cases e
        · rw [e, hw] <;> rfl
      · rw [if_pos ⟨hf, hw⟩, List.length_append]
        rcases q.n with e | ⟨e, _⟩
        · show s.sp.length + 1 + 1 = _
          omega
        · exact (hw e).elim
  · show ∀ x ∈ (if s.ins = false ∧ s.ws ≠ [] then s.sp ++ [s.spc.getD (0, "")] else s.sp), SzOk x.1 x.2
    split
    · rename_i hi
      intro x hx
      rcases List.mem_append.mp hx with m | m
      · exact q.ok x m
      · cases e : s.spc with
        | none => exact (h.a hi.2 hi.1 e).elim
        | some y =>
          rw [e] at m
          rw [List.mem_singleton.mp m]
          exact q.c y e
    · exact q.ok
theorem SpIn.stepW {s : Wst} (h : WIn s) (q : SpIn s) {z : Int} {f : Str} (hs : SzOk z f) (p c : Nat) : SpIn (K45.stepW z f p s c) := by
  unfold K45.stepW
  split
  · refine ⟨q.n, q.ok, fun x hx => ?_⟩
    have hx : (if s.ins = true then some (z, f) else s.spc) = some x := hx
    split at hx
    · cases hx; exact hs
    · exact q.c x hx
  · split
    · exact ⟨q.n, q.ok, q.c⟩
    · exact q.step h _
theorem sp_text {z : Int} {f : Str} (hs : SzOk z f) (p : Nat) : ∀ (t : List Nat) (s : Wst), WIn s → SpIn s → SpIn (t.foldl (stepW z f p) s)
  | [], _, _, q => q
  | c :: t, s, h, q => sp_text hs p t _ (h.stepW z f p c) (q.stepW h hs p c)
theorem sp_runs : ∀ (xs : List (RR × Nat)) (s : Wst), (∀ x ∈ xs, RRok x.1) → WIn s → SpIn s → SpIn (xs.foldl (fun s x => stepR x.2 s x.1) s)
  | [], _, _, _, q => q
  | x :: xs, s, hok, h, q => by
    refine sp_runs xs _ (fun y hy => hok y (List.mem_cons_of_mem _ hy)) (fold_run h x.2 x.1).1 ?_
    have hx := hok x List.mem_cons_self
    show SpIn (stepR x.2 s x.1)
    cases e : x.1 with
    | mark n => exact q
    | text t z f => rw [e] at hx; exact sp_text hx.2 x.2 t s h q
    | shown k t z f => rw [e] at hx; exact sp_text hx.2 x.2 t s h q
theorem mem_zip {rs : List RR} {x : RR × Nat} (h : x ∈ rs.zipIdx) : x.1 ∈ rs := by
  obtain ⟨i, hi⟩ := List.getElem?_of_mem h
  rw [List.getElem?_zipIdx] at hi
  cases e : rs[i]? with
  | none => rw [e] at hi; cases hi
  | some r => rw [e] at hi; cases hi; exact List.mem_of_getElem? e
theorem words_sp {rs : List RR} (h : ∀ r ∈ rs, RRok r) : SpIn (wordsF rs) := sp_runs rs.zipIdx W0 (fun x hx => h _ (mem_zip hx)) WIn.zero ⟨.inr ⟨rfl, rfl⟩, (fun x hx => by cases hx), fun x hx => by cases hx⟩
def spMeas (K : PySem.W.Frag) (CF : Addr) : Sp := fun vs H Q _ => ∃ (v : V) (fd : Addr) (rs : List RR) (F : Fcs) (need : List Nat), vs = [v, .ref fd] ∧ Tr H v (.tup (rs.map rrD)) ∧ rs.length ≤ 100 ∧ (∀ r ∈ rs, RRok r) ∧ (∀ r ∈ rs, RRin need r) ∧ 45 ∈ need ∧ FacesAt H fd CF F need ∧
  ∀ (u : V) (ds : List Dt) (H' : Hp), Tr H' u (.tup ds) → (∀ d ∈ ds, ∃ m, d = msT F m) → (∀ w ∈ (wordsF rs).ws, ∀ m ∈ msF w, msT F m ∈ ds) → (∀ x ∈ (wordsF rs).sp, msT F (.space x.2) ∈ ds) → ds.length ≤ 500000 → Fr [] H H' → Q u H'
theorem boxes_le : ∀ {ws : List (List (List Ce))}, (∀ w ∈ ws, w ≠ [] ∧ ∀ x ∈ w, x ≠ []) → ws.flatten.length ≤ ws.flatten.flatten.length := by
  have key : ∀ bs : List (List Ce), (∀ x ∈ bs, x ≠ []) → bs.length ≤ bs.flatten.length := by
    intro bs
    induction bs with
    | nil => intro _; exact Nat.le_refl _
    | cons b bs ih =>
      intro h
      have h1 := ih fun x hx => h x (List.mem_cons_of_mem _ hx)
      have h2 : b.length ≠ 0 := fun z => h b List.mem_cons_self (List.length_eq_zero_iff.mp z)
      rw [List.flatten_cons, List.length_append, List.length_cons]
      omega
  intro ws h
  refine key _ fun x hx => ?_
  obtain ⟨w, hw, hx⟩ := List.mem_flatten.mp hx
  exact (h w hw).2 x hx

end K45

set_option maxHeartbeats 4000000
namespace K45
open PySem PySem.Spec PyProof.Rows L2
section
variable {P : Program} {w : World} {K : PySem.W.Frag} {mg : Str → Option Value} {base : Heap}
theorem e45 : Str.ofString "-" = ch 45 := by decide +kernel
/-- the rows so far -/
structure RoI (F : Fcs) (l : Addr) (H0 H : Hp) (ms : List Ms) (us : List V) : Prop where
  hl : H l = some (.lst us)
  t : Trs H us (ms.map (msT F))
  fr : Fr [] H0 H
  n : H0 l = none
theorem RoI.k0 {F : Fcs} {l : Addr} {H0 H H' : Hp} {ms : List Ms} {us : List V} (I : RoI F l H0 H ms us) (f : Fr [] H H') : RoI F l H0 H' ms us := ⟨f.k0 I.hl, I.t.mono f.t, I.fr.t0 f, I.n⟩
theorem RoI.len {F : Fcs} {l : Addr} {H0 H : Hp} {ms : List Ms} {us : List V} (I : RoI F l H0 H ms us) : us.length = ms.length := by rw [I.t.length, List.length_map]
theorem RoI.app {F : Fcs} {l : Addr} {H0 H : Hp} {ms : List Ms} {us : List V} (I : RoI F l H0 H ms us) {q : Addr} (m : Ms) (h : H q = some (.tup ((msD F m).map fv))) : RoI F l H0 (upd H l (.lst (us ++ [.ref q]))) (ms ++ [m]) (us ++ [.ref q]) :=
  ⟨upd_same, by
    rw [List.map_append]
    exact (I.t.mono (Fr.put I.hl).t).snoc ((Tr.of_flat h (msD_flat F m)).mono (Fr.put I.hl).t), I.fr.t1 (Fr.put I.hl) (.inr I.n), I.n⟩
def BfAt (H : Hp) (v : V) : Option Ce → Prop
  | none => v = .non
  | some l => Tr H v (ceD l)
theorem BfAt.mono {H H' : Hp} (k : KeepT H H') {v : V} {o : Option Ce} (h : BfAt H v o) : BfAt H' v o := by
  cases o with
  | none => exact h
  | some x => exact Tr.mono k h
theorem take_flat {α : Type} (ws : List (List α)) (i : Nat) : (ws.take i).flatten.length ≤ ws.flatten.length := by
  have : ws.flatten = (ws.take i).flatten ++ (ws.drop i).flatten := by rw [← List.flatten_append, List.take_append_drop]
  rw [this, List.length_append]
  omega
abbrev s_wmeas : Stmt := top 3
abbrev N_wmeas : List Str := ["word", "faces", "rows", "before", "box", "letter", "name", "face", "char", "size"]
theorem sc_wmeas : FnScope ["word", "faces", "rows", "before", "box", "letter", "name", "face", "char", "size"] ["word", "faces"] (defScope s_wmeas) := ⟨rfl, rfl, rfl, by decide +kernel, rfl, by decide +kernel, by decide +kernel⟩
theorem c_wmeas (F : Df K mg "word_measures" s_wmeas) (G : Gn mg) {CS CI CF : Addr} (mt_advance : C8.Met P w K mg base 1 CF "advance" (spAdv CF) []) (mt_nearer : C8.Met P w K mg base 4 CF "nearer" (spNear CF) []) : C8.Cal P w K mg base 5 "word_measures" (spWmeas K CF) [] := by
  refine cal_by F sc_wmeas (fun _ _ _ _ _ _ us hl => match us, hl with | [_, _], _ => rfl) (fun vs H Q E h => ?_) (fun f cdv A outer s H vs Q E hr h => ?_)
  · obtain ⟨w, fd, bs, word, F, need, rfl, _⟩ := h
    rfl
  · obtain ⟨w, fd, bs, word, F, need, rfl, h_w, hrows, hce, h45, hF, hwl, hfl, k⟩ := h
    have sc := sc_wmeas
    have hu := hu_of hr
    refine ⟨_, (pss_cons (ps_set (i := 2) sc.nd rfl (Or.inl rfl) (pe_lst pa_nil))
      (pss_cons (ps_set (i := 3) sc.nd rfl (Or.inl rfl) pe_non)
      (pss_cons (ps_for PassesOwn.never rfl (pi_list (pv 0)) (pg_name (i := 4) sc.nd rfl (Or.inl rfl))
        (C8.pss_cut (ps_if (pt_cmpR op_notN (pv 3) pe_non (nomark _))
          (pss_cons (ps_set (i := 6) sc.nd rfl (Or.inl rfl) (pe_ix ix_tup (pv 3) pe_int (fun _ _ => rfl)))
          (pss_cons (ps_set (i := 7) sc.nd rfl (Or.inl rfl) (pe_dget hu (pv 1) (pv 6) (fun _ _ => rfl)))
          (pss_one (ps_expr (pe_bm PySem.F.plainAttrs_list PySem.F.slot_list_append PySem.F.type_list_append mt_append (pv 2) (pa_cons (pe_tup (pa_cons pe_str (pa_cons (pv 6) (pa_cons (pe_ix ix_tup (pv 3) pe_int (fun _ _ => rfl)) (pa_cons (C8.pe_mt mt_advance hr (by decide) (pv 7) (pa_cons pe_str pa_nil)) (pa_cons (C8.pe_mt mt_nearer hr (by decide) (pv 7) (pa_cons (pe_ix ix_tup (pv 3) pe_int (fun _ _ => rfl)) (pa_cons pe_str pa_nil))) pa_nil)))))) pa_nil))))))
          pss_nil)
        (pss_one (ps_for PassesOwn.never rfl (pi_list (pv 4)) (pg_name (i := 5) sc.nd rfl (Or.inl rfl))
          (pss_cons (ps_asg (pe_slice sl_tup (pv 5) po_none (po_some pe_int)) (pg_tup rfl (pgs_cons (pg_name (i := 8) sc.nd rfl (Or.inl rfl)) (pgs_cons (pg_name (i := 9) sc.nd rfl (Or.inl rfl)) (pgs_cons (pg_name (i := 6) sc.nd rfl (Or.inl rfl)) pgs_nil)))))
          (pss_cons (ps_set (i := 7) sc.nd rfl (Or.inl rfl) (pe_dget hu (pv 1) (pv 6) (fun _ _ => rfl)))
          (pss_cons (ps_expr (pe_bm PySem.F.plainAttrs_list PySem.F.slot_list_append PySem.F.type_list_append mt_append (pv 2) (pa_cons (pe_tup (pa_cons pe_str (pa_cons (pv 6) (pa_cons (pv 8) (pa_cons (C8.pe_mt mt_advance hr (by decide) (pv 7) (pa_cons (pv 8) pa_nil)) pa_nil))))) pa_nil)))
          (C8.pss_cut (ps_if (PW.pt (pw_and (pt_cmpR op_notN (pv 3) pe_non (nomark _)) (pw_and (pt_cmpR op_eq (pe_ix ix_tup (pv 3) pe_int (fun _ _ => rfl)) (pv 9) (nomark _)) (pw_and1 (pt_cmpR op_eq (pe_ix ix_tup (pv 3) pe_int (fun _ _ => rfl)) (pv 6) (nomark _))))))
            (pss_one (ps_expr (pe_bm PySem.F.plainAttrs_list PySem.F.slot_list_append PySem.F.type_list_append mt_append (pv 2) (pa_cons (pe_tup (pa_cons pe_str (pa_cons (pv 6) (pa_cons (pe_ix ix_tup (pv 3) pe_int (fun _ _ => rfl)) (pa_cons (pv 8) (pa_cons (C8.pe_mt mt_nearer hr (by decide) (pv 7) (pa_cons (pe_ix ix_tup (pv 3) pe_int (fun _ _ => rfl)) (pa_cons (pv 8) pa_nil))) pa_nil)))))) pa_nil))))
            pss_nil)
          (pss_one (ps_set (i := 3) sc.nd rfl (Or.inl rfl) (pv 5)))))))))))
      (pss_one (ps_ret (pv 2)))))), ?_⟩
    have hz := big
    refine ⟨(by show 0 ≤ sizeLine; omega), fun l n_l => ?_⟩
    have l0 := n_l
    generalize eH_l : upd H l _ = H1
    have ev_l : ∀ {M : List Addr}, Fr M H H1 := by intro M; rw [← eH_l]; exact Fr.new n_l
    have h_l : H1 l = some (.lst []) := by rw [← eH_l]; exact upd_same
    clear eH_l
    have I : RoI F l H H1 [] [] := ⟨h_l, .nil, ev_l, l0⟩
    have hbl : bs.length = word.length := by rw [hrows.len, List.length_map]
    refine ⟨_, rfl, w, rfl, ⟨_, SqL.of (I.fr.k0 h_w)⟩, for_list (xs := bs.map V.ref) (fun i σ H' => ∃ (us : List V) (pv : V) (ms : List Ms) (bf : Option Ce) (v4 v5 v6 v7 v8 v9 : Option V), σ = [some (.ref w), some (.ref fd), some (.ref l), some pv, v4, v5, v6, v7, v8, v9] ∧
      (ms, bf) = (word.take i).foldl boxM ([], none) ∧ RoI F l H H' ms us ∧ BfAt H' pv bf ∧ (∀ x, bf = some x → CeOk need x) ∧ ms.length ≤ i + 2 * (word.take i).flatten.length) ?_ ?_ ?_ ?_⟩
    · exact ⟨[], .non, [], none, _, _, _, _, _, _, rfl, rfl, I, rfl, (fun x h => by cases h), Nat.zero_le _⟩
    · rintro i σ H2 _ ⟨us, pv, ms, bf, v4, v5, v6, v7, v8, v9, rfl, es, I, hb, hbo, hml⟩
      exact SqL.of (I.fr.k0 h_w)
    · rintro i x σ H2 hi ⟨us, pv, ms, bf, v4, v5, v6, v7, v8, v9, rfl, es, I, hb, hbo, hml⟩
      rw [List.getElem?_map] at hi
      cases eb : bs[i]? with
      | none => rw [eb] at hi; cases hi
      | some bx =>
        rw [eb] at hi
        cases hi
        have hil := (List.getElem?_eq_some_iff.mp eb).1
        obtain ⟨box, ebox, hbox⟩ := get_of (l := word) (j := i) (by omega)
        obtain ⟨bx', vs, e1, h_bx, hvs⟩ := hrows.get (i := i) (ds := box.map ceD) (by rw [List.getElem?_map, ebox] <;> rfl)
        rw [eb] at e1
        cases e1
        have hvl : vs.length = box.length := by rw [hvs.length, List.length_map]
        have et : (word.take (i + 1)).foldl boxM ([], none) = boxM (ms, bf) box := by
          rw [List.take_add_one, ebox]
          show (word.take i ++ [box]).foldl _ _ = _
          rw [List.foldl_append, ← es] <;> rfl
        have efl : (word.take (i + 1)).flatten.length = (word.take i).flatten.length + box.length := by
          rw [List.take_add_one, ebox]
          show (word.take i ++ [box]).flatten.length = _
          simp
        have htf := take_flat word (i + 1)
        refine ⟨fun σ' H' => ∃ (us : List V) (v6 v7 : Option V), σ' = [some (.ref w), some (.ref fd), some (.ref l), some pv, some (.ref bx), v5, v6, v7, v8, v9] ∧ RoI F l H H' (ms ++ hypM bf) us ∧ BfAt H' pv bf, ?_, ?_⟩
        · cases bf with
          | none =>
            cases hb
            exact ⟨_, rfl, rfl, _, rfl, ite2 (fun hc => absurd hc (by decide)) (fun _ => ⟨us, _, _, rfl, by rw [hypM, List.append_nil]; exact I, rfl⟩)⟩
          | some b0 =>
            obtain ⟨b, rfl, h_b⟩ := Tr.flat (hb : Tr H2 pv (.tup _)) rfl
            have hb0 := hbo b0 rfl
            obtain ⟨fk, h_fd, hfk⟩ := hF
            obtain ⟨o, eo, hfo, hneed⟩ := hfk b0.f hb0.2.2.2
            have hfo2 := hfo.k0 I.fr
            obtain ⟨H0, X, g⟩ := id hfo2
            have h_fd2 := I.fr.k0 h_fd
            refine ⟨_, rfl, rfl, _, rfl, ite2 (fun _ => ?_) (fun hc => (hc (by simp)).elim)⟩
            refine ⟨_, rfl, b, _, _, _, rfl, rfl, SqT.of h_b, rfl, _, rfl, _, rfl, fd, _, rfl, dget_k (k := Sum.inr b0.f) h_fd2 eo, _, rfl, Or.inl ⟨rfl, _, SqL.of I.hl⟩, _, rfl, _, rfl, b, _, _, _, rfl, rfl, SqT.of h_b, rfl, _, rfl, o, _, _, rfl, g.at_, g.m1, o, F b0.f, 45, congrArg (fun x => [V.ref o, V.str x]) e45, hfo2, hneed 45 h45, ?_⟩
            refine ⟨_, rfl, o, _, _, rfl, g.at_, g.m4, _, rfl, b, _, _, _, rfl, rfl, SqT.of h_b, rfl, o, F b0.f, b0.c, 45, congrArg (fun x => [V.ref o, V.str (ch b0.c), V.str x]) e45, hfo2, hneed _ hb0.1, hneed 45 h45, fun H3 f3 => ⟨(by show 5 ≤ sizeLine; omega), fun q n_q => ?_⟩⟩
            have I := I.k0 f3
            have hb := hb.mono f3.t
            generalize eH_q : upd H3 q _ = H4
            have ev_q : ∀ {M : List Addr}, Fr M H3 H4 := by intro M; rw [← eH_q]; exact Fr.new n_q
            have h_q : H4 q = some (.tup ((msD F (.hyphen b0.f b0.c)).map fv)) := by rw [← eH_q]; exact upd_same
            clear eH_q
            have I := I.k0 ev_q
            have hul := I.len
            exact ⟨_, _, _, rfl, rfl, I.hl, (by omega), _, _, _, rfl, I.app _ h_q, (hb.mono (ev_q (M := [])).t).mono (Fr.put I.hl).t⟩
        · rintro σ' H3 ⟨us, v6, v7, rfl, I, hb⟩
          refine ⟨_, rfl, bx, rfl, ⟨_, SqL.of (I.fr.k0 h_bx)⟩, for_list (xs := vs) (fun j σ H' => ∃ (us : List V) (pv : V) (ms2 : List Ms) (bf2 : Option Ce) (v5 v6 v7 v8 v9 : Option V), σ = [some (.ref w), some (.ref fd), some (.ref l), some pv, some (.ref bx), v5, v6, v7, v8, v9] ∧
            (ms2, bf2) = (box.take j).foldl letM (ms ++ hypM bf, bf) ∧ RoI F l H H' ms2 us ∧ BfAt H' pv bf2 ∧ (∀ x, bf2 = some x → CeOk need x) ∧ ms2.length ≤ i + 1 + 2 * ((word.take i).flatten.length + j)) ?_ ?_ ?_ ?_⟩
          · refine ⟨us, pv, _, _, _, _, _, _, _, rfl, rfl, I, hb, hbo, ?_⟩
            rw [List.length_append]
            have : (hypM bf).length ≤ 1 := by
              cases bf with
              | none => exact Nat.zero_le _
              | some _ => exact Nat.le_refl _
            omega
          · rintro j σ H4 _ ⟨us, pv, ms2, bf2, v5, v6, v7, v8, v9, rfl, es2, I, hb, hbo, hml2⟩
            exact SqL.of (I.fr.k0 h_bx)
          · rintro j y σ H4 hj ⟨us, pv, ms2, bf2, v5, v6, v7, v8, v9, rfl, es2, I, hb, hbo, hml2⟩
            obtain ⟨d, hd, hy⟩ := hvs.get' hj
            rw [List.getElem?_map] at hd
            cases el : box[j]? with
            | none => rw [el] at hd; cases hd
            | some le =>
              rw [el] at hd
              cases hd
              have hjl := (List.getElem?_eq_some_iff.mp el).1
              have hle := hce box hbox le (List.mem_of_getElem? el)
              have hy := hy.mono I.fr.t
              obtain ⟨c, rfl, h_c⟩ := Tr.flat (id hy : Tr H4 y (.tup _)) rfl
              have et2 : (box.take (j + 1)).foldl letM (ms ++ hypM bf, bf) = letM (ms2, bf2) le := by
                rw [List.take_add_one, el]
                show (box.take j ++ [le]).foldl _ _ = _
                rw [List.foldl_append, ← es2] <;> rfl
              refine ⟨_, rfl, _, rfl, c, _, rfl, SqT.of h_c, (by show ¬ (HT.sIx 4 0 none = 0 ∧ HT.sIx 4 4 (some 3) = 4); decide), fun q n_q => ?_⟩
              generalize eH_q : upd H4 q _ = H5
              have ev_q : ∀ {M : List Addr}, Fr M H4 H5 := by intro M; rw [← eH_q]; exact Fr.new n_q
              have h_q : H5 q = some (.tup [.str (ch le.c), .int le.z, .str le.f]) := by rw [← eH_q]; exact upd_same
              clear eH_q
              have I := I.k0 ev_q
              have hb := hb.mono (ev_q (M := [])).t
              have hy := hy.mono (ev_q (M := [])).t
              obtain ⟨fk, h_fd, hfk⟩ := hF
              obtain ⟨o, eo, hfo, hneed⟩ := hfk le.f hle.2.2.2
              have h_fd2 := I.fr.k0 h_fd
              have hfo2 := hfo.k0 I.fr
              obtain ⟨H0, X, g⟩ := id hfo2
              have hul := I.len
              refine ⟨_, _, rfl, SqT.of (h_q), rfl, _, _, rfl, _, _, rfl, _, _, rfl, rfl, _, rfl, _, rfl, fd, _, rfl, dget_k (k := Sum.inr le.f) h_fd2 eo, _, rfl, Or.inl ⟨rfl, _, SqL.of I.hl⟩, _, rfl, _, rfl, _, rfl, o, _, _, rfl, g.at_, g.m1, _, rfl, o, F le.f, le.c, rfl, hfo2, hneed _ hle.1, (by show 4 ≤ sizeLine; omega), fun q2 n_q2 => ?_⟩
              generalize eH_q2 : upd H5 q2 _ = H6
              have ev_q2 : ∀ {M : List Addr}, Fr M H5 H6 := by intro M; rw [← eH_q2]; exact Fr.new n_q2
              have h_q2 : H6 q2 = some (.tup ((msD F (.letter le.f le.c)).map fv)) := by rw [← eH_q2]; exact upd_same
              clear eH_q2
              have I := I.k0 ev_q2
              have hb := hb.mono (ev_q2 (M := [])).t
              have hy := hy.mono (ev_q2 (M := [])).t
              refine ⟨_, _, _, rfl, rfl, I.hl, (by omega), ?_⟩
              have hb := hb.mono (Fr.put (o := .lst (us ++ [.ref q2])) I.hl).t
              have hy := hy.mono (Fr.put (o := .lst (us ++ [.ref q2])) I.hl).t
              have I := I.app _ h_q2
              generalize upd H6 l (.lst (us ++ [.ref q2])) = H7 at *
              refine ⟨fun σ' H' => ∃ (us : List V), σ' = [some (.ref w), some (.ref fd), some (.ref l), some pv, some (.ref bx), some (.ref c), some (.str le.f), some (.ref o), some (.str (ch le.c)), some (.int le.z)] ∧ RoI F l H H' (ms2 ++ [.letter le.f le.c] ++ pairM bf2 le) us ∧ Tr H' (.ref c) (ceD le), ?_, ?_⟩
              · cases bf2 with
                | none =>
                  cases hb
                  exact ⟨_, rfl, rfl, _, rfl, ite2 (fun hc => absurd hc (by decide)) (fun _ => ⟨us ++ [.ref q2], rfl, by rw [pairM, List.append_nil]; exact I, hy⟩)⟩
                | some b0 =>
                  obtain ⟨b, rfl, h_b⟩ := Tr.flat (hb : Tr H7 pv (.tup _)) rfl
                  have hb0 := hbo b0 rfl
                  refine ⟨_, rfl, rfl, _, rfl, ite2 (fun _ => ?_) (fun hc => (hc (by simp)).elim)⟩
                  refine ⟨_, rfl, b, _, _, _, rfl, rfl, SqT.of h_b, rfl, _, rfl, rfl, _, rfl, ite2 (fun hz1 => ?_) (fun hz1 => ?_)⟩
                  · have ez : b0.z = le.z := by
                      have h1 := of_decide_eq_true hz1
                      injection h1
                    refine ⟨_, rfl, b, _, _, _, rfl, rfl, SqT.of h_b, rfl, _, rfl, rfl, _, rfl, ite2 (fun hz2 => ?_) (fun hz2 => ?_)⟩
                    · have ef : b0.f = le.f := by
                        have h1 := of_decide_eq_true hz2
                        injection h1
                      have hfo3 := hfo.k0 I.fr
                      obtain ⟨H00, X0, g0⟩ := id hfo3
                      refine ⟨_, rfl, Or.inl ⟨rfl, _, SqL.of I.hl⟩, _, rfl, _, rfl, b, _, _, _, rfl, rfl, SqT.of h_b, rfl, _, rfl, _, rfl, o, _, _, rfl, g0.at_, g0.m4, _, rfl, b, _, _, _, rfl, rfl, SqT.of h_b, rfl, _, rfl, o, F le.f, b0.c, le.c, rfl, hfo3, hneed _ hb0.1, hneed _ hle.1, fun H8 f8 => ⟨(by show 5 ≤ sizeLine; omega), fun q3 n_q3 => ?_⟩⟩
                      have I := I.k0 f8
                      have hy := hy.mono f8.t
                      generalize eH_q3 : upd H8 q3 _ = H9
                      have ev_q3 : ∀ {M : List Addr}, Fr M H8 H9 := by intro M; rw [← eH_q3]; exact Fr.new n_q3
                      have h_q3 : H9 q3 = some (.tup ((msD F (.pair le.f b0.c le.c)).map fv)) := by rw [← eH_q3]; exact upd_same
                      clear eH_q3
                      have I := I.k0 ev_q3
                      have hul2 : (us ++ [V.ref q2]).length = ms2.length + 1 := by rw [I.len, List.length_append] <;> rfl
                      refine ⟨_, _, _, rfl, rfl, I.hl, (by omega), us ++ [.ref q2] ++ [.ref q3], rfl, ?_, (hy.mono (ev_q3 (M := [])).t).mono (Fr.put I.hl).t⟩
                      have e : pairM (some b0) le = [.pair le.f b0.c le.c] := by unfold pairM; exact if_pos ⟨ez, ef⟩
                      rw [e]
                      exact I.app _ h_q3
                    · have e : pairM (some b0) le = [] := by unfold pairM; exact if_neg (fun z => hz2 (decide_eq_true (congrArg V.str z.2)))
                      exact ⟨us ++ [.ref q2], rfl, by rw [e, List.append_nil]; exact I, hy⟩
                  · have e : pairM (some b0) le = [] := by unfold pairM; exact if_neg (fun z => hz1 (decide_eq_true (congrArg V.int z.1)))
                    exact ⟨us ++ [.ref q2], rfl, by rw [e, List.append_nil]; exact I, hy⟩
              · rintro σ' H8 ⟨us, rfl, I, hy⟩
                refine ⟨_, rfl, us, .ref c, _, some le, _, _, _, _, _, rfl, by rw [et2] <;> rfl, I, hy, fun x hx => by cases hx; exact hle, ?_⟩
                rw [List.length_append, List.length_append]
                have h1 : (pairM bf2 le).length ≤ 1 := by
                  unfold pairM
                  cases bf2 with
                  | none => exact Nat.zero_le _
                  | some b =>
                    show (if b.z = le.z ∧ b.f = le.f then [Ms.pair le.f b.c le.c] else []).length ≤ 1
                    split
                    · exact Nat.le_refl _
                    · exact Nat.zero_le _
                have h2 : [Ms.letter le.f le.c].length = 1 := rfl
                omega
          · rintro σ H4 ⟨us, pv, ms2, bf2, v5, v6, v7, v8, v9, rfl, es2, I, hb, hbo, hml2⟩
            rw [List.take_of_length_le (by omega)] at es2
            exact ⟨us, pv, ms2, bf2, _, _, _, _, _, _, rfl, by rw [et]; exact es2, I, hb, hbo, by rw [efl]; omega⟩
    · rintro σ H2 ⟨us, pv, ms, bf, v4, v5, v6, v7, v8, v9, rfl, es, I, hb, hbo, hml⟩
      rw [List.length_map, List.take_of_length_le (by omega)] at es hml
      have em : ms = msF word := by unfold msF; rw [← es]
      subst em
      exact ⟨_, rfl, k l us H2 l0 I.hl I.t (by rw [I.len]; omega) I.fr⟩
end

end K45

set_option maxHeartbeats 4000000
namespace K45
open PySem PySem.Spec PyProof.Rows L2
section
variable {P : Program} {w : World} {K : PySem.W.Frag} {mg : Str → Option Value} {base : Heap}
theorem paired_fwd {α β : Type} {R : α → β → Prop} : ∀ {l : List α} {m : List β}, Paired R l m → ∀ a ∈ l, ∃ b ∈ m, R a b
  | _, _, .nil, b, h => by cases h
  | _, _, .cons f r, b, h => by
    rcases List.mem_cons.mp h with rfl | h
    · exact ⟨_, List.mem_cons_self, f⟩
    · obtain ⟨a, h1, h2⟩ := paired_fwd r b h
      exact ⟨a, List.mem_cons_of_mem _ h1, h2⟩
theorem paired_bwd {α β : Type} {R : α → β → Prop} : ∀ {l : List α} {m : List β}, Paired R l m → ∀ b ∈ m, ∃ a ∈ l, R a b
  | _, _, .nil, b, h => by cases h
  | _, _, .cons f r, b, h => by
    rcases List.mem_cons.mp h with rfl | h
    · exact ⟨_, List.mem_cons_self, f⟩
    · obtain ⟨a, h1, h2⟩ := paired_bwd r b h
      exact ⟨a, List.mem_cons_of_mem _ h1, h2⟩
theorem fv_inj : ∀ {ds es : List Dt}, ds.all isF = true → es.all isF = true → ds.map fv = es.map fv → ds = es
  | [], [], _, _, _ => rfl
  | [], _ :: _, _, _, h => by cases h
  | _ :: _, [], _, _, h => by cases h
  | d :: ds, e :: es, h1, h2, h => by
    rw [List.all_cons, Bool.and_eq_true] at h1 h2
    rw [List.map_cons, List.map_cons] at h
    injection h with ha hb
    rw [fv_inj h1.2 h2.2 hb]
    congr 1
    cases d with
    | int i => cases e with
      | int j => injection ha with ha; rw [ha]
      | str y => cases ha
      | tup _ => exact absurd h2.1 (by simp [isF])
    | str x => cases e with
      | int j => cases ha
      | str y => injection ha with ha; rw [ha]
      | tup _ => exact absurd h2.1 (by simp [isF])
    | tup _ => exact absurd h1.1 (by simp [isF])
/-- the rows found -/
structure FoI (F : Fcs) (d : Addr) (H0 : Hp) (n : Nat) (H : Hp) (kvs : List (List L2.Key × V)) (done : List Ms) : Prop where
  hd : H d = some (.dT kvs)
  ks : ∀ kv ∈ kvs, ∃ m, kv.1 = keyM F m
  got : ∀ m ∈ done, ∃ v, valV kvs (keyM F m) = some v
  len : kvs.length ≤ n
  fr : Fr [] H0 H
  n0 : H0 d = none
theorem FoI.k0 {F : Fcs} {d : Addr} {H0 H H' : Hp} {n : Nat} {kvs : List (List L2.Key × V)} {done : List Ms} (I : FoI F d H0 n H kvs done) (f : Fr [] H H') : FoI F d H0 n H' kvs done := ⟨f.k0 I.hd, I.ks, I.got, I.len, I.fr.t0 f, I.n0⟩
theorem FoI.le {F : Fcs} {d : Addr} {H0 H : Hp} {n m : Nat} {kvs : List (List L2.Key × V)} {done : List Ms} (I : FoI F d H0 n H kvs done) (h : n ≤ m) : FoI F d H0 m H kvs done := ⟨I.hd, I.ks, I.got, Nat.le_trans I.len h, I.fr, I.n0⟩
theorem FoI.put {F : Fcs} {d : Addr} {H0 H : Hp} {n : Nat} {kvs : List (List L2.Key × V)} {done : List Ms} (I : FoI F d H0 n H kvs done) (m : Ms) (v : V) : FoI F d H0 (n + 1) (upd H d (.dT (putK kvs (keyM F m) v))) (putK kvs (keyM F m) v) (done ++ [m]) := by
  refine ⟨upd_same, fun kv hkv => ?_, fun x hx => ?_, Nat.le_trans (length_putK _ _ _) (Nat.succ_le_succ I.len), I.fr.t1 (Fr.put I.hd) (.inr I.n0), I.n0⟩
  · rcases mem_putK hkv with e | e
    · exact ⟨m, by rw [e]⟩
    · exact I.ks kv e
  · rw [valV_put]
    by_cases z : keyM F x = keyM F m
    · exact ⟨v, by rw [if_pos z]⟩
    · rw [if_neg z]
      rcases List.mem_append.mp hx with h | h
      · exact I.got x h
      · rw [List.mem_singleton.mp h] at z
        exact (z rfl).elim
theorem trs_rows {F : Fcs} {H : Hp} : ∀ {ys : List V}, (∀ y ∈ ys, ∃ b m, y = .ref b ∧ H b = some (.tup ((msD F m).map fv))) → ∃ ds : List Dt, Trs H ys ds ∧ (∀ d ∈ ds, ∃ m, d = msT F m) ∧ ds.length = ys.length ∧ ∀ b m, V.ref b ∈ ys → H b = some (.tup ((msD F m).map fv)) → msT F m ∈ ds
  | [], _ => ⟨[], .nil, (fun d h => by cases h), rfl, fun b m h => by cases h⟩
  | y :: ys, h => by
    obtain ⟨ds, h1, h2, h3, h4⟩ := trs_rows (ys := ys) fun x hx => h x (List.mem_cons_of_mem _ hx)
    obtain ⟨b, m, rfl, hb⟩ := h y List.mem_cons_self
    refine ⟨msT F m :: ds, .cons (Tr.of_flat hb (msD_flat F m)) h1, fun d hd => ?_, by rw [List.length_cons, List.length_cons, h3], fun b2 m2 hm hb2 => ?_⟩
    · rcases List.mem_cons.mp hd with rfl | hd
      · exact ⟨m, rfl⟩
      · exact h2 d hd
    · rcases List.mem_cons.mp hm with e | hm
      · injection e with e
        rw [e, hb] at hb2
        injection hb2 with hb2
        injection hb2 with hb2
        have := fv_inj (msD_flat F m) (msD_flat F m2) hb2
        unfold msT
        rw [this]
        exact List.mem_cons_self
      · exact List.mem_cons_of_mem _ (h4 b2 m2 hm hb2)
theorem snoc_split {α : Type} (ws : List (List α)) {i : Nat} {w : List α} (h : ws[i]? = some w) : (ws.take (i + 1)).flatten = (ws.take i).flatten ++ w := by
  rw [List.take_add_one, h]
  show (ws.take i ++ [w]).flatten = _
  simp
theorem take_flat' {α : Type} (ws : List (List α)) (i : Nat) : (ws.take i).flatten.length ≤ ws.flatten.length := by
  have : ws.flatten = (ws.take i).flatten ++ (ws.drop i).flatten := by rw [← List.flatten_append, List.take_append_drop]
  rw [this, List.length_append]
  omega
theorem take_flat2 {α : Type} (ws : List (List (List α))) (i : Nat) : (ws.take i).flatten.flatten.length ≤ ws.flatten.flatten.length := by
  have : ws.flatten = (ws.take i).flatten ++ (ws.drop i).flatten := by rw [← List.flatten_append, List.take_append_drop]
  rw [this, List.flatten_append, List.length_append]
  omega
abbrev s_meas : Stmt := top 4
abbrev N_meas : List Str := ["resolved", "faces", "words", "spaces", "found", "word", "row", "space", "name", "width", "stretch", "shrink"]
theorem sc_meas : FnScope ["resolved", "faces", "words", "spaces", "found", "word", "row", "space", "name", "width", "stretch", "shrink"] ["resolved", "faces"] (defScope s_meas) := ⟨rfl, rfl, rfl, by decide +kernel, rfl, by decide +kernel, by decide +kernel⟩
theorem c_meas (F : Df K mg "measures_of" s_meas) (G : Gn mg) {CS CI CF : Addr} (pp_space : Prp P w K mg base 1 CF "space" (spFspace CF)) (c_words_of : C8.Cal P w K mg base 1 "words_of" spWords []) (c_word_measures : C8.Cal P w K mg base 5 "word_measures" (spWmeas K CF) []) : C8.Cal P w K mg base 6 "measures_of" (spMeas K CF) [] := by
  refine cal_by F sc_meas (fun _ _ _ _ _ _ us hl => match us, hl with | [_, _], _ => rfl) (fun vs H Q E h => ?_) (fun f cdv A outer s H vs Q E hr h => ?_)
  · obtain ⟨v, fd, rs, F, need, rfl, _⟩ := h
    rfl
  · obtain ⟨v, fd, rs, F, need, rfl, hv, hrl, hok, hin, h45, hF, k⟩ := h
    have sc := sc_meas
    have hu := hu_of hr
    refine ⟨_, (pss_cons (ps_asg (C8.pe_c c_words_of hr (by decide) rfl (pa_cons (pv 0) pa_nil)) (pg_tup rfl (pgs_cons (pg_name (i := 2) sc.nd rfl (Or.inl rfl)) (pgs_cons (pg_name (i := 3) sc.nd rfl (Or.inl rfl)) pgs_nil))))
      (pss_cons (ps_set (i := 4) sc.nd rfl (Or.inl rfl) pe_dnewT)
      (pss_cons (ps_for PassesOwn.never rfl (pi_list (pv 2)) (pg_name (i := 5) sc.nd rfl (Or.inl rfl))
        (pss_one (ps_for PassesOwn.never rfl (pi_list (C8.pe_c c_word_measures hr (by decide) rfl (pa_cons (pv 5) (pa_cons (pv 1) pa_nil)))) (pg_name (i := 6) sc.nd rfl (Or.inl rfl))
          (pss_one (ps_dput hu (pv 4) (pv 6) pe_bl rfl)))))
      (pss_cons (ps_for PassesOwn.never rfl (pi_list (pv 3)) (pg_name (i := 7) sc.nd rfl (Or.inl rfl))
        (pss_cons (ps_set (i := 8) sc.nd rfl (Or.inl rfl) (pe_ix ix_tup (pv 7) pe_int (fun _ _ => rfl)))
        (pss_cons (ps_asg (pe_prp pp_space hr (by decide) (pe_dget hu (pv 1) (pv 8) (fun _ _ => rfl)) rfl) (pg_tup rfl (pgs_cons (pg_name (i := 9) sc.nd rfl (Or.inl rfl)) (pgs_cons (pg_name (i := 10) sc.nd rfl (Or.inl rfl)) (pgs_cons (pg_name (i := 11) sc.nd rfl (Or.inl rfl)) pgs_nil)))))
        (pss_one (ps_dput hu (pv 4) (pe_tup (pa_cons pe_str (pa_cons (pv 8) (pa_cons (pv 9) (pa_cons (pv 10) (pa_cons (pv 11) pa_nil)))))) pe_bl rfl)))))
      (pss_one (ps_ret (pe_callTy call_tuple_of rfl G.n_tuple (by decide +kernel) (pa_cons (pe_callB cr_sortedM rfl G.n_sorted (by decide +kernel) (pa_cons (pe_callTy (call_list_dT rfl) rfl G.n_list (by decide +kernel) (pa_cons (pv 4) pa_nil)) pa_nil)) pa_nil)))))))), ?_⟩
    have hz := big
    refine ⟨_, rfl, v, rs, rfl, hv, hrl, hok, fun t wa sa L ss H1 h_t h_wa hW h_sa hS hshort hwin f1 => ?_⟩
    refine ⟨_, _, rfl, SqT.of (h_t), rfl, _, _, rfl, _, _, rfl, rfl, ?_⟩
    have hflat := words_flat rs
    have hce := lets_ok hok hin
    have hsp := words_sp hok
    have hll : (lets rs).length ≤ 10000 := by
      have := lets_len rs.zipIdx (fun x hx => hok _ (mem_zip hx))
      rw [List.length_zipIdx] at this
      exact Nat.le_trans this (by omega)
    rw [← hflat] at hce hll
    have hbl := boxes_le hwin.c
    generalize hws : (wordsF rs).ws = ws at *
    generalize hsps : (wordsF rs).sp = sps at *
    intro d n_d
    have d0 := f1.d _ n_d
    generalize eH_d : upd H1 d _ = H2
    have ev_d : ∀ {M : List Addr}, Fr M H1 H2 := by intro M; rw [← eH_d]; exact Fr.new n_d
    have h_d : H2 d = some (.dT []) := by rw [← eH_d]; exact upd_same
    clear eH_d
    have f2 : Fr [] H1 H2 := ev_d
    have hLl : L.length = ws.length := hW.len
    have I : FoI F d H1 0 H2 [] [] := ⟨h_d, (fun kv h => by cases h), (fun m h => by cases h), Nat.le_refl _, f2, n_d⟩
    refine ⟨_, rfl, wa, rfl, ⟨_, SqL.of (f2.k0 h_wa)⟩, for_list (xs := heads L) (fun i σ H' => ∃ (kvs : List (List L2.Key × V)) (v5 v6 : Option V), σ = [some v, some (.ref fd), some (.ref wa), some (.ref sa), some (.ref d), v5, v6, none, none, none, none, none] ∧
      FoI F d H1 ((ws.take i).flatten.length + 2 * (ws.take i).flatten.flatten.length) H' kvs ((ws.take i).map msF).flatten) ?_ ?_ ?_ ?_⟩
    · exact ⟨[], _, _, rfl, I.le (Nat.zero_le _)⟩
    · rintro i σ H3 _ ⟨kvs, v5, v6, rfl, I⟩
      exact SqL.of (I.fr.k0 h_wa)
    · rintro i x σ H3 hi ⟨kvs, v5, v6, rfl, I⟩
      have hil : i < ws.length := by
        have := (List.getElem?_eq_some_iff.mp hi).1
        unfold heads at this
        rw [List.length_map] at this
        omega
      obtain ⟨word, ew, hwm⟩ := get_of hil
      obtain ⟨wx, bs, e1, h_wx, hrows⟩ := hW.get ew
      rw [hi] at e1
      cases e1
      have s1 := snoc_split ws ew
      have l1 := take_flat' ws (i + 1)
      have l2 := take_flat2 ws (i + 1)
      have s2 : (ws.take (i + 1)).flatten.flatten.length = (ws.take i).flatten.flatten.length + word.flatten.length := by rw [s1, List.flatten_append, List.length_append]
      have s3 : (ws.take (i + 1)).flatten.length = (ws.take i).flatten.length + word.length := by rw [s1, List.length_append]
      have em : ((ws.take (i + 1)).map msF).flatten = ((ws.take i).map msF).flatten ++ msF word := by
        rw [List.take_add_one, ew]
        show ((ws.take i ++ [word]).map msF).flatten = _
        simp
      refine ⟨_, rfl, _, rfl, wx, fd, bs, word, F, need, rfl, I.fr.k0 h_wx, hrows.k0 I.fr, fun b hb l hl => hce l (List.mem_flatten.mpr ⟨b, List.mem_flatten.mpr ⟨word, hwm, hb⟩, hl⟩), h45, (hF.k0 f1).k0 I.fr, by omega, by omega, fun l us H4 n_l h_l hT hul f4 => ?_⟩
      have I := I.k0 f4
      have hull : us.length = (msF word).length := by rw [hT.length, List.length_map]
      have ld := ne_of h_l I.hd (by intro z; cases z)
      refine ⟨l, rfl, ⟨_, SqL.of h_l⟩, for_list (xs := us) (fun j σ H' => ∃ (kvs : List (List L2.Key × V)) (v6 : Option V), σ = [some v, some (.ref fd), some (.ref wa), some (.ref sa), some (.ref d), some (.ref wx), v6, none, none, none, none, none] ∧
        FoI F d H1 ((ws.take i).flatten.length + 2 * (ws.take i).flatten.flatten.length + j) H' kvs (((ws.take i).map msF).flatten ++ (msF word).take j) ∧ H' l = some (.lst us) ∧ Trs H' us ((msF word).map (msT F))) ?_ ?_ ?_ ?_⟩
      · exact ⟨kvs, _, rfl, by rw [List.take_zero, List.append_nil]; exact I, h_l, hT⟩
      · rintro j σ H5 _ ⟨kvs, v6, rfl, I, h_l, hT⟩
        exact SqL.of h_l
      · rintro j y σ H5 hj ⟨kvs, v6, rfl, I, h_l, hT⟩
        obtain ⟨dt, hdt, hy⟩ := hT.get' hj
        rw [List.getElem?_map] at hdt
        cases emj : (msF word)[j]? with
        | none => rw [emj] at hdt; cases hdt
        | some m =>
          rw [emj] at hdt
          cases hdt
          have hjl := (List.getElem?_eq_some_iff.mp emj).1
          obtain ⟨b, rfl, hb⟩ := Tr.flat (hy : Tr H5 y (.tup (msD F m))) (msD_flat F m)
          rw [msD_key] at hb
          have hkl := I.len
          refine ⟨_, rfl, _, rfl, d, _, rfl, DPut.t (k := keyM F m) I.hd hb (by omega), putK kvs (keyM F m) (.bl true), _, rfl, ?_, (Fr.put I.hd).k1 h_l ld, hT.mono (Fr.put I.hd).t⟩
          have e : (msF word).take (j + 1) = (msF word).take j ++ [m] := by rw [List.take_add_one, emj] <;> rfl
          rw [e, ← List.append_assoc]
          exact I.put m _
      · rintro σ H5 ⟨kvs, v6, rfl, I, h_l, hT⟩
        rw [show (msF word).take us.length = msF word from List.take_of_length_le (by omega), ← em] at I
        exact ⟨kvs, _, _, rfl, I.le (by omega)⟩
    · rintro σ H3 ⟨kvs, v5, v6, rfl, I⟩
      have hhl : (heads L).length = ws.length := by unfold heads; rw [List.length_map, hLl]
      rw [hhl, List.take_of_length_le (Nat.le_refl _)] at I
      have hssl : ss.length = sps.length := by rw [hS.length, List.length_map]
      have hspl : sps.length ≤ 10000 := by
        have := hshort.2.1
        rwa [hsps] at this
      refine ⟨_, rfl, sa, rfl, ⟨_, SqL.of (I.fr.k0 h_sa)⟩, for_list (xs := ss) (fun i σ H' => ∃ (kvs : List (List L2.Key × V)) (v7 v8 v9 v10 v11 : Option V), σ = [some v, some (.ref fd), some (.ref wa), some (.ref sa), some (.ref d), v5, v6, v7, v8, v9, v10, v11] ∧
        FoI F d H1 (30000 + i) H' kvs ((ws.map msF).flatten ++ (sps.take i).map fun x => Ms.space x.2)) ?_ ?_ ?_ ?_⟩
      · exact ⟨kvs, _, _, _, _, _, rfl, by rw [List.take_zero, List.map_nil, List.append_nil]; exact I.le (by omega)⟩
      · rintro i σ H4 _ ⟨kvs, v7, v8, v9, v10, v11, rfl, I⟩
        exact SqL.of (I.fr.k0 h_sa)
      · rintro i y σ H4 hi ⟨kvs, v7, v8, v9, v10, v11, rfl, I⟩
        obtain ⟨dt, hdt, hy⟩ := hS.get' hi
        rw [List.getElem?_map] at hdt
        cases es : sps[i]? with
        | none => rw [es] at hdt; cases hdt
        | some x =>
          rw [es] at hdt
          cases hdt
          have hil := (List.getElem?_eq_some_iff.mp es).1
          have hy := hy.mono I.fr.t
          obtain ⟨b, rfl, hb⟩ := Tr.flat (hy : Tr H4 y (.tup _)) rfl
          have hxn : FaceN x.2 := (hsp.ok x (by rw [hsps]; exact List.mem_of_getElem? es)).2.2
          obtain ⟨fk, h_fd, hfk⟩ := (hF.k0 f1).k0 I.fr
          obtain ⟨o, eo, hfo, hneed⟩ := hfk x.2 hxn
          obtain ⟨H0, X, g⟩ := id hfo
          refine ⟨_, rfl, b, _, _, _, rfl, rfl, SqT.of hb, rfl, _, rfl, _, rfl, fd, _, rfl, dget_k (k := Sum.inr x.2) h_fd eo, o, _, _, rfl, g.at_, o, F x.2, rfl, hfo, fun sn h_sn => ?_⟩
          refine ⟨_, _, rfl, SqT.of (h_sn), rfl, _, _, rfl, _, _, rfl, _, _, rfl, rfl, _, rfl, _, rfl, _, rfl, _, rfl, _, rfl, (by show 5 ≤ sizeLine; omega), fun q n_q => ?_⟩
          generalize eH_q : upd H4 q _ = H5
          have ev_q : ∀ {M : List Addr}, Fr M H4 H5 := by intro M; rw [← eH_q]; exact Fr.new n_q
          have h_q : H5 q = some (.tup ((keyM F (.space x.2)).map kV)) := by rw [← eH_q]; exact upd_same
          clear eH_q
          have I := I.k0 ev_q
          have hkl := I.len
          refine ⟨d, _, rfl, DPut.t (k := keyM F (.space x.2)) I.hd h_q (by omega), putK kvs (keyM F (.space x.2)) (.bl true), _, _, _, _, _, rfl, ?_⟩
          have e : (sps.take (i + 1)).map (fun x => Ms.space x.2) = (sps.take i).map (fun x => Ms.space x.2) ++ [.space x.2] := by
            rw [List.take_add_one, es, List.map_append] <;> rfl
          rw [e, ← List.append_assoc]
          exact I.put (.space x.2) _
      · rintro σ H4 ⟨kvs, v7, v8, v9, v10, v11, rfl, I⟩
        rw [hssl, List.take_of_length_le (Nat.le_refl _)] at I
        have hkl := I.len
        refine ⟨_, rfl, d, kvs, rfl, Rd.of I.hd, fun p bs n_p hbs => ?_⟩
        have hbsl : bs.length = kvs.length := (Paired.length hbs).symm
        generalize eH_p : upd H4 p _ = H5
        have ev_p : ∀ {M : List Addr}, Fr M H4 H5 := by intro M; rw [← eH_p]; exact Fr.new n_p
        have h_p : H5 p = some (.lst (bs.map V.ref)) := by rw [← eH_p]; exact upd_same
        clear eH_p
        have hrow : ∀ y ∈ bs.map V.ref, ∃ b m, y = V.ref b ∧ H4 b = some (.tup ((msD F m).map fv)) := fun y hy => by
          obtain ⟨b, hb, rfl⟩ := List.mem_map.mp hy
          obtain ⟨kv, hkv, e⟩ := paired_bwd hbs b hb
          obtain ⟨m, em⟩ := I.ks kv hkv
          rw [em, ← msD_key] at e
          exact ⟨b, m, rfl, e⟩
        refine ⟨p, _, rfl, SqL.of h_p, fun x hx => ?_, fun ys p2 hys n_p2 => ?_⟩
        · obtain ⟨b, m, e, hb⟩ := hrow x hx
          exact ⟨b, msD F m, e, (ev_p (M := [])).k0 hb, msD_mix F m⟩
        generalize eH_p2 : upd H5 p2 _ = H6
        have ev_p2 : ∀ {M : List Addr}, Fr M H5 H6 := by intro M; rw [← eH_p2]; exact Fr.new n_p2
        have h_p2 : H6 p2 = some (.lst ys) := by rw [← eH_p2]; exact upd_same
        clear eH_p2
        refine ⟨p2, _, rfl, Or.inl ⟨SqL.of h_p2, fun q n_q => ?_⟩⟩
        generalize eH_q : upd H6 q _ = H7
        have ev_q : ∀ {M : List Addr}, Fr M H6 H7 := by intro M; rw [← eH_q]; exact Fr.new n_q
        have h_q : H7 q = some (.tup ys) := by rw [← eH_q]; exact upd_same
        clear eH_q
        have f7 : Fr [] H4 H7 := ((ev_p (M := [])).t0 ev_p2).t0 ev_q
        obtain ⟨ds, t1, t2, t3, t4⟩ := trs_rows (F := F) (H := H7) (ys := ys) fun y hy => by
          obtain ⟨b, m, e, hb⟩ := hrow y (hys.mem_iff.mp hy)
          exact ⟨b, m, e, f7.k0 hb⟩
        have got : ∀ m ∈ (ws.map msF).flatten ++ sps.map (fun x => Ms.space x.2), msT F m ∈ ds := fun m hm => by
          obtain ⟨v, hv⟩ := I.got m hm
          obtain ⟨b, hb, e⟩ := paired_fwd hbs _ (valV_mem hv)
          have e' : H4 b = some (.tup ((keyM F m).map kV)) := e
          rw [← msD_key] at e'
          exact t4 b m (hys.mem_iff.mpr (List.mem_map.mpr ⟨b, hb, rfl⟩)) (f7.k0 e')
        refine k (.ref q) ds H7 (.tup h_q t1) t2 (fun w hw m hm => got m ?_) (fun x hx => got _ ?_) (by rw [t3, hys.length_eq, List.length_map]; omega) ((f1.t0 I.fr).t0 f7)
        · exact List.mem_append_left _ (List.mem_flatten.mpr ⟨msF w, List.mem_map.mpr ⟨w, hw, rfl⟩, hm⟩)
        · exact List.mem_append_right _ (List.mem_map.mpr ⟨x, hx, rfl⟩)
end

end K45

set_option maxHeartbeats 4000000
namespace K45
open PySem PySem.Spec PyProof.Rows L2
/-! ### the scale -/
structure ScaleX where
  dx : Addr
  fs : List (Str × V)
  a1 : Addr
  a2 : Addr
  a3 : Addr
  a4 : Addr
  k1 : List (List L2.Key × V)
  k2 : List (List L2.Key × V)
  k3 : List (List L2.Key × V)
  k4 : List (L2.Key × V)
structure ScaleG (H : Hp) (CS o : Addr) (F : Fcs) (P : Ms → Prop) (X : ScaleX) : Prop where
  at_ : H o = some (.ins CS X.dx X.fs)
  f1 : X.fs.lookup ("advances" : Str) = some (.ref X.a1)
  f2 : X.fs.lookup ("amounts" : Str) = some (.ref X.a2)
  f3 : X.fs.lookup ("hyphens" : Str) = some (.ref X.a3)
  f4 : X.fs.lookup ("space_table" : Str) = some (.ref X.a4)
  m1 : X.fs.lookup ("letter_width" : Str) = none
  m2 : X.fs.lookup ("overlap" : Str) = none
  m3 : X.fs.lookup ("hyphen_joint" : Str) = none
  m4 : X.fs.lookup ("gap_joint" : Str) = none
  d1 : H X.a1 = some (.dT X.k1)
  d2 : H X.a2 = some (.dT X.k2)
  d3 : H X.a3 = some (.dT X.k3)
  d4 : H X.a4 = some (.dK X.k4)
  p1 : ∀ f c, P (.letter f c) → valV X.k1 [.inr f, .inr (ch c)] = some (.int ((F f).adv c))
  p2 : ∀ f a b, P (.pair f a b) → valV X.k2 [.inr f, .inr (ch a), .inr (ch b)] = some (.int (nearF (F f) a b))
  p3 : ∀ f a, P (.hyphen f a) → ∃ b, valV X.k3 [.inr f, .inr (ch a)] = some (.ref b) ∧ H b = some (.tup [.int ((F f).adv 45), .int (nearF (F f) a 45)])
  p4 : ∀ f, P (.space f) → ∃ b, valV X.k4 (.inr f) = some (.ref b) ∧ H b = some (.tup [.int (F f).sp.1, .int (F f).sp.2.1, .int (F f).sp.2.2])
theorem ScaleG.k0 {H H' : Hp} {CS o : Addr} {F : Fcs} {P : Ms → Prop} {X : ScaleX} (g : ScaleG H CS o F P X) (f : Fr [] H H') : ScaleG H' CS o F P X :=
  ⟨f.k0 g.at_, g.f1, g.f2, g.f3, g.f4, g.m1, g.m2, g.m3, g.m4, f.k0 g.d1, f.k0 g.d2, f.k0 g.d3, f.k0 g.d4, g.p1, g.p2, fun x a h => let ⟨b, h1, h2⟩ := g.p3 x a h; ⟨b, h1, f.k0 h2⟩, fun x h => let ⟨b, h1, h2⟩ := g.p4 x h; ⟨b, h1, f.k0 h2⟩⟩
def ScaleAt (H : Hp) (CS o : Addr) (F : Fcs) (P : Ms → Prop) : Prop := ∃ X, ScaleG H CS o F P X
theorem ScaleAt.k0 {H H' : Hp} {CS o : Addr} {F : Fcs} {P : Ms → Prop} (g : ScaleAt H CS o F P) (f : Fr [] H H') : ScaleAt H' CS o F P := let ⟨X, g⟩ := g; ⟨X, g.k0 f⟩
def spScale (CS : Addr) : Sp := fun vs H Q _ => ∃ (o dx : Addr) (v : V) (ds : List Dt) (F : Fcs), vs = [.ref o, v] ∧ H o = some (.ins CS dx []) ∧ Tr H v (.tup ds) ∧ (∀ d ∈ ds, ∃ m, d = msT F m) ∧ ds.length ≤ 500000 ∧ ∀ H' : Hp, ScaleAt H' CS o F (fun m => msT F m ∈ ds) → Fr [o] H H' → Q .non H'
def ovF (F : Fcs) (b l : Ce) : Int := if b.z = l.z ∧ b.f = l.f then b.z * nearF (F b.f) b.c l.c else 0
def OvOk (P : Ms → Prop) (b l : Ce) : Prop := b.z = l.z ∧ b.f = l.f → P (.pair l.f b.c l.c)
def Sz (l : Ce) : Prop := SzOk l.z l.f
def spLwidth (CS : Addr) : Sp := fun vs H Q _ => ∃ (o : Addr) (v : V) (l : Ce) (F : Fcs) (P : Ms → Prop), vs = [.ref o, v] ∧ ScaleAt H CS o F P ∧ Tr H v (ceD l) ∧ Sz l ∧ P (.letter l.f l.c) ∧ ∀ H' : Hp, Fr [] H H' → Q (.int (l.z * (F l.f).adv l.c)) H'
def spOverlap (CS : Addr) : Sp := fun vs H Q _ => ∃ (o : Addr) (v u : V) (b l : Ce) (F : Fcs) (P : Ms → Prop), vs = [.ref o, v, u] ∧ ScaleAt H CS o F P ∧ Tr H v (ceD b) ∧ Tr H u (ceD l) ∧ Sz b ∧ OvOk P b l ∧ ∀ H' : Hp, Fr [] H H' → Q (.int (ovF F b l)) H'
inductive Jt where
  | gap (a b c : Int) | hyp (w o m z : Int) (f : Str)
def jtD : Jt → Dt
  | .gap a b c => .tup [.str "gap", .int a, .int b, .int c]
  | .hyp w o m z f => .tup [.str "hyphen", .int w, .int o, .tup [.str "-", .int m, .int z, .str f]]
def hypJ (F : Fcs) (b l : Ce) : Jt := .hyp (b.z * ((F b.f).adv 45 - nearF (F b.f) b.c 45)) (ovF F b l) (-b.z * nearF (F b.f) b.c 45) b.z b.f
def gapJ (F : Fcs) (x : Sps) : Jt := .gap (x.1 * (F x.2).sp.1) (x.1 * (F x.2).sp.2.1) (x.1 * (F x.2).sp.2.2)
def spHjoint (CS : Addr) : Sp := fun vs H Q _ => ∃ (o : Addr) (v u : V) (b l : Ce) (F : Fcs) (P : Ms → Prop), vs = [.ref o, v, u] ∧ ScaleAt H CS o F P ∧ Tr H v (ceD b) ∧ Tr H u (ceD l) ∧ Sz b ∧ OvOk P b l ∧ P (.hyphen b.f b.c) ∧ ∀ (w : V) (H' : Hp), Tr H' w (jtD (hypJ F b l)) → Fr [] H H' → Q w H'
def spGjoint (CS : Addr) : Sp := fun vs H Q _ => ∃ (o : Addr) (v : V) (x : Sps) (F : Fcs) (P : Ms → Prop), vs = [.ref o, v] ∧ ScaleAt H CS o F P ∧ Tr H v (spD x) ∧ P (.space x.2) ∧ (1 ≤ x.1 ∧ x.1 ≤ 12) ∧ ∀ (w : V) (H' : Hp), Tr H' w (jtD (gapJ F x)) → Fr [] H H' → Q w H'
/-! ### letters placed -/
structure PL where
  c : Nat
  off : Int
  z : Int
  f : Str
def plD (x : PL) : Dt := .tup [.str (ch x.c), .int x.off, .int x.z, .str x.f]
def offF (F : Fcs) (e : Int) (b : Option Ce) (l : Ce) : Int :=
  match b with
  | some b => e - ovF F b l
  | none => 0
def plStep (F : Fcs) (st : List PL × Int × Option Ce) (l : Ce) : List PL × Int × Option Ce :=
  (st.1 ++ [⟨l.c, offF F st.2.1 st.2.2 l, l.z, l.f⟩], offF F st.2.1 st.2.2 l + l.z * (F l.f).adv l.c, some l)
def plF (F : Fcs) (box : List Ce) : List PL × Int × Option Ce := box.foldl (plStep F) ([], 0, none)
/-- what the letters of a box need of the measures -/
def BoxP (P : Ms → Prop) (box : List Ce) : Prop := (∀ l ∈ box, P (.letter l.f l.c) ∧ Sz l) ∧ ∀ (i : Nat) (a b : Ce), box[i]? = some a → box[i + 1]? = some b → OvOk P a b
def placedD (F : Fcs) (box : List Ce) : Dt := .tup [.int (plF F box).2.1, .tup ((plF F box).1.map plD)]
def spPlaced (CS : Addr) : Sp := fun vs H Q _ => ∃ (b o : Addr) (us : List V) (box : List Ce) (F : Fcs) (P : Ms → Prop), vs = [.ref b, .ref o] ∧ H b = some (.lst us) ∧ Trs H us (box.map ceD) ∧ ScaleAt H CS o F P ∧ BoxP P box ∧ box.length ≤ 10000 ∧ ∀ (w : V) (H' : Hp), Tr H' w (placedD F box) → Fr [] H H' → Q w H'
/-! ### joints -/
instance : Inhabited Ce := ⟨⟨0, 0, "", 0⟩⟩
def lastC (b : List Ce) : Ce := b.getLast?.getD default
def headC (b : List Ce) : Ce := b.head?.getD default
def wordJ (F : Fcs) (w : List (List Ce)) : List Jt := (List.range (w.length - 1)).map fun k => hypJ F (lastC (w.getD k [])) (headC (w.getD (k + 1) []))
def jAt (F : Fcs) (ws : List (List (List Ce))) (sp : List Sps) (i : Nat) : List Jt := (if i = 0 then [] else [gapJ F (sp.getD (i - 1) (0, ""))]) ++ wordJ F (ws.getD i [])
def jointsF (F : Fcs) (ws : List (List (List Ce))) (sp : List Sps) : List Jt := ((List.range ws.length).map (jAt F ws sp)).flatten
def WordP (P : Ms → Prop) (w : List (List Ce)) : Prop := ∀ (k : Nat) (a b : List Ce), w[k]? = some a → w[k + 1]? = some b → P (.hyphen (lastC a).f (lastC a).c) ∧ OvOk P (lastC a) (headC b)
def spJoints (CS : Addr) : Sp := fun vs H Q _ => ∃ (wa sa o : Addr) (L : Lay) (ss : List V) (ws : List (List (List Ce))) (sp : List Sps) (F : Fcs) (P : Ms → Prop), vs = [.ref wa, .ref sa, .ref o] ∧ H wa = some (.lst (heads L)) ∧ WordsAt H L ws ∧ H sa = some (.lst ss) ∧ Trs H ss (sp.map spD) ∧ ScaleAt H CS o F P ∧
  (∀ w ∈ ws, w ≠ [] ∧ ∀ x ∈ w, x ≠ [] ∧ ∀ l ∈ x, Sz l) ∧ (sp.length + 1 = ws.length ∨ (ws = [] ∧ sp = [])) ∧ (∀ w ∈ ws, WordP P w) ∧ (∀ x ∈ sp, P (.space x.2) ∧ 1 ≤ x.1 ∧ x.1 ≤ 12) ∧ ws.flatten.length ≤ 10000 ∧ ws.length ≤ 10000 ∧
  ∀ (w : V) (H' : Hp), Tr H' w (.tup ((jointsF F ws sp).map jtD)) → Fr [] H H' → Q w H'
/-! ### marks -/
abbrev FL : Type := (Nat → Option Nat) × (Nat → Option Nat)
def flStep (i : Nat) (st : FL) (l : Ce) : FL := (fun p => if p = l.p then some ((st.1 p).getD i) else st.1 p, fun p => if p = l.p then some i else st.2 p)
def flF (boxes : List (List Ce)) : FL := boxes.zipIdx.foldl (fun st x => x.1.foldl (flStep x.2) st) (fun _ => none, fun _ => none)
def noteD (n : Int) : Dt := .tup [.str "note", .int n]
def refD (k : Int) : Dt := .tup [.str "ref", .int k]
def addAt (ms : List (List Dt)) (i : Nat) (d : Dt) : List (List Dt) := ms.modify i (· ++ [d])
def mkRun (fl : FL) (st : List (List Dt) × Nat) (x : RR × Nat) : List (List Dt) × Nat :=
  (match x.1 with
    | .mark n => addAt st.1 st.2 (noteD n)
    | .shown k _ _ _ => addAt st.1 ((fl.1 x.2).getD 0) (refD k)
    | .text _ _ _ => st.1, (fl.2 x.2).getD st.2)
def marksF (rs : List RR) (boxes : List (List Ce)) : List (List Dt) := (rs.zipIdx.foldl (mkRun (flF boxes)) (List.replicate boxes.length [], 0)).1
def spMarks : Sp := fun vs H Q _ => ∃ (v : V) (ba : Addr) (bs : List Addr) (rs : List RR) (boxes : List (List Ce)), vs = [v, .ref ba] ∧ Tr H v (.tup (rs.map rrD)) ∧ rs.length ≤ 100 ∧ H ba = some (.lst (bs.map V.ref)) ∧ RowsAt H bs (boxes.map (List.map ceD)) ∧ boxes.length ≤ 10000 ∧ 1 ≤ boxes.length ∧ boxes.flatten.length ≤ 10000 ∧
  (∀ p k t z f, rs[p]? = some (.shown k t z f) → ∃ l ∈ boxes.flatten, l.p = p) ∧ ∀ (m : Addr) (as : List Addr) (H' : Hp), H m = none → H' m = some (.lst (as.map V.ref)) → RowsAt H' as (marksF rs boxes) → (∀ a ∈ as, H a = none) → Fr [] H H' → Q (.ref m) H'
/-! ### the pieces -/
def boxD (F : Fcs) (x : List Ce × List Dt) : Dt := .tup [.int (plF F x.1).2.1, .tup ((plF F x.1).1.map plD), .tup x.2]
def boxesF (rs : List RR) : List (List Ce) := (wordsF rs).ws.flatten
def piecesD (F : Fcs) (rs : List RR) : Dt := .tup [.tup (((boxesF rs).zip (marksF rs (boxesF rs))).map (boxD F)), .tup ((jointsF F (wordsF rs).ws (wordsF rs).sp).map jtD)]
/-- a shown run has a letter -/
def Shown (rs : List RR) : Prop := ∀ k t z f, RR.shown k t z f ∈ rs → ∃ c ∈ t, isL c = true
def spShape : Sp := fun vs H Q _ => ∃ (v u : V) (rs : List RR) (ds : List Dt) (F : Fcs) (need : List Nat), vs = [v, u] ∧ Tr H v (.tup (rs.map rrD)) ∧ rs.length ≤ 100 ∧ (∀ r ∈ rs, RRok r) ∧ (∀ r ∈ rs, RRin need r) ∧ Shown rs ∧ Tr H u (.tup ds) ∧ (∀ d ∈ ds, ∃ m, d = msT F m) ∧ (∀ w ∈ (wordsF rs).ws, ∀ m ∈ msF w, msT F m ∈ ds) ∧ (∀ x ∈ (wordsF rs).sp, msT F (.space x.2) ∈ ds) ∧ ds.length ≤ 500000 ∧
  ∀ (w : V) (H' : Hp), Tr H' w (piecesD F rs) → Fr [] H H' → Q w H'
def bareJ : Jt → Dt
  | .gap a b c => jtD (.gap a b c)
  | .hyp w o _ _ _ => .tup [.str "hyphen", .int w, .int o]

end K45

set_option maxHeartbeats 4000000
namespace K45
open PySem PySem.Spec PyProof.Rows L2
section
variable {P : Program} {w : World} {K : PySem.W.Frag} {mg : Str → Option Value} {base : Heap}
theorem cut3 (a b c d : V) : cutV [a, b, c, d] none (some 3) = [a, b, c] := rfl
theorem cut3ok (a b c d : V) : ¬ (HT.sIx [a, b, c, d].length 0 none = 0 ∧ HT.sIx [a, b, c, d].length [a, b, c, d].length (some 3) = [a, b, c, d].length) := by
  show ¬ (HT.sIx 4 0 none = 0 ∧ HT.sIx 4 4 (some 3) = 4)
  decide
theorem dT_get {H : Hp} {a : Addr} {kvs : List (List L2.Key × V)} {k : List L2.Key} {v : V} {q : Addr} {vs : List V} (e : H a = some (.dT kvs)) (eb : H q = some (.tup vs)) (ek : vs = k.map kV) (h : valV kvs k = some v) : DGet H a (.ref q) (some v) := by
  subst ek
  exact dget_t e eb h
theorem szmul {z i : Int} (h : 1 ≤ z ∧ z ≤ 12) : CMul z i := .inl ⟨by omega, by omega⟩
abbrev s_lwidth : Stmt := inClass (top 6) 1
abbrev N_lwidth : List Str := ["self", "letter", "char", "size", "face"]
theorem sc_lwidth : FnScope ["self", "letter", "char", "size", "face"] ["self", "letter"] (defScope s_lwidth) := ⟨rfl, rfl, rfl, by decide +kernel, rfl, by decide +kernel, by decide +kernel⟩
theorem m_lwidth {CS CI CF : Addr} (F : Dm K CS "letter_width" "Scale.letter_width" s_lwidth) (G : Gn mg) (T : Ct K mg CS CI CF)   : C8.Met P w K mg base 1 CS "letter_width" (spLwidth CS) [] := by
  refine met_by F sc_lwidth (fun _ _ _ _ _ _ us hl => match us, hl with | [_, _], _ => rfl) (fun vs H Q E h => ?_) (fun f cdv A outer s H vs Q E hr h => ?_)
  · obtain ⟨o, v, l, F, P, rfl, _⟩ := h
    rfl
  · obtain ⟨o, v, l, F, P, rfl, ⟨X, g⟩, hv, hs, hp, k⟩ := h
    have sc := sc_lwidth
    have hu := hu_of hr
    refine ⟨_, (pss_cons (ps_asg (pe_slice sl_tup (pv 1) po_none (po_some pe_int)) (pg_tup rfl (pgs_cons (pg_name (i := 2) sc.nd rfl (Or.inl rfl)) (pgs_cons (pg_name (i := 3) sc.nd rfl (Or.inl rfl)) (pgs_cons (pg_name (i := 4) sc.nd rfl (Or.inl rfl)) pgs_nil)))))
      (pss_one (ps_ret (pe_op op_mul (pv 3) (pe_dget hu (pe_fld (pv 0) rfl) (pe_tup (pa_cons (pv 4) (pa_cons (pv 2) pa_nil))) (fun _ _ => rfl)))))), ?_⟩
    have hz := big
    obtain ⟨b, rfl, hb⟩ := Tr.flat (hv : Tr H v (.tup _)) rfl
    refine ⟨_, rfl, _, rfl, b, _, rfl, SqT.of hb, cut3ok _ _ _ _, fun q n_q => ?_⟩
    generalize eH_q : upd H q _ = H1
    have ev_q : ∀ {M : List Addr}, Fr M H H1 := by intro M; rw [← eH_q]; exact Fr.new n_q
    have h_q : H1 q = some (.tup [.str (ch l.c), .int l.z, .str l.f]) := by rw [← eH_q]; exact upd_same
    clear eH_q
    have g := g.k0 ev_q
    refine ⟨_, _, rfl, SqT.of (h_q), rfl, _, _, rfl, _, _, rfl, _, _, rfl, rfl, _, rfl, _, rfl, o, CS, _, _, _, rfl, g.at_, T.cS, T.s1, g.f1, _, rfl, _, rfl, (by show 2 ≤ sizeLine; omega), fun q2 n_q2 => ?_⟩
    generalize eH_q2 : upd H1 q2 _ = H2
    have ev_q2 : ∀ {M : List Addr}, Fr M H1 H2 := by intro M; rw [← eH_q2]; exact Fr.new n_q2
    have h_q2 : H2 q2 = some (.tup [.str l.f, .str (ch l.c)]) := by rw [← eH_q2]; exact upd_same
    clear eH_q2
    have g := g.k0 ev_q2
    exact ⟨X.a1, _, rfl, dT_get (k := [.inr l.f, .inr (ch l.c)]) g.d1 h_q2 rfl (g.p1 _ _ hp), _, _, rfl, rfl, szmul ⟨hs.1, hs.2.1⟩, k H2 ((ev_q (M := [])).t0 ev_q2)⟩
abbrev s_overlap : Stmt := inClass (top 6) 2
abbrev N_overlap : List Str := ["self", "before", "letter", "char", "size", "face"]
theorem sc_overlap : FnScope ["self", "before", "letter", "char", "size", "face"] ["self", "before", "letter"] (defScope s_overlap) := ⟨rfl, rfl, rfl, by decide +kernel, rfl, by decide +kernel, by decide +kernel⟩
theorem m_overlap {CS CI CF : Addr} (F : Dm K CS "overlap" "Scale.overlap" s_overlap) (G : Gn mg) (T : Ct K mg CS CI CF)   : C8.Met P w K mg base 1 CS "overlap" (spOverlap CS) [] := by
  refine met_by F sc_overlap (fun _ _ _ _ _ _ us hl => match us, hl with | [_, _, _], _ => rfl) (fun vs H Q E h => ?_) (fun f cdv A outer s H vs Q E hr h => ?_)
  · obtain ⟨o, v, u, b, l, F, P, rfl, _⟩ := h
    rfl
  · obtain ⟨o, v, u, b, l, F, P, rfl, ⟨X, g⟩, hv, hw, hs, hp, k⟩ := h
    have sc := sc_overlap
    have hu := hu_of hr
    refine ⟨_, (pss_cons (ps_asg (pe_slice sl_tup (pv 1) po_none (po_some pe_int)) (pg_tup rfl (pgs_cons (pg_name (i := 3) sc.nd rfl (Or.inl rfl)) (pgs_cons (pg_name (i := 4) sc.nd rfl (Or.inl rfl)) (pgs_cons (pg_name (i := 5) sc.nd rfl (Or.inl rfl)) pgs_nil)))))
      (pss_cons (ps_if (PW.pt (pw_or (pt_cmpR op_ne (pv 4) (pe_ix ix_tup (pv 2) pe_int (fun _ _ => rfl)) (nomark _)) (pw_or1 (pt_cmpR op_ne (pv 5) (pe_ix ix_tup (pv 2) pe_int (fun _ _ => rfl)) (nomark _)))))
        (pss_one (ps_ret pe_int))
        pss_nil)
      (pss_one (ps_ret (pe_op op_mul (pv 4) (pe_dget hu (pe_fld (pv 0) rfl) (pe_tup (pa_cons (pv 5) (pa_cons (pv 3) (pa_cons (pe_ix ix_tup (pv 2) pe_int (fun _ _ => rfl)) pa_nil)))) (fun _ _ => rfl))))))), ?_⟩
    have hz := big
    obtain ⟨x, rfl, hx⟩ := Tr.flat (hv : Tr H v (.tup _)) rfl
    obtain ⟨y, rfl, hy⟩ := Tr.flat (hw : Tr H u (.tup _)) rfl
    refine ⟨_, rfl, _, rfl, x, _, rfl, SqT.of hx, cut3ok _ _ _ _, fun q n_q => ?_⟩
    generalize eH_q : upd H q _ = H1
    have ev_q : ∀ {M : List Addr}, Fr M H H1 := by intro M; rw [← eH_q]; exact Fr.new n_q
    have h_q : H1 q = some (.tup [.str (ch b.c), .int b.z, .str b.f]) := by rw [← eH_q]; exact upd_same
    clear eH_q
    have g := g.k0 ev_q
    have hy := (ev_q (M := [])).k0 hy
    refine ⟨_, _, rfl, SqT.of (h_q), rfl, _, _, rfl, _, _, rfl, _, _, rfl, rfl, _, rfl, _, rfl, y, _, _, _, rfl, rfl, SqT.of hy, rfl, rfl, _, rfl, ite2 (fun hc => ?_) (fun hc => ?_)⟩
    · have hn : ¬ (b.z = l.z ∧ b.f = l.f) := fun e => by
        have : decide (V.int b.z = V.int l.z) = true := decide_eq_true (congrArg V.int e.1)
        have hc : (!decide (V.int b.z = V.int l.z)) = true := hc
        rw [this] at hc
        exact absurd hc (by decide)
      unfold ovF at k
      rw [if_neg hn] at k
      exact k H1 ev_q
    · refine ⟨_, rfl, _, rfl, y, _, _, _, rfl, rfl, SqT.of hy, rfl, rfl, _, rfl, ite2 (fun hc2 => ?_) (fun hc2 => ?_)⟩
      · have hn : ¬ (b.z = l.z ∧ b.f = l.f) := fun e => by
          have : decide (V.str b.f = V.str l.f) = true := decide_eq_true (congrArg V.str e.2)
          have hc : (!decide (V.str b.f = V.str l.f)) = true := hc2
          rw [this] at hc
          exact absurd hc (by decide)
        unfold ovF at k
        rw [if_neg hn] at k
        exact k H1 ev_q
      · have e1 : b.z = l.z := by
          have hc : ¬ (!decide (V.int b.z = V.int l.z)) = true := hc
          have h2 : decide (V.int b.z = V.int l.z) = true := by simpa using hc
          have h3 := of_decide_eq_true h2
          injection h3
        have e2 : b.f = l.f := by
          have hc : ¬ (!decide (V.str b.f = V.str l.f)) = true := hc2
          have h2 : decide (V.str b.f = V.str l.f) = true := by simpa using hc
          have h3 := of_decide_eq_true h2
          injection h3
        unfold ovF at k
        rw [if_pos ⟨e1, e2⟩] at k
        have hp2 := hp ⟨e1, e2⟩
        rw [← e2] at hp2
        refine ⟨_, rfl, _, rfl, o, CS, _, _, _, rfl, g.at_, T.cS, T.s2, g.f2, _, rfl, _, rfl, _, rfl, y, _, _, _, rfl, rfl, SqT.of hy, rfl, (by show 3 ≤ sizeLine; omega), fun q2 n_q2 => ?_⟩
        generalize eH_q2 : upd H1 q2 _ = H2
        have ev_q2 : ∀ {M : List Addr}, Fr M H1 H2 := by intro M; rw [← eH_q2]; exact Fr.new n_q2
        have h_q2 : H2 q2 = some (.tup [.str b.f, .str (ch b.c), .str (ch l.c)]) := by rw [← eH_q2]; exact upd_same
        clear eH_q2
        have g := g.k0 ev_q2
        exact ⟨X.a2, _, rfl, dT_get (k := [.inr b.f, .inr (ch b.c), .inr (ch l.c)]) g.d2 h_q2 rfl (g.p2 _ _ _ hp2), _, _, rfl, rfl, szmul ⟨hs.1, hs.2.1⟩, k H2 ((ev_q (M := [])).t0 ev_q2)⟩
abbrev s_hjoint : Stmt := inClass (top 6) 3
abbrev N_hjoint : List Str := ["self", "before", "letter", "char", "size", "face", "advance", "amount", "sign"]
theorem sc_hjoint : FnScope ["self", "before", "letter", "char", "size", "face", "advance", "amount", "sign"] ["self", "before", "letter"] (defScope s_hjoint) := ⟨rfl, rfl, rfl, by decide +kernel, rfl, by decide +kernel, by decide +kernel⟩
theorem m_hjoint {CS CI CF : Addr} (F : Dm K CS "hyphen_joint" "Scale.hyphen_joint" s_hjoint) (G : Gn mg) (T : Ct K mg CS CI CF)  (mt_overlap : C8.Met P w K mg base 1 CS "overlap" (spOverlap CS) []) : C8.Met P w K mg base 2 CS "hyphen_joint" (spHjoint CS) [] := by
  refine met_by F sc_hjoint (fun _ _ _ _ _ _ us hl => match us, hl with | [_, _, _], _ => rfl) (fun vs H Q E h => ?_) (fun f cdv A outer s H vs Q E hr h => ?_)
  · obtain ⟨o, v, u, b, l, F, P, rfl, _⟩ := h
    rfl
  · obtain ⟨o, v, u, b, l, F, P, rfl, ⟨X, g⟩, hv, hw, hs, hp, hh, k⟩ := h
    have sc := sc_hjoint
    have hu := hu_of hr
    refine ⟨_, (pss_cons (ps_asg (pe_slice sl_tup (pv 1) po_none (po_some pe_int)) (pg_tup rfl (pgs_cons (pg_name (i := 3) sc.nd rfl (Or.inl rfl)) (pgs_cons (pg_name (i := 4) sc.nd rfl (Or.inl rfl)) (pgs_cons (pg_name (i := 5) sc.nd rfl (Or.inl rfl)) pgs_nil)))))
      (pss_cons (ps_asg (pe_dget hu (pe_fld (pv 0) rfl) (pe_tup (pa_cons (pv 5) (pa_cons (pv 3) pa_nil))) (fun _ _ => rfl)) (pg_tup rfl (pgs_cons (pg_name (i := 6) sc.nd rfl (Or.inl rfl)) (pgs_cons (pg_name (i := 7) sc.nd rfl (Or.inl rfl)) pgs_nil))))
      (pss_cons (ps_set (i := 8) sc.nd rfl (Or.inl rfl) (pe_tup (pa_cons pe_str (pa_cons (pe_op op_mul (pe_un un_neg (pv 4)) (pv 7)) (pa_cons (pv 4) (pa_cons (pv 5) pa_nil))))))
      (pss_one (ps_ret (pe_tup (pa_cons pe_str (pa_cons (pe_op op_mul (pv 4) (pe_op op_sub (pv 6) (pv 7))) (pa_cons (C8.pe_mt mt_overlap hr (by decide) (pv 0) (pa_cons (pv 1) (pa_cons (pv 2) pa_nil))) (pa_cons (pv 8) pa_nil)))))))))), ?_⟩
    have hz := big
    obtain ⟨x, rfl, hx⟩ := Tr.flat (id hv : Tr H v (.tup _)) rfl
    refine ⟨_, rfl, _, rfl, x, _, rfl, SqT.of hx, cut3ok _ _ _ _, fun q n_q => ?_⟩
    generalize eH_q : upd H q _ = H1
    have ev_q : ∀ {M : List Addr}, Fr M H H1 := by intro M; rw [← eH_q]; exact Fr.new n_q
    have h_q : H1 q = some (.tup [.str (ch b.c), .int b.z, .str b.f]) := by rw [← eH_q]; exact upd_same
    clear eH_q
    have g := g.k0 ev_q
    refine ⟨_, _, rfl, SqT.of (h_q), rfl, _, _, rfl, _, _, rfl, _, _, rfl, rfl, _, rfl, o, CS, _, _, _, rfl, g.at_, T.cS, T.s3, g.f3, _, rfl, _, rfl, (by show 2 ≤ sizeLine; omega), fun q2 n_q2 => ?_⟩
    generalize eH_q2 : upd H1 q2 _ = H2
    have ev_q2 : ∀ {M : List Addr}, Fr M H1 H2 := by intro M; rw [← eH_q2]; exact Fr.new n_q2
    have h_q2 : H2 q2 = some (.tup [.str b.f, .str (ch b.c)]) := by rw [← eH_q2]; exact upd_same
    clear eH_q2
    have g := g.k0 ev_q2
    obtain ⟨t, ht, htt⟩ := g.p3 _ _ hh
    refine ⟨X.a3, _, rfl, dT_get (k := [.inr b.f, .inr (ch b.c)]) g.d3 h_q2 rfl ht, ?_⟩
    refine ⟨_, _, rfl, SqT.of (htt), rfl, _, _, rfl, _, _, rfl, rfl, _, rfl, _, rfl, _, rfl, _, _, rfl, rfl, .inl ⟨by have := hs.1; have := hs.2.1; omega, by have := hs.1; have := hs.2.1; omega⟩, _, rfl, _, rfl, (by show 4 ≤ sizeLine; omega), fun q3 n_q3 => ?_⟩
    generalize eH_q3 : upd H2 q3 _ = H3
    have ev_q3 : ∀ {M : List Addr}, Fr M H2 H3 := by intro M; rw [← eH_q3]; exact Fr.new n_q3
    have h_q3 : H3 q3 = some (.tup [.str "-", .int (-b.z * nearF (F b.f) b.c 45), .int b.z, .str b.f]) := by rw [← eH_q3]; exact upd_same
    clear eH_q3
    have g := g.k0 ev_q3
    have fr : Fr [] H H3 := ((ev_q (M := [])).t0 ev_q2).t0 ev_q3
    refine ⟨_, rfl, _, rfl, _, rfl, _, _, rfl, rfl, _, _, rfl, rfl, szmul ⟨hs.1, hs.2.1⟩, _, rfl, o, _, _, rfl, g.at_, g.m2, _, rfl, _, rfl, o, _, _, b, l, F, P, rfl, ⟨X, g⟩, hv.mono fr.t, hw.mono fr.t, hs, hp, fun H4 f4 => ⟨_, rfl, (by show 4 ≤ sizeLine; omega), fun q4 n_q4 => ?_⟩⟩
    refine k (.ref q4) _ ?_ ((fr.t0 f4).t0 (Fr.new n_q4))
    have h3 := (Fr.new (M := []) (o := .tup [.str "hyphen", .int (b.z * ((F b.f).adv 45 - nearF (F b.f) b.c 45)), .int (ovF F b l), .ref q3]) n_q4).t _ _ (f4.t _ _ h_q3)
    exact .tup upd_same (.cons (.str _) (.cons (.int _) (.cons (.int _) (.cons (Tr.of_flat (ds := [.str "-", .int (-b.z * nearF (F b.f) b.c 45), .int b.z, .str b.f]) h3 rfl) .nil))))
abbrev s_gjoint : Stmt := inClass (top 6) 4
abbrev N_gjoint : List Str := ["self", "space", "size", "face", "width", "stretch", "shrink"]
theorem sc_gjoint : FnScope ["self", "space", "size", "face", "width", "stretch", "shrink"] ["self", "space"] (defScope s_gjoint) := ⟨rfl, rfl, rfl, by decide +kernel, rfl, by decide +kernel, by decide +kernel⟩
theorem m_gjoint {CS CI CF : Addr} (F : Dm K CS "gap_joint" "Scale.gap_joint" s_gjoint) (G : Gn mg) (T : Ct K mg CS CI CF)   : C8.Met P w K mg base 1 CS "gap_joint" (spGjoint CS) [] := by
  refine met_by F sc_gjoint (fun _ _ _ _ _ _ us hl => match us, hl with | [_, _], _ => rfl) (fun vs H Q E h => ?_) (fun f cdv A outer s H vs Q E hr h => ?_)
  · obtain ⟨o, v, x, F, P, rfl, _⟩ := h
    rfl
  · obtain ⟨o, v, x, F, P, rfl, ⟨X, g⟩, hv, hp, hs, k⟩ := h
    have sc := sc_gjoint
    have hu := hu_of hr
    refine ⟨_, (pss_cons (ps_asg (pv 1) (pg_tup rfl (pgs_cons (pg_name (i := 2) sc.nd rfl (Or.inl rfl)) (pgs_cons (pg_name (i := 3) sc.nd rfl (Or.inl rfl)) pgs_nil))))
      (pss_cons (ps_asg (pe_dget hu (pe_fld (pv 0) rfl) (pv 3) (fun _ _ => rfl)) (pg_tup rfl (pgs_cons (pg_name (i := 4) sc.nd rfl (Or.inl rfl)) (pgs_cons (pg_name (i := 5) sc.nd rfl (Or.inl rfl)) (pgs_cons (pg_name (i := 6) sc.nd rfl (Or.inl rfl)) pgs_nil)))))
      (pss_one (ps_ret (pe_tup (pa_cons pe_str (pa_cons (pe_op op_mul (pv 2) (pv 4)) (pa_cons (pe_op op_mul (pv 2) (pv 5)) (pa_cons (pe_op op_mul (pv 2) (pv 6)) pa_nil))))))))), ?_⟩
    have hz := big
    obtain ⟨y, rfl, hy⟩ := Tr.flat (hv : Tr H v (.tup _)) rfl
    obtain ⟨t, ht, htt⟩ := g.p4 _ hp
    refine ⟨_, rfl, _, _, rfl, SqT.of (hy), rfl, _, _, rfl, _, _, rfl, rfl, _, rfl, o, CS, _, _, _, rfl, g.at_, T.cS, T.s4, g.f4, _, rfl, X.a4, _, rfl, dget_k (k := Sum.inr x.2) g.d4 ht, _, _, rfl, SqT.of (htt), rfl, _, _, rfl, _, _, rfl, _, _, rfl, rfl, _, rfl, _, rfl, _, _, rfl, rfl, szmul hs, _, rfl, _, rfl, _, _, rfl, rfl, szmul hs, _, rfl, _, rfl, _, _, rfl, rfl, szmul hs, (by show 4 ≤ sizeLine; omega), fun q n_q => ?_⟩
    exact k (.ref q) _ (Tr.of_flat (ds := [.str "gap", .int (x.1 * (F x.2).sp.1), .int (x.1 * (F x.2).sp.2.1), .int (x.1 * (F x.2).sp.2.2)]) upd_same rfl) (Fr.new n_q)
theorem msT_inj {F : Fcs} {m n : Ms} (h : msT F m = msT F n) : m = n := by
  have e : ∀ {a b : Str}, (a == b) = false → Dt.str a ≠ Dt.str b := fun h z => by
    injection z with z
    rw [z] at h
    simp at h
  injection h with h
  cases m <;> cases n <;> (unfold msD at h; injection h with h1 h2)
  all_goals first
    | (exfalso; exact e (by decide +kernel) h1)
    | skip
  · injection h2 with h2 h3
    injection h3 with h3 h4
    injection h2 with h2
    injection h3 with h3
    rw [h2, ch_inj h3]
  · injection h2 with h2 h3
    injection h3 with h3 h4
    injection h4 with h4 h5
    injection h2 with h2
    injection h3 with h3
    injection h4 with h4
    rw [h2, ch_inj h3, ch_inj h4]
  · injection h2 with h2 h3
    injection h3 with h3 h4
    injection h2 with h2
    injection h3 with h3
    rw [h2, ch_inj h3]
  · injection h2 with h2 h3
    injection h2 with h2
    rw [h2]
abbrev s_scale : Stmt := inClass (top 6) 0
abbrev N_scale : List Str := ["self", "measures", "row"]
theorem sc_scale : FnScope ["self", "measures", "row"] ["self", "measures"] (defScope s_scale) := ⟨rfl, rfl, rfl, by decide +kernel, rfl, by decide +kernel, by decide +kernel⟩
theorem m_scale {CS CI CF : Addr} (F : Di K mg "Scale" "Scale.__init__" CS s_scale) (G : Gn mg) (T : Ct K mg CS CI CF)   : C8.Mak P w K mg base 1 "Scale" CS (spScale CS) [] := by
  refine mak_by F sc_scale (fun _ _ _ _ _ _ us hl => match us, hl with | [_, _], _ => rfl) (fun vs H Q E h => ?_) (fun f cdv A outer s H vs Q E hr h => ?_)
  · obtain ⟨o, dx, v, ds, F, rfl, _⟩ := h
    rfl
  · obtain ⟨o, dx, v, ds, F, rfl, h_o, hv, hd, hdl, k⟩ := h
    have sc := sc_scale
    have hu := hu_of hr
    refine ⟨_, (pss_cons (ps_fld (pv 0) pe_dnewT rfl)
      (pss_cons (ps_fld (pv 0) pe_dnewT rfl)
      (pss_cons (ps_fld (pv 0) pe_dnewT rfl)
      (pss_cons (ps_fld (pv 0) pe_dnewK rfl)
      (pss_one (ps_for PassesOwn.never rfl (pi_tup (pv 1)) (pg_name (i := 2) sc.nd rfl (Or.inl rfl))
        (pss_one (ps_if (pt_cmpR op_eq (pe_ix ix_tup (pv 2) pe_int (fun _ _ => rfl)) pe_str (nomark _))
          (pss_one (ps_dput hu (pe_fld (pv 0) rfl) (pe_tup (pa_cons (pe_ix ix_tup (pv 2) pe_int (fun _ _ => rfl)) (pa_cons (pe_ix ix_tup (pv 2) pe_int (fun _ _ => rfl)) pa_nil))) (pe_ix ix_tup (pv 2) pe_int (fun _ _ => rfl)) rfl))
          (pss_one (ps_if (pt_cmpR op_eq (pe_ix ix_tup (pv 2) pe_int (fun _ _ => rfl)) pe_str (nomark _))
            (pss_one (ps_dput hu (pe_fld (pv 0) rfl) (pe_tup (pa_cons (pe_ix ix_tup (pv 2) pe_int (fun _ _ => rfl)) (pa_cons (pe_ix ix_tup (pv 2) pe_int (fun _ _ => rfl)) (pa_cons (pe_ix ix_tup (pv 2) pe_int (fun _ _ => rfl)) pa_nil)))) (pe_ix ix_tup (pv 2) pe_int (fun _ _ => rfl)) rfl))
            (pss_one (ps_if (pt_cmpR op_eq (pe_ix ix_tup (pv 2) pe_int (fun _ _ => rfl)) pe_str (nomark _))
              (pss_one (ps_dput hu (pe_fld (pv 0) rfl) (pe_tup (pa_cons (pe_ix ix_tup (pv 2) pe_int (fun _ _ => rfl)) (pa_cons (pe_ix ix_tup (pv 2) pe_int (fun _ _ => rfl)) pa_nil))) (pe_tup (pa_cons (pe_ix ix_tup (pv 2) pe_int (fun _ _ => rfl)) (pa_cons (pe_ix ix_tup (pv 2) pe_int (fun _ _ => rfl)) pa_nil))) rfl))
              (pss_one (ps_dput hu (pe_fld (pv 0) rfl) (pe_ix ix_tup (pv 2) pe_int (fun _ _ => rfl)) (pe_tup (pa_cons (pe_ix ix_tup (pv 2) pe_int (fun _ _ => rfl)) (pa_cons (pe_ix ix_tup (pv 2) pe_int (fun _ _ => rfl)) (pa_cons (pe_ix ix_tup (pv 2) pe_int (fun _ _ => rfl)) pa_nil)))) rfl)))))))))))))), ?_⟩
    have hz := big
    obtain ⟨t, vs, rfl, h_t, hvs⟩ := hv.inv
    have hvl : vs.length = ds.length := hvs.length
    refine fun a1 n1 => ?_
    have o1 := ne_of_none h_o n1
    have n10 := n1
    have ev1 : ∀ {M : List Addr}, Fr M H (upd H a1 (.dT [])) := Fr.new n1
    have h1 : upd H a1 (.dT []) a1 = some (.dT []) := upd_same
    generalize upd H a1 (.dT []) = H1 at *
    have h_o1 := (ev1 (M := [])).k0 h_o
    refine ⟨_, rfl, o, CS, dx, _, rfl, h_o1, T.cS, T.s1, (by show (0 : Nat) < 1000; decide), ?_⟩
    have p1 := Fr.put (o := .ins CS dx (putF "advances" (.ref a1) [])) h_o1
    have fr : Fr [o] H _ := ev1.ts p1
    have h1 := p1.k1 h1 o1.symm
    have h_o2 : (upd H1 o (.ins CS dx (putF "advances" (.ref a1) []))) o = some (.ins CS dx [("advances", .ref a1)]) := upd_same
    generalize upd H1 o (.ins CS dx (putF "advances" (.ref a1) [])) = H2 at *
    refine fun a2 n2 => ?_
    have o2 := ne_of_none h_o2 n2
    have n12 := ne_of_none h1 n2
    have n20 := fr.d _ n2
    have ev2 : ∀ {M : List Addr}, Fr M H2 (upd H2 a2 (.dT [])) := Fr.new n2
    have h2 : upd H2 a2 (.dT []) a2 = some (.dT []) := upd_same
    generalize upd H2 a2 (.dT []) = H3 at *
    have h_o3 := (ev2 (M := [])).k0 h_o2
    refine ⟨_, rfl, o, CS, dx, _, rfl, h_o3, T.cS, T.s2, (by show (1 : Nat) < 1000; decide), ?_⟩
    have p2 := Fr.put (o := .ins CS dx (putF "amounts" (.ref a2) [("advances", .ref a1)])) h_o3
    have fr := (fr.t0 ev2).ts p2
    have h1 := p2.k1 ((ev2 (M := [])).k0 h1) o1.symm
    have h2 := p2.k1 h2 o2.symm
    have h_o4 : (upd H3 o (.ins CS dx (putF "amounts" (.ref a2) [("advances", .ref a1)]))) o = some (.ins CS dx [("advances", .ref a1), ("amounts", .ref a2)]) := upd_same
    generalize upd H3 o (.ins CS dx (putF "amounts" (.ref a2) [("advances", .ref a1)])) = H4 at *
    refine fun a3 n3 => ?_
    have o3 := ne_of_none h_o4 n3
    have n13 := ne_of_none h1 n3
    have n23 := ne_of_none h2 n3
    have n30 := fr.d _ n3
    have ev3 : ∀ {M : List Addr}, Fr M H4 (upd H4 a3 (.dT [])) := Fr.new n3
    have h3 : upd H4 a3 (.dT []) a3 = some (.dT []) := upd_same
    generalize upd H4 a3 (.dT []) = H5 at *
    have h_o5 := (ev3 (M := [])).k0 h_o4
    refine ⟨_, rfl, o, CS, dx, _, rfl, h_o5, T.cS, T.s3, (by show (2 : Nat) < 1000; decide), ?_⟩
    have p3 := Fr.put (o := .ins CS dx (putF "hyphens" (.ref a3) [("advances", .ref a1), ("amounts", .ref a2)])) h_o5
    have fr := (fr.t0 ev3).ts p3
    have h1 := p3.k1 ((ev3 (M := [])).k0 h1) o1.symm
    have h2 := p3.k1 ((ev3 (M := [])).k0 h2) o2.symm
    have h3 := p3.k1 h3 o3.symm
    have h_o6 : (upd H5 o (.ins CS dx (putF "hyphens" (.ref a3) [("advances", .ref a1), ("amounts", .ref a2)]))) o = some (.ins CS dx [("advances", .ref a1), ("amounts", .ref a2), ("hyphens", .ref a3)]) := upd_same
    generalize upd H5 o (.ins CS dx (putF "hyphens" (.ref a3) [("advances", .ref a1), ("amounts", .ref a2)])) = H6 at *
    refine fun a4 n4 => ?_
    have o4 := ne_of_none h_o6 n4
    have n14 := ne_of_none h1 n4
    have n24 := ne_of_none h2 n4
    have n34 := ne_of_none h3 n4
    have n40 := fr.d _ n4
    have ev4 : ∀ {M : List Addr}, Fr M H6 (upd H6 a4 (.dK [])) := Fr.new n4
    have h4 : upd H6 a4 (.dK []) a4 = some (.dK []) := upd_same
    generalize upd H6 a4 (.dK []) = H7 at *
    have h_o7 := (ev4 (M := [])).k0 h_o6
    refine ⟨_, rfl, o, CS, dx, _, rfl, h_o7, T.cS, T.s4, (by show (3 : Nat) < 1000; decide), ?_⟩
    have p4 := Fr.put (o := .ins CS dx (putF "space_table" (.ref a4) [("advances", .ref a1), ("amounts", .ref a2), ("hyphens", .ref a3)])) h_o7
    have fr := (fr.t0 ev4).ts p4
    have h1 := p4.k1 ((ev4 (M := [])).k0 h1) o1.symm
    have h2 := p4.k1 ((ev4 (M := [])).k0 h2) o2.symm
    have h3 := p4.k1 ((ev4 (M := [])).k0 h3) o3.symm
    have h4 := p4.k1 h4 o4.symm
    have h_o8 : (upd H7 o (.ins CS dx (putF "space_table" (.ref a4) [("advances", .ref a1), ("amounts", .ref a2), ("hyphens", .ref a3)]))) o = some (.ins CS dx [("advances", .ref a1), ("amounts", .ref a2), ("hyphens", .ref a3), ("space_table", .ref a4)]) := upd_same
    generalize upd H7 o (.ins CS dx (putF "space_table" (.ref a4) [("advances", .ref a1), ("amounts", .ref a2), ("hyphens", .ref a3)])) = H8 at *
    have h_t8 := fr.t _ _ h_t
    refine ⟨_, rfl, t, rfl, ⟨_, SqT.of h_t8⟩, for_tup (xs := vs) (fun i σ H' => ∃ (k1 k2 k3 : List (List L2.Key × V)) (k4 : List (L2.Key × V)) (v2 : Option V), σ = [some (.ref o), some (.ref t), v2] ∧
      ScaleG H' CS o F (fun m => msT F m ∈ ds.take i) ⟨dx, [("advances", .ref a1), ("amounts", .ref a2), ("hyphens", .ref a3), ("space_table", .ref a4)], a1, a2, a3, a4, k1, k2, k3, k4⟩ ∧ k1.length ≤ i ∧ k2.length ≤ i ∧ k3.length ≤ i ∧ k4.length ≤ i ∧ Fr [o] H H') ?_ ?_ ?_ ?_⟩
    · exact ⟨[], [], [], [], _, rfl, ⟨h_o8, rfl, rfl, rfl, rfl, rfl, rfl, rfl, rfl, h1, h2, h3, h4, (fun f c h => by cases h), (fun f a b h => by cases h), (fun f a h => by cases h), (fun f h => by cases h)⟩, Nat.le_refl _, Nat.le_refl _, Nat.le_refl _, Nat.le_refl _, fr⟩
    · rintro i σ H9 _ ⟨k1, k2, k3, k4, v2, rfl, g, l1, l2, l3, l4, fr⟩
      exact SqT.of (fr.t _ _ h_t)
    · rintro i x σ H9 hi ⟨k1, k2, k3, k4, v2, rfl, g, l1, l2, l3, l4, fr⟩
      obtain ⟨d, ed, hx⟩ := hvs.get' hi
      have hil := (List.getElem?_eq_some_iff.mp ed).1
      obtain ⟨m, rfl⟩ := hd d (List.mem_of_getElem? ed)
      have hx := hx.mono fr.t
      have mem : ∀ n, msT F n ∈ ds.take (i + 1) → n = m ∨ msT F n ∈ ds.take i := fun n hn => by
        rw [List.take_add_one, ed] at hn
        rcases List.mem_append.mp hn with h | h
        · exact .inr h
        · exact .inl (msT_inj (List.mem_singleton.mp h))
      obtain ⟨b, rfl, hb⟩ := Tr.flat (hx : Tr H9 x (.tup (msD F m))) (msD_flat F m)
      have hr : ∀ {b : Addr} {j : Nat} {vs : List V} {y : V}, H9 b = some (.tup vs) → True := fun _ => trivial
      cases m with
      | letter f c =>
        refine ⟨_, rfl, b, _, _, _, rfl, rfl, SqT.of hb, rfl, rfl, _, rfl, ite2 (fun _ => ?_) (fun hc => (hc (by decide +kernel)).elim)⟩
        refine ⟨_, rfl, b, _, _, _, rfl, rfl, SqT.of hb, rfl, _, rfl, o, CS, _, _, _, rfl, g.at_, T.cS, T.s1, g.f1, _, rfl, b, _, _, _, rfl, rfl, SqT.of hb, rfl, _, rfl, b, _, _, _, rfl, rfl, SqT.of hb, rfl, (by show 2 ≤ sizeLine; omega), fun q n_q => ?_⟩
        generalize eH_q : upd H9 q _ = H10
        have ev_q : ∀ {M : List Addr}, Fr M H9 H10 := by intro M; rw [← eH_q]; exact Fr.new n_q
        have h_q : H10 q = some (.tup ([.inr f, .inr (ch c)].map kV)) := by rw [← eH_q]; exact upd_same
        clear eH_q
        have g := g.k0 ev_q
        have pp := Fr.put (o := .dT (putK k1 [.inr f, .inr (ch c)] (.int ((F f).adv c)))) g.d1
        refine ⟨a1, _, rfl, DPut.t (k := [.inr f, .inr (ch c)]) g.d1 h_q (show k1.length < sizeLine by omega), putK k1 [.inr f, .inr (ch c)] (.int ((F f).adv c)), k2, k3, k4, _, rfl, ⟨pp.k1 g.at_ o1, g.f1, g.f2, g.f3, g.f4, g.m1, g.m2, g.m3, g.m4, upd_same, pp.k1 g.d2 n12.symm, pp.k1 g.d3 n13.symm, pp.k1 g.d4 n14.symm, fun f2 c2 h => ?_, fun f2 a b h => ?_, fun f2 a h => ?_, fun f2 h => ?_⟩, Nat.le_trans (length_putK _ _ _) (by omega), by omega, by omega, by omega, (fr.t0 ev_q).t1 pp (.inr n10)⟩
        · show valV (putK k1 [.inr f, .inr (ch c)] (.int ((F f).adv c))) [.inr f2, .inr (ch c2)] = _
          rw [valV_put]
          by_cases z : ([.inr f2, .inr (ch c2)] : List L2.Key) = [.inr f, .inr (ch c)]
          · rw [if_pos z]
            injection z with z1 z2
            injection z2 with z2 _
            rw [Sum.inr.inj z1, ch_inj (Sum.inr.inj z2)]
          · rw [if_neg z]
            rcases mem _ h with e | h
            · cases e
              exact (z rfl).elim
            · exact g.p1 _ _ h
        · rcases mem _ h with e | h
          · cases e
          · exact g.p2 _ _ _ h
        · rcases mem _ h with e | h
          · cases e
          · obtain ⟨b, h1, h2⟩ := g.p3 _ _ h
            exact ⟨b, h1, pp.t _ _ h2⟩
        · rcases mem _ h with e | h
          · cases e
          · obtain ⟨b, h1, h2⟩ := g.p4 _ h
            exact ⟨b, h1, pp.t _ _ h2⟩
      | pair f a c =>
        refine ⟨_, rfl, b, _, _, _, rfl, rfl, SqT.of hb, rfl, rfl, _, rfl, ite2 (fun hc => absurd hc (by decide +kernel)) (fun _ => ?_)⟩
        refine ⟨_, rfl, b, _, _, _, rfl, rfl, SqT.of hb, rfl, rfl, _, rfl, ite2 (fun _ => ?_) (fun hc => (hc (by decide +kernel)).elim)⟩
        refine ⟨_, rfl, b, _, _, _, rfl, rfl, SqT.of hb, rfl, _, rfl, o, CS, _, _, _, rfl, g.at_, T.cS, T.s2, g.f2, _, rfl, b, _, _, _, rfl, rfl, SqT.of hb, rfl, _, rfl, b, _, _, _, rfl, rfl, SqT.of hb, rfl, _, rfl, b, _, _, _, rfl, rfl, SqT.of hb, rfl, (by show 3 ≤ sizeLine; omega), fun q n_q => ?_⟩
        generalize eH_q : upd H9 q _ = H10
        have ev_q : ∀ {M : List Addr}, Fr M H9 H10 := by intro M; rw [← eH_q]; exact Fr.new n_q
        have h_q : H10 q = some (.tup ([.inr f, .inr (ch a), .inr (ch c)].map kV)) := by rw [← eH_q]; exact upd_same
        clear eH_q
        have g := g.k0 ev_q
        have pp := Fr.put (o := .dT (putK k2 [.inr f, .inr (ch a), .inr (ch c)] (.int (nearF (F f) a c)))) g.d2
        refine ⟨a2, _, rfl, DPut.t (k := [.inr f, .inr (ch a), .inr (ch c)]) g.d2 h_q (show k2.length < sizeLine by omega), k1, putK k2 [.inr f, .inr (ch a), .inr (ch c)] (.int (nearF (F f) a c)), k3, k4, _, rfl, ⟨pp.k1 g.at_ o2, g.f1, g.f2, g.f3, g.f4, g.m1, g.m2, g.m3, g.m4, pp.k1 g.d1 n12, upd_same, pp.k1 g.d3 n23.symm, pp.k1 g.d4 n24.symm, fun f2 c2 h => ?_, fun f2 a' b' h => ?_, fun f2 a h => ?_, fun f2 h => ?_⟩, by omega, Nat.le_trans (length_putK _ _ _) (by omega), by omega, by omega, (fr.t0 ev_q).t1 pp (.inr n20)⟩
        · rcases mem _ h with e | h
          · cases e
          · exact g.p1 _ _ h
        · show valV (putK k2 [.inr f, .inr (ch a), .inr (ch c)] (.int (nearF (F f) a c))) [.inr f2, .inr (ch a'), .inr (ch b')] = _
          rw [valV_put]
          by_cases z : ([.inr f2, .inr (ch a'), .inr (ch b')] : List L2.Key) = [.inr f, .inr (ch a), .inr (ch c)]
          · rw [if_pos z]
            injection z with z1 z2
            injection z2 with z2 z3
            injection z3 with z3 _
            rw [Sum.inr.inj z1, ch_inj (Sum.inr.inj z2), ch_inj (Sum.inr.inj z3)]
          · rw [if_neg z]
            rcases mem _ h with e | h
            · cases e
              exact (z rfl).elim
            · exact g.p2 _ _ _ h
        · rcases mem _ h with e | h
          · cases e
          · obtain ⟨b, h1, h2⟩ := g.p3 _ _ h
            exact ⟨b, h1, pp.t _ _ h2⟩
        · rcases mem _ h with e | h
          · cases e
          · obtain ⟨b, h1, h2⟩ := g.p4 _ h
            exact ⟨b, h1, pp.t _ _ h2⟩
      | hyphen f a =>
        refine ⟨_, rfl, b, _, _, _, rfl, rfl, SqT.of hb, rfl, rfl, _, rfl, ite2 (fun hc => absurd hc (by decide +kernel)) (fun _ => ?_)⟩
        refine ⟨_, rfl, b, _, _, _, rfl, rfl, SqT.of hb, rfl, rfl, _, rfl, ite2 (fun hc => absurd hc (by decide +kernel)) (fun _ => ?_)⟩
        refine ⟨_, rfl, b, _, _, _, rfl, rfl, SqT.of hb, rfl, rfl, _, rfl, ite2 (fun _ => ?_) (fun hc => (hc (by decide +kernel)).elim)⟩
        refine ⟨_, rfl, b, _, _, _, rfl, rfl, SqT.of hb, rfl, _, rfl, b, _, _, _, rfl, rfl, SqT.of hb, rfl, (by show 2 ≤ sizeLine; omega), fun q0 n_q0 => ?_⟩
        generalize eH_q0 : upd H9 q0 _ = H10
        have ev_q0 : ∀ {M : List Addr}, Fr M H9 H10 := by intro M; rw [← eH_q0]; exact Fr.new n_q0
        have h_q0 : H10 q0 = some (.tup [.int ((F f).adv 45), .int (nearF (F f) a 45)]) := by rw [← eH_q0]; exact upd_same
        clear eH_q0
        have g := g.k0 ev_q0
        have hb := (ev_q0 (M := [])).k0 hb
        refine ⟨_, rfl, o, CS, _, _, _, rfl, g.at_, T.cS, T.s3, g.f3, _, rfl, b, _, _, _, rfl, rfl, SqT.of hb, rfl, _, rfl, b, _, _, _, rfl, rfl, SqT.of hb, rfl, (by show 2 ≤ sizeLine; omega), fun q n_q => ?_⟩
        generalize eH_q : upd H10 q _ = H11
        have ev_q : ∀ {M : List Addr}, Fr M H10 H11 := by intro M; rw [← eH_q]; exact Fr.new n_q
        have h_q : H11 q = some (.tup ([.inr f, .inr (ch a)].map kV)) := by rw [← eH_q]; exact upd_same
        clear eH_q
        have g := g.k0 ev_q
        have h_q0 := (ev_q (M := [])).k0 h_q0
        have pp := Fr.put (o := .dT (putK k3 [.inr f, .inr (ch a)] (.ref q0))) g.d3
        refine ⟨a3, _, rfl, DPut.t (k := [.inr f, .inr (ch a)]) g.d3 h_q (show k3.length < sizeLine by omega), k1, k2, putK k3 [.inr f, .inr (ch a)] (.ref q0), k4, _, rfl, ⟨pp.k1 g.at_ o3, g.f1, g.f2, g.f3, g.f4, g.m1, g.m2, g.m3, g.m4, pp.k1 g.d1 n13, pp.k1 g.d2 n23, upd_same, pp.k1 g.d4 n34.symm, fun f2 c2 h => ?_, fun f2 a' b' h => ?_, fun f2 a' h => ?_, fun f2 h => ?_⟩, by omega, by omega, Nat.le_trans (length_putK _ _ _) (by omega), by omega, ((fr.t0 ev_q0).t0 ev_q).t1 pp (.inr n30)⟩
        · rcases mem _ h with e | h
          · cases e
          · exact g.p1 _ _ h
        · rcases mem _ h with e | h
          · cases e
          · exact g.p2 _ _ _ h
        · by_cases z : ([.inr f2, .inr (ch a')] : List L2.Key) = [.inr f, .inr (ch a)]
          · refine ⟨q0, ?_, ?_⟩
            · show valV (putK k3 [.inr f, .inr (ch a)] (.ref q0)) [.inr f2, .inr (ch a')] = _
              rw [valV_put, if_pos z]
            · injection z with z1 z2
              injection z2 with z2 _
              rw [Sum.inr.inj z1, ch_inj (Sum.inr.inj z2)]
              exact pp.t _ _ h_q0
          · rcases mem _ h with e | h
            · cases e
              exact (z rfl).elim
            · obtain ⟨b, h1, h2⟩ := g.p3 _ _ h
              refine ⟨b, ?_, pp.t _ _ h2⟩
              show valV (putK k3 [.inr f, .inr (ch a)] (.ref q0)) [.inr f2, .inr (ch a')] = _
              rw [valV_put, if_neg z]
              exact h1
        · rcases mem _ h with e | h
          · cases e
          · obtain ⟨b, h1, h2⟩ := g.p4 _ h
            exact ⟨b, h1, pp.t _ _ h2⟩
      | space f =>
        refine ⟨_, rfl, b, _, _, _, rfl, rfl, SqT.of hb, rfl, rfl, _, rfl, ite2 (fun hc => absurd hc (by decide +kernel)) (fun _ => ?_)⟩
        refine ⟨_, rfl, b, _, _, _, rfl, rfl, SqT.of hb, rfl, rfl, _, rfl, ite2 (fun hc => absurd hc (by decide +kernel)) (fun _ => ?_)⟩
        refine ⟨_, rfl, b, _, _, _, rfl, rfl, SqT.of hb, rfl, rfl, _, rfl, ite2 (fun hc => absurd hc (by decide +kernel)) (fun _ => ?_)⟩
        refine ⟨_, rfl, b, _, _, _, rfl, rfl, SqT.of hb, rfl, _, rfl, b, _, _, _, rfl, rfl, SqT.of hb, rfl, _, rfl, b, _, _, _, rfl, rfl, SqT.of hb, rfl, (by show 3 ≤ sizeLine; omega), fun q0 n_q0 => ?_⟩
        generalize eH_q0 : upd H9 q0 _ = H10
        have ev_q0 : ∀ {M : List Addr}, Fr M H9 H10 := by intro M; rw [← eH_q0]; exact Fr.new n_q0
        have h_q0 : H10 q0 = some (.tup [.int (F f).sp.1, .int (F f).sp.2.1, .int (F f).sp.2.2]) := by rw [← eH_q0]; exact upd_same
        clear eH_q0
        have g := g.k0 ev_q0
        have hb := (ev_q0 (M := [])).k0 hb
        have pp := Fr.put (o := .dK (putK k4 (.inr f) (.ref q0))) g.d4
        refine ⟨_, rfl, o, CS, _, _, _, rfl, g.at_, T.cS, T.s4, g.f4, _, rfl, b, _, _, _, rfl, rfl, SqT.of hb, rfl, a4, _, rfl, DPut.k (k := .inr f) g.d4 (show k4.length < sizeLine by omega), k1, k2, k3, putK k4 (.inr f) (.ref q0), _, rfl, ⟨pp.k1 g.at_ o4, g.f1, g.f2, g.f3, g.f4, g.m1, g.m2, g.m3, g.m4, pp.k1 g.d1 n14, pp.k1 g.d2 n24, pp.k1 g.d3 n34, upd_same, fun f2 c2 h => ?_, fun f2 a' b' h => ?_, fun f2 a' h => ?_, fun f2 h => ?_⟩, by omega, by omega, by omega, Nat.le_trans (length_putK _ _ _) (by omega), (fr.t0 ev_q0).t1 pp (.inr n40)⟩
        · rcases mem _ h with e | h
          · cases e
          · exact g.p1 _ _ h
        · rcases mem _ h with e | h
          · cases e
          · exact g.p2 _ _ _ h
        · rcases mem _ h with e | h
          · cases e
          · obtain ⟨b, h1, h2⟩ := g.p3 _ _ h
            exact ⟨b, h1, pp.t _ _ h2⟩
        · by_cases z : (Sum.inr f2 : L2.Key) = Sum.inr f
          · refine ⟨q0, ?_, ?_⟩
            · show valV (putK k4 (.inr f) (.ref q0)) (.inr f2) = _
              rw [valV_put, if_pos z]
            · rw [Sum.inr.inj z]
              exact pp.t _ _ h_q0
          · rcases mem _ h with e | h
            · cases e
              exact (z rfl).elim
            · obtain ⟨b, h1, h2⟩ := g.p4 _ h
              refine ⟨b, ?_, pp.t _ _ h2⟩
              show valV (putK k4 (.inr f) (.ref q0)) (.inr f2) = _
              rw [valV_put, if_neg z]
              exact h1
    · rintro σ H9 ⟨k1, k2, k3, k4, v2, rfl, g, l1, l2, l3, l4, fr⟩
      rw [List.take_of_length_le (by omega)] at g
      exact k H9 ⟨_, g⟩ fr
end

end K45

set_option maxHeartbeats 4000000
namespace K45
open PySem PySem.Spec PyProof.Rows L2
section
variable {P : Program} {w : World} {K : PySem.W.Frag} {mg : Str → Option Value} {base : Heap}
theorem BfAt.k0 {H H' : Hp} (f : Fr [] H H') {v : V} {o : Option Ce} (h : BfAt H v o) : BfAt H' v o := h.mono f.t
abbrev s_placed : Stmt := top 7
abbrev N_placed : List Str := ["box", "scale", "letters", "offset", "end", "before", "letter"]
theorem sc_placed : FnScope ["box", "scale", "letters", "offset", "end", "before", "letter"] ["box", "scale"] (defScope s_placed) := ⟨rfl, rfl, rfl, by decide +kernel, rfl, by decide +kernel, by decide +kernel⟩
theorem c_placed (F : Df K mg "placed_letters" s_placed) (G : Gn mg) {CS CI CF : Addr} (mt_overlap : C8.Met P w K mg base 1 CS "overlap" (spOverlap CS) []) (mt_letter_width : C8.Met P w K mg base 1 CS "letter_width" (spLwidth CS) []) : C8.Cal P w K mg base 2 "placed_letters" (spPlaced CS) [] := by
  refine cal_by F sc_placed (fun _ _ _ _ _ _ us hl => match us, hl with | [_, _], _ => rfl) (fun vs H Q E h => ?_) (fun f cdv A outer s H vs Q E hr h => ?_)
  · obtain ⟨b, o, us, box, F, P, rfl, _⟩ := h
    rfl
  · obtain ⟨b, o, us, box, F, P, rfl, h_b, hT, hsc, hbp, hbl, k⟩ := h
    have sc := sc_placed
    refine ⟨_, (pss_cons (ps_set (i := 2) sc.nd rfl (Or.inl rfl) (pe_lst pa_nil))
      (pss_cons (ps_set (i := 3) sc.nd rfl (Or.inl rfl) pe_int)
      (pss_cons (ps_set (i := 4) sc.nd rfl (Or.inl rfl) pe_int)
      (pss_cons (ps_set (i := 5) sc.nd rfl (Or.inl rfl) pe_non)
      (pss_cons (ps_for PassesOwn.never rfl (pi_list (pv 0)) (pg_name (i := 6) sc.nd rfl (Or.inl rfl))
        (C8.pss_cut (ps_if (pt_cmpR op_notN (pv 5) pe_non (nomark _))
          (pss_one (ps_set (i := 3) sc.nd rfl (Or.inl rfl) (pe_op op_sub (pv 4) (C8.pe_mt mt_overlap hr (by decide) (pv 1) (pa_cons (pv 5) (pa_cons (pv 6) pa_nil))))))
          pss_nil)
        (pss_cons (ps_expr (pe_bm PySem.F.plainAttrs_list PySem.F.slot_list_append PySem.F.type_list_append mt_append (pv 2) (pa_cons (pe_tup (pa_cons (pe_ix ix_tup (pv 6) pe_int (fun _ _ => rfl)) (pa_cons (pv 3) (pa_cons (pe_ix ix_tup (pv 6) pe_int (fun _ _ => rfl)) (pa_cons (pe_ix ix_tup (pv 6) pe_int (fun _ _ => rfl)) pa_nil))))) pa_nil)))
        (pss_cons (ps_set (i := 4) sc.nd rfl (Or.inl rfl) (pe_op op_add (pv 3) (C8.pe_mt mt_letter_width hr (by decide) (pv 1) (pa_cons (pv 6) pa_nil))))
        (pss_one (ps_set (i := 5) sc.nd rfl (Or.inl rfl) (pv 6)))))))
      (pss_one (ps_ret (pe_tup (pa_cons (pv 4) (pa_cons (pe_callTy call_tuple_of rfl G.n_tuple (by decide +kernel) (pa_cons (pv 2) pa_nil)) pa_nil)))))))))), ?_⟩
    have hz := big
    have hul : us.length = box.length := by rw [hT.length, List.length_map]
    refine ⟨(by show 0 ≤ sizeLine; omega), fun l n_l => ?_⟩
    have l0 := n_l
    generalize eH_l : upd H l _ = H1
    have ev_l : ∀ {M : List Addr}, Fr M H H1 := by intro M; rw [← eH_l]; exact Fr.new n_l
    have h_l : H1 l = some (.lst []) := by rw [← eH_l]; exact upd_same
    clear eH_l
    refine ⟨_, rfl, b, rfl, ⟨_, SqL.of ((ev_l (M := [])).k0 h_b)⟩, for_list (xs := us) (fun i σ H' => ∃ (ls : List PL) (e off : Int) (bf : Option Ce) (pv : V) (vs : List V) (v6 : Option V), σ = [some (.ref b), some (.ref o), some (.ref l), some (.int off), some (.int e), some pv, v6] ∧
      (ls, e, bf) = (box.take i).foldl (plStep F) ([], 0, none) ∧ H' l = some (.lst vs) ∧ Trs H' vs (ls.map plD) ∧ BfAt H' pv bf ∧ (bf = none → off = 0) ∧ (∀ x, bf = some x → ∃ j, i = j + 1 ∧ box[j]? = some x) ∧ ls.length = i ∧ Fr [] H H') ?_ ?_ ?_ ?_⟩
    · exact ⟨[], 0, 0, none, .non, [], _, rfl, rfl, h_l, .nil, rfl, fun _ => rfl, (fun x h => by cases h), rfl, ev_l⟩
    · rintro i σ H2 _ ⟨ls, e, off, bf, pv, vs, v6, rfl, es, h_l, ht, hb, ho, hbf, hll, fr⟩
      exact SqL.of (fr.k0 h_b)
    · rintro i x σ H2 hi ⟨ls, e, off, bf, pv, vs, v6, rfl, es, h_l, ht, hb, ho, hbf, hll, fr⟩
      obtain ⟨d, hd, hx⟩ := hT.get' hi
      rw [List.getElem?_map] at hd
      cases el : box[i]? with
      | none => rw [el] at hd; cases hd
      | some le =>
        rw [el] at hd
        cases hd
        have hil := (List.getElem?_eq_some_iff.mp el).1
        obtain ⟨hp, hs⟩ := hbp.1 le (List.mem_of_getElem? el)
        have hx := hx.mono fr.t
        have et : (box.take (i + 1)).foldl (plStep F) ([], 0, none) = plStep F (ls, e, bf) le := by
          rw [List.take_add_one, el]
          show (box.take i ++ [le]).foldl _ _ = _
          rw [List.foldl_append, ← es] <;> rfl
        refine ⟨fun σ' H' => σ' = [some (.ref b), some (.ref o), some (.ref l), some (.int (offF F e bf le)), some (.int e), some pv, some x] ∧ Fr [] H2 H', ?_, ?_⟩
        · cases bf with
          | none =>
            cases hb
            have e0 : off = 0 := ho rfl
            subst e0
            exact ⟨_, rfl, rfl, _, rfl, ite2 (fun hc => absurd hc (by decide)) (fun _ => ⟨rfl, Fr.refl _ _⟩)⟩
          | some b0 =>
            obtain ⟨X, g⟩ := hsc.k0 fr
            obtain ⟨j, ej, hj⟩ := hbf b0 rfl
            subst ej
            have hov := hbp.2 j b0 le hj el
            have hs0 := (hbp.1 b0 (List.mem_of_getElem? hj)).2
            obtain ⟨y, rfl, hy⟩ := Tr.flat (id hb : Tr H2 pv (.tup _)) rfl
            refine ⟨_, rfl, rfl, _, rfl, ite2 (fun _ => ?_) (fun hc => (hc (by simp)).elim)⟩
            exact ⟨_, rfl, _, rfl, o, _, _, rfl, g.at_, g.m2, _, rfl, _, rfl, o, _, _, b0, le, F, P, rfl, ⟨X, g⟩, hb, hx, hs0, hov, fun H3 f3 => ⟨_, _, rfl, rfl, rfl, f3⟩⟩
        · rintro σ' H3 ⟨rfl, f3⟩
          have hx := hx.mono f3.t
          have fr := fr.t0 f3
          have h_l := f3.k0 h_l
          have ht := ht.mono f3.t
          have hvl : vs.length = i := by rw [ht.length, List.length_map, hll]
          obtain ⟨c, rfl, hc⟩ := Tr.flat (id hx : Tr H3 x (.tup _)) rfl
          refine ⟨_, rfl, Or.inl ⟨rfl, _, SqL.of h_l⟩, _, rfl, c, _, _, _, rfl, rfl, SqT.of hc, rfl, _, rfl, _, rfl, c, _, _, _, rfl, rfl, SqT.of hc, rfl, _, rfl, c, _, _, _, rfl, rfl, SqT.of hc, rfl, (by show 4 ≤ sizeLine; omega), fun q n_q => ?_⟩
          generalize eH_q : upd H3 q _ = H4
          have ev_q : ∀ {M : List Addr}, Fr M H3 H4 := by intro M; rw [← eH_q]; exact Fr.new n_q
          have h_q : H4 q = some (.tup [.str (ch le.c), .int (offF F e bf le), .int le.z, .str le.f]) := by rw [← eH_q]; exact upd_same
          clear eH_q
          have h_l := (ev_q (M := [])).k0 h_l
          have fp := Fr.put (o := .lst (vs ++ [.ref q])) h_l
          refine ⟨_, _, _, rfl, rfl, h_l, (by omega), ?_⟩
          have hx := (hx.mono (ev_q (M := [])).t).mono fp.t
          have fr := (fr.t0 ev_q).t1 fp (.inr l0)
          have ht := ((ht.mono (ev_q (M := [])).t).mono fp.t).snoc ((Tr.of_flat (ds := [.str (ch le.c), .int (offF F e bf le), .int le.z, .str le.f]) h_q rfl).mono fp.t)
          have h_l : (upd H4 l (.lst (vs ++ [.ref q]))) l = some (.lst (vs ++ [.ref q])) := upd_same
          generalize upd H4 l (.lst (vs ++ [.ref q])) = H5 at *
          obtain ⟨X, g⟩ := hsc.k0 fr
          refine ⟨_, rfl, _, rfl, o, _, _, rfl, g.at_, g.m1, _, rfl, o, _, le, F, P, rfl, ⟨X, g⟩, hx, hs, hp, fun H6 f6 => ⟨_, _, rfl, rfl, _, rfl, ls ++ [⟨le.c, offF F e bf le, le.z, le.f⟩], offF F e bf le + le.z * (F le.f).adv le.c, _, some le, .ref c, vs ++ [.ref q], _, rfl, by rw [et] <;> rfl, f6.k0 h_l, ?_, hx.mono f6.t, (fun h => by cases h), fun x h => ⟨i, rfl, by cases h; exact el⟩, by rw [List.length_append, hll] <;> rfl, fr.t0 f6⟩⟩
          rw [List.map_append]
          exact ht.mono f6.t
    · rintro σ H2 ⟨ls, e, off, bf, pv, vs, v6, rfl, es, h_l, ht, hb, ho, hbf, hll, fr⟩
      rw [List.take_of_length_le (by omega)] at es
      have es : (ls, e, bf) = plF F box := es
      have e1 : (plF F box).1 = ls := by rw [← es]
      have e2 : (plF F box).2.1 = e := by rw [← es]
      refine ⟨_, rfl, _, rfl, l, _, rfl, Or.inl ⟨SqL.of h_l, fun q n_q => ?_⟩⟩
      generalize eH_q : upd H2 q _ = H3
      have ev_q : ∀ {M : List Addr}, Fr M H2 H3 := by intro M; rw [← eH_q]; exact Fr.new n_q
      have h_q : H3 q = some (.tup vs) := by rw [← eH_q]; exact upd_same
      clear eH_q
      refine ⟨(by show 2 ≤ sizeLine; omega), fun t n_t => ?_⟩
      refine k (.ref t) _ ?_ ((fr.t0 ev_q).t0 (Fr.new n_t))
      unfold placedD
      rw [e1, e2]
      have f := Fr.new (M := []) (o := .tup [.int e, .ref q]) n_t
      exact .tup upd_same (.cons (.int _) (.cons (.tup (f.k0 h_q) ((ht.mono (ev_q (M := [])).t).mono f.t)) .nil))
end

end K45

set_option maxHeartbeats 4000000
namespace K45
open PySem PySem.Spec PyProof.Rows L2
section
variable {P : Program} {w : World} {K : PySem.W.Frag} {mg : Str → Option Value} {base : Heap}
theorem last_at {us : List V} {H : Hp} {b : List Ce} (t : Trs H us (b.map ceD)) (h : b ≠ []) : ∃ v, atI us (-1) = some v ∧ Tr H v (ceD (lastC b)) := by
  obtain ⟨r, x, e⟩ := snoc_ex h
  have hl : us.length = r.length + 1 := by rw [t.length, List.length_map, e, List.length_append] <;> rfl
  obtain ⟨v, h1, h2⟩ := t.get (i := r.length) (d := ceD x) (by rw [List.getElem?_map, e]; simp)
  refine ⟨v, atI_end hl h1, ?_⟩
  have : lastC b = x := by unfold lastC; rw [e]; simp
  rw [this]
  exact h2
theorem head_at {us : List V} {H : Hp} {b : List Ce} (t : Trs H us (b.map ceD)) (h : b ≠ []) : ∃ v, atI us 0 = some v ∧ Tr H v (ceD (headC b)) := by
  cases b with
  | nil => exact (h rfl).elim
  | cons x r =>
    obtain ⟨v, h1, h2⟩ := t.get (i := 0) (d := ceD x) rfl
    exact ⟨v, atI_nat (j := 0) h1, h2⟩
theorem lastC_mem {b : List Ce} (h : b ≠ []) : lastC b ∈ b := by
  obtain ⟨r, x, e⟩ := snoc_ex h
  have : lastC b = x := by unfold lastC; rw [e]; simp
  rw [this, e]
  simp
/-- the joints so far -/
structure JoI (l : Addr) (H0 : Hp) (H : Hp) (js : List Jt) (us : List V) : Prop where
  hl : H l = some (.lst us)
  t : Trs H us (js.map jtD)
  fr : Fr [] H0 H
  n : H0 l = none
theorem JoI.len {l : Addr} {H0 H : Hp} {js : List Jt} {us : List V} (I : JoI l H0 H js us) : us.length = js.length := by rw [I.t.length, List.length_map]
theorem JoI.k0 {l : Addr} {H0 H H' : Hp} {js : List Jt} {us : List V} (I : JoI l H0 H js us) (f : Fr [] H H') : JoI l H0 H' js us := ⟨f.k0 I.hl, I.t.mono f.t, I.fr.t0 f, I.n⟩
theorem JoI.app {l : Addr} {H0 H : Hp} {js : List Jt} {us : List V} (I : JoI l H0 H js us) {v : V} {j : Jt} (h : Tr H v (jtD j)) : JoI l H0 (upd H l (.lst (us ++ [v]))) (js ++ [j]) (us ++ [v]) :=
  ⟨upd_same, by
    rw [List.map_append]
    exact (I.t.mono (Fr.put I.hl).t).snoc (h.mono (Fr.put I.hl).t), I.fr.t1 (Fr.put I.hl) (.inr I.n), I.n⟩
theorem wordJ_len (F : Fcs) (w : List (List Ce)) : (wordJ F w).length = w.length - 1 := by unfold wordJ; rw [List.length_map, List.length_range]
theorem rng_snoc (F : Fcs) (w : List (List Ce)) (k : Nat) : (List.range (k + 1)).map (fun k => hypJ F (lastC (w.getD k [])) (headC (w.getD (k + 1) []))) = (List.range k).map (fun k => hypJ F (lastC (w.getD k [])) (headC (w.getD (k + 1) []))) ++ [hypJ F (lastC (w.getD k [])) (headC (w.getD (k + 1) []))] := by
  rw [List.range_succ, List.map_append] <;> rfl
abbrev s_joints : Stmt := top 8
abbrev N_joints : List Str := ["words", "spaces", "scale", "joints", "number", "word", "k"]
theorem sc_joints : FnScope ["words", "spaces", "scale", "joints", "number", "word", "k"] ["words", "spaces", "scale"] (defScope s_joints) := ⟨rfl, rfl, rfl, by decide +kernel, rfl, by decide +kernel, by decide +kernel⟩
theorem c_joints (F : Df K mg "joints_of" s_joints) (G : Gn mg) {CS CI CF : Addr} (mt_gap_joint : C8.Met P w K mg base 1 CS "gap_joint" (spGjoint CS) []) (mt_hyphen_joint : C8.Met P w K mg base 2 CS "hyphen_joint" (spHjoint CS) []) : C8.Cal P w K mg base 3 "joints_of" (spJoints CS) [] := by
  refine cal_by F sc_joints (fun _ _ _ _ _ _ us hl => match us, hl with | [_, _, _], _ => rfl) (fun vs H Q E h => ?_) (fun f cdv A outer s H vs Q E hr h => ?_)
  · obtain ⟨wa, sa, o, L, ss, ws, sp, F, P, rfl, _⟩ := h
    rfl
  · obtain ⟨wa, sa, o, L, ss, ws, sp, F, P, rfl, h_wa, hW, h_sa, hS, hsc, hne, hn, hwp, hspp, hfl, hwl, k⟩ := h
    have sc := sc_joints
    refine ⟨_, (pss_cons (ps_set (i := 3) sc.nd rfl (Or.inl rfl) (pe_lst pa_nil))
      (pss_cons (ps_for PassesOwn.never rfl (pi_enum rfl G.n_enumerate (pa_cons (pv 0) pa_nil)) (pg_tup rfl (pgs_cons (pg_name (i := 4) sc.nd rfl (Or.inl rfl)) (pgs_cons (pg_name (i := 5) sc.nd rfl (Or.inl rfl)) pgs_nil)))
        (C8.pss_cut (ps_if (pt_cmpR op_gt (pv 4) pe_int (nomark _))
          (pss_one (ps_expr (pe_bm PySem.F.plainAttrs_list PySem.F.slot_list_append PySem.F.type_list_append mt_append (pv 3) (pa_cons (C8.pe_mt mt_gap_joint hr (by decide) (pv 2) (pa_cons (pe_ix ix_list (pv 1) (pe_op op_sub (pv 4) pe_int) (fun _ _ => rfl)) pa_nil)) pa_nil))))
          pss_nil)
        (pss_one (ps_for PassesOwn.never rfl (pi_range2 rfl G.n_range (pa_cons pe_int (pa_cons (pe_callB call_len_seq rfl G.n_len (by decide +kernel) (pa_cons (pv 5) pa_nil)) pa_nil))) (pg_name (i := 6) sc.nd rfl (Or.inl rfl))
          (pss_one (ps_expr (pe_bm PySem.F.plainAttrs_list PySem.F.slot_list_append PySem.F.type_list_append mt_append (pv 3) (pa_cons (C8.pe_mt mt_hyphen_joint hr (by decide) (pv 2) (pa_cons (pe_ix ix_list (pe_ix ix_list (pv 5) (pe_op op_sub (pv 6) pe_int) (fun _ _ => rfl)) (pe_un un_neg pe_int) (fun _ _ => rfl)) (pa_cons (pe_ix ix_list (pe_ix ix_list (pv 5) (pv 6) (fun _ _ => rfl)) pe_int (fun _ _ => rfl)) pa_nil))) pa_nil))))))))
      (pss_one (ps_ret (pe_callTy call_tuple_of rfl G.n_tuple (by decide +kernel) (pa_cons (pv 3) pa_nil)))))), ?_⟩
    have hz := big
    have hhl : (heads L).length = ws.length := by unfold heads; rw [List.length_map, hW.len]
    have hssl : ss.length = sp.length := by rw [hS.length, List.length_map]
    refine ⟨(by show 0 ≤ sizeLine; omega), fun l n_l => ?_⟩
    have l0 := n_l
    generalize eH_l : upd H l _ = H1
    have ev_l : ∀ {M : List Addr}, Fr M H H1 := by intro M; rw [← eH_l]; exact Fr.new n_l
    have h_l : H1 l = some (.lst []) := by rw [← eH_l]; exact upd_same
    clear eH_l
    have I : JoI l H H1 [] [] := ⟨h_l, .nil, ev_l, l0⟩
    refine ⟨_, rfl, wa, heads L, rfl, SqL.of (I.fr.k0 h_wa), for_it (walk_enum (xs := heads L)) (fun i σ H' => ∃ (us : List V) (v4 v5 v6 : Option V), σ = [some (.ref wa), some (.ref sa), some (.ref o), some (.ref l), v4, v5, v6] ∧
      JoI l H H' ((List.range i).map (jAt F ws sp)).flatten us ∧ us.length ≤ i + (ws.take i).flatten.length) ?_ ?_ ?_ ?_⟩
    · exact ⟨[], _, _, _, rfl, I, Nat.le_refl _⟩
    · rintro i σ H' _ ⟨us, v4, v5, v6, rfl, I, hul⟩
      exact SqL.of (I.fr.k0 h_wa)
    · rintro i y σ H2 H3' hi ⟨us, v4, v5, v6, rfl, I, hul⟩ ⟨TT, u, x, rfl, n_TT, rfl, eu, hx⟩
      cases eu
      have hi2 : i < ws.length := by rw [← hhl]; exact hi
      generalize eH_TT : upd H2 TT _ = H3
      have ev_TT : ∀ {M : List Addr}, Fr M H2 H3 := by intro M; rw [← eH_TT]; exact Fr.new n_TT
      have h_TT : H3 TT = some (.tup [.int (i : Nat), x]) := by rw [← eH_TT]; exact upd_same
      clear eH_TT
      have I := I.k0 ev_TT
      obtain ⟨word, ew, hwm⟩ := get_of hi2
      obtain ⟨wx, bs, e1, h_wx, hrows⟩ := hW.get ew
      have hx : (heads L)[i]? = some x := hx
      rw [hx] at e1
      cases e1
      have hbl : bs.length = word.length := by rw [hrows.len, List.length_map]
      have htf : (ws.take (i + 1)).flatten.length = (ws.take i).flatten.length + word.length := by
        rw [List.take_add_one, ew]
        show (ws.take i ++ [word]).flatten.length = _
        simp
      have htl : (ws.take (i + 1)).flatten.length ≤ ws.flatten.length := by
        have : ws.flatten = (ws.take (i + 1)).flatten ++ (ws.drop (i + 1)).flatten := by rw [← List.flatten_append, List.take_append_drop]
        rw [this, List.length_append]
        omega
      obtain ⟨hwn, hwb⟩ := hne word hwm
      have hwl1 : 1 ≤ word.length := by
        cases word with
        | nil => exact (hwn rfl).elim
        | cons _ _ => exact Nat.succ_le_succ (Nat.zero_le _)
      have er : ((List.range (i + 1)).map (jAt F ws sp)).flatten = ((List.range i).map (jAt F ws sp)).flatten ++ jAt F ws sp i := by
        rw [List.range_succ, List.map_append, List.flatten_append]
        simp
      generalize eP : ((List.range i).map (jAt F ws sp)).flatten = pre at *
      refine ⟨_, _, rfl, SqT.of (h_TT), rfl, _, _, rfl, _, _, rfl, rfl, fun σ' H' => ∃ us : List V, σ' = [some (.ref wa), some (.ref sa), some (.ref o), some (.ref l), some (.int (i : Nat)), some (.ref wx), v6] ∧ JoI l H H' (pre ++ (if i = 0 then [] else [gapJ F (sp.getD (i - 1) (0, ""))])) us ∧ us.length ≤ i + 1 + (ws.take i).flatten.length, ?_, ?_⟩
      · refine ⟨_, rfl, _, _, rfl, rfl, _, rfl, ite2 (fun hc => ?_) (fun hc => ?_)⟩
        · have hi0 : 0 < i := by
            have := of_decide_eq_true hc
            omega
          have hsl : i - 1 < sp.length := by
            rcases hn with e | ⟨e, _⟩
            · omega
            · rw [e] at hi2
              cases hi2
          obtain ⟨z, ez, hzm⟩ := get_of hsl
          obtain ⟨v, ev, hv⟩ := hS.get (i := i - 1) (d := spD z) (by rw [List.getElem?_map, ez] <;> rfl)
          obtain ⟨hp1, hp2, hp3⟩ := hspp z hzm
          obtain ⟨X, g⟩ := hsc.k0 I.fr
          have h_sa2 := I.fr.k0 h_sa
          refine ⟨_, rfl, Or.inl ⟨rfl, _, SqL.of I.hl⟩, _, rfl, o, _, _, rfl, g.at_, g.m4, _, rfl, _, rfl, _, _, rfl, rfl, sa, _, _, v, rfl, rfl, SqL.of h_sa2, (by rw [show ((i : Nat) : Int) - 1 = ((i - 1 : Nat) : Int) by omega]; exact atI_nat ev), o, v, z, F, P, rfl, ⟨X, g⟩, hv.mono I.fr.t, hp1, ⟨hp2, hp3⟩, fun w H4 hw f4 => ?_⟩
          have I := I.k0 f4
          refine ⟨_, _, _, rfl, rfl, I.hl, (by omega), us ++ [w], rfl, ?_, by rw [List.length_append]; show us.length + 1 ≤ _; omega⟩
          have e : sp.getD (i - 1) (0, "") = z := by rw [List.getD_eq_getElem?_getD, ez] <;> rfl
          rw [if_neg (by omega), e]
          exact I.app hw
        · have hi0 : i = 0 := by
            have : ¬ (0 : Int) < (i : Int) := fun h => hc (decide_eq_true h)
            omega
          refine ⟨us, rfl, ?_, by omega⟩
          rw [if_pos hi0, List.append_nil]
          exact I
      · rintro σ' H4 ⟨us, rfl, I, hul⟩
        have h_wx4 := I.fr.k0 h_wx
        have en : (((bs.map V.ref).length : Int) - 1).toNat = word.length - 1 := by rw [List.length_map]; omega
        refine ⟨_, rfl, wx, bs.map V.ref, rfl, .inl (SqL.of h_wx4), 1, _, rfl, ⟨by omega, by omega, by omega, by rw [List.length_map]; omega⟩, for_range (n := (((bs.map V.ref).length : Int) - 1).toNat) (fun m σ H' => ∃ (us : List V) (v6 : Option V), σ = [some (.ref wa), some (.ref sa), some (.ref o), some (.ref l), some (.int (i : Nat)), some (.ref wx), v6] ∧
          JoI l H H' ((pre ++ (if i = 0 then [] else [gapJ F (sp.getD (i - 1) (0, ""))])) ++ (List.range m).map (fun k => hypJ F (lastC (word.getD k [])) (headC (word.getD (k + 1) [])))) us ∧ us.length ≤ i + 1 + (ws.take i).flatten.length + m) ?_ ?_ ?_⟩
        · exact ⟨us, _, rfl, by rw [List.range_zero, List.map_nil, List.append_nil]; exact I, hul⟩
        · rintro m σ H5 hm ⟨us, v6, rfl, I, hul⟩
          rw [en] at hm
          have h_wx5 := I.fr.k0 h_wx
          have hr5 := hrows.k0 I.fr
          obtain ⟨b1, eb1, mb1⟩ := get_of (l := word) (j := m) (by omega)
          obtain ⟨b2, eb2, mb2⟩ := get_of (l := word) (j := m + 1) (by omega)
          obtain ⟨x1, us1, ex1, h_x1, t1⟩ := hr5.get (i := m) (ds := b1.map ceD) (by rw [List.getElem?_map, eb1] <;> rfl)
          obtain ⟨x2, us2, ex2, h_x2, t2⟩ := hr5.get (i := m + 1) (ds := b2.map ceD) (by rw [List.getElem?_map, eb2] <;> rfl)
          obtain ⟨hb1n, hb1s⟩ := hwb b1 mb1
          obtain ⟨hb2n, hb2s⟩ := hwb b2 mb2
          obtain ⟨v1, a1, hv1⟩ := last_at t1 hb1n
          obtain ⟨v2, a2, hv2⟩ := head_at t2 hb2n
          obtain ⟨hp1, hp2⟩ := hwp word hwm m b1 b2 eb1 eb2
          obtain ⟨X, g⟩ := hsc.k0 I.fr
          refine ⟨_, rfl, Or.inl ⟨rfl, _, SqL.of I.hl⟩, _, rfl, o, _, _, rfl, g.at_, g.m3, _, rfl, _, rfl, _, _, rfl, rfl, wx, _, _, V.ref x1, rfl, rfl, SqL.of h_wx5, (by rw [show (1 : Int) + (m : Nat) - 1 = ((m : Nat) : Int) by omega]; exact atI_nat (by rw [List.getElem?_map, ex1] <;> rfl)), _, rfl, x1, _, _, v1, rfl, rfl, SqL.of h_x1, a1,
            _, rfl, _, rfl, wx, _, _, V.ref x2, rfl, rfl, SqL.of h_wx5, (by rw [show (1 : Int) + (m : Nat) = ((m + 1 : Nat) : Int) by omega]; exact atI_nat (by rw [List.getElem?_map, ex2] <;> rfl)), x2, _, _, v2, rfl, rfl, SqL.of h_x2, a2, o, v1, v2, lastC b1, headC b2, F, P, rfl, ⟨X, g⟩, hv1, hv2, hb1s _ (lastC_mem hb1n), hp2, hp1, fun w H6 hw f6 => ?_⟩
          have I := I.k0 f6
          refine ⟨_, _, _, rfl, rfl, I.hl, (by omega), us ++ [w], _, rfl, ?_, by rw [List.length_append]; show us.length + 1 ≤ _; omega⟩
          have g1 : word.getD m [] = b1 := by rw [List.getD_eq_getElem?_getD, eb1] <;> rfl
          have g2 : word.getD (m + 1) [] = b2 := by rw [List.getD_eq_getElem?_getD, eb2] <;> rfl
          rw [rng_snoc, ← List.append_assoc, g1, g2]
          exact I.app hw
        · rintro σ H5 ⟨us, v6, rfl, I, hul⟩
          rw [en] at I hul
          refine ⟨us, _, _, _, rfl, ?_, by omega⟩
          rw [er]
          have gw : ws.getD i [] = word := by rw [List.getD_eq_getElem?_getD, ew] <;> rfl
          unfold jAt wordJ
          rw [gw, ← List.append_assoc]
          exact I
    · rintro σ H2 ⟨us, v4, v5, v6, rfl, I, hul⟩
      rw [hhl] at I
      refine ⟨_, rfl, l, _, rfl, Or.inl ⟨SqL.of I.hl, fun q n_q => ?_⟩⟩
      exact k (.ref q) _ (.tup upd_same (I.t.mono (Fr.new (M := []) n_q).t)) (I.fr.t0 (Fr.new n_q))
end

end K45

set_option maxHeartbeats 4000000
namespace K45
open PySem PySem.Spec PyProof.Rows L2
section
variable {P : Program} {w : World} {K : PySem.W.Frag} {mg : Str → Option Value} {base : Heap}
/-! what the folds keep -/
def FlB (N : Nat) (st : FL) : Prop := ∀ p n, (st.1 p = some n → n < N) ∧ (st.2 p = some n → n < N)
theorem FlB.step {N i : Nat} {st : FL} (h : FlB N st) (hi : i < N) (l : Ce) : FlB N (flStep i st l) := by
  intro p n
  refine ⟨fun e => ?_, fun e => ?_⟩
  · have e : (if p = l.p then some ((st.1 p).getD i) else st.1 p) = some n := e
    split at e
    · cases e2 : st.1 p with
      | none => rw [e2] at e; cases e; exact hi
      | some m => rw [e2] at e; cases e; exact (h p m).1 e2
    · exact (h p n).1 e
  · have e : (if p = l.p then some i else st.2 p) = some n := e
    split at e
    · cases e; exact hi
    · exact (h p n).2 e
theorem FlB.box {N i : Nat} (hi : i < N) : ∀ (b : List Ce) {st : FL}, FlB N st → FlB N (b.foldl (flStep i) st)
  | [], _, h => h
  | l :: b, _, h => FlB.box hi b (h.step hi l)
theorem fl_keep {i : Nat} {p : Nat} : ∀ (b : List Ce) {st : FL}, st.1 p ≠ none → (b.foldl (flStep i) st).1 p ≠ none
  | [], _, h => h
  | l :: b, st, h => fl_keep b (st := flStep i st l) (by
    show (if p = l.p then some ((st.1 p).getD i) else st.1 p) ≠ none
    split
    · simp
    · exact h)
theorem fl_in {i : Nat} {p : Nat} : ∀ (b : List Ce) {st : FL}, (∃ l ∈ b, l.p = p) → (b.foldl (flStep i) st).1 p ≠ none
  | [], _, h => by
    obtain ⟨l, h, _⟩ := h
    cases h
  | x :: b, st, h => by
    obtain ⟨l, h, e⟩ := h
    rcases List.mem_cons.mp h with rfl | h
    · refine fl_keep b (st := flStep i st l) ?_
      show (if p = l.p then some ((st.1 p).getD i) else st.1 p) ≠ none
      rw [if_pos e.symm]
      simp
    · exact fl_in b ⟨l, h, e⟩
theorem fl_keeps {p : Nat} : ∀ (xs : List (List Ce × Nat)) {st : FL}, st.1 p ≠ none → (xs.foldl (fun st x => x.1.foldl (flStep x.2) st) st).1 p ≠ none
  | [], _, h => h
  | x :: xs, _, h => fl_keeps xs (fl_keep x.1 h)
theorem fl_ins {p : Nat} : ∀ (xs : List (List Ce × Nat)) {st : FL}, (∃ x ∈ xs, ∃ l ∈ x.1, l.p = p) → (xs.foldl (fun st x => x.1.foldl (flStep x.2) st) st).1 p ≠ none
  | [], _, h => by
    obtain ⟨l, h, _⟩ := h
    cases h
  | y :: xs, st, h => by
    obtain ⟨x, h, e⟩ := h
    rcases List.mem_cons.mp h with rfl | h
    · exact fl_keeps xs (fl_in x.1 e)
    · exact fl_ins xs ⟨x, h, e⟩
theorem fl_there {boxes : List (List Ce)} {p : Nat} (h : ∃ l ∈ boxes.flatten, l.p = p) : (flF boxes).1 p ≠ none := by
  obtain ⟨l, hl, e⟩ := h
  obtain ⟨b, hb, hl⟩ := List.mem_flatten.mp hl
  obtain ⟨i, hi⟩ := List.getElem?_of_mem hb
  refine fl_ins _ ⟨(b, i), ?_, l, hl, e⟩
  exact List.mem_of_getElem? (i := i) (by rw [List.getElem?_zipIdx, hi]; simp)
/-- the two dicts -/
def FlAt (H : Hp) (fd ld : Addr) (fk lk : List (L2.Key × V)) (st : FL) (n : Nat) : Prop :=
  H fd = some (.dK fk) ∧ H ld = some (.dK lk) ∧ (∀ p : Nat, valV fk (Sum.inl (p : Int)) = (st.1 p).map fun n => V.int (n : Int)) ∧ (∀ p : Nat, valV lk (Sum.inl (p : Int)) = (st.2 p).map fun n => V.int (n : Int)) ∧ fk.length ≤ n ∧ lk.length ≤ n
theorem FlAt.k0 {H H' : Hp} {fd ld : Addr} {fk lk : List (L2.Key × V)} {st : FL} {n : Nat} (h : FlAt H fd ld fk lk st n) (f : Fr [] H H') : FlAt H' fd ld fk lk st n := ⟨f.k0 h.1, f.k0 h.2.1, h.2.2⟩
theorem inl_nat {a b : Nat} : (Sum.inl (a : Int) : L2.Key) = Sum.inl (b : Int) ↔ a = b := ⟨fun h => by have := Sum.inl.inj h; omega, fun h => by rw [h]⟩
/-- one list more grows -/
theorem RowsAt.add {H : Hp} : ∀ {as : List Addr} {ms : List (List Dt)} {j : Nat} {ds : List Dt}, RowsAt H as ms → as.Nodup → ms[j]? = some ds → ∃ a vs, as[j]? = some a ∧ H a = some (.lst vs) ∧ vs.length = ds.length ∧
    ∀ (v : V) (d : Dt), Tr H v d → RowsAt (upd H a (.lst (vs ++ [v]))) as (addAt ms j d)
  | _, _, _, _, .nil, _, e => by simp at e
  | _, _, 0, _, .cons (a := a) (as := as) (vs := vs) (ds := ds) h t r, nd, e => by
    simp at e
    subst e
    refine ⟨a, vs, rfl, h, t.length, fun v d hv => ?_⟩
    have f := Fr.put (o := .lst (vs ++ [v])) h
    show RowsAt _ _ ((ds ++ [d]) :: _)
    exact .cons upd_same ((t.mono f.t).snoc (hv.mono f.t)) (r.keep f fun x hx => by simp only [List.mem_singleton]; exact fun z => (List.nodup_cons.mp nd).1 (z ▸ hx))
  | _, _, j + 1, _, .cons (a := b) (as := as) h t r, nd, e => by
    obtain ⟨a, vs, h1, h2, h3, h4⟩ := r.add (j := j) (List.nodup_cons.mp nd).2 (by simpa using e)
    refine ⟨a, vs, by simpa using h1, h2, h3, fun v d hv => ?_⟩
    have f := Fr.put (o := .lst (vs ++ [v])) h2
    have nb : b ≠ a := fun z => (List.nodup_cons.mp nd).1 (z ▸ List.mem_of_getElem? h1)
    exact .cons (f.k1 h nb) (t.mono f.t) (h4 v d hv)
structure MaI (D : Addr) (as : List Addr) (H0 : Hp) (n : Nat) (H : Hp) (ms : List (List Dt)) : Prop where
  d : H D = some (.lst (as.map V.ref))
  r : RowsAt H as ms
  nd : as.Nodup
  nD : D ∉ as
  new : ∀ a ∈ as, H0 a = none
  len : ∀ x ∈ ms, x.length ≤ n
  fr : Fr [] H0 H
theorem MaI.k0 {D : Addr} {as : List Addr} {H0 : Hp} {n : Nat} {H H' : Hp} {ms : List (List Dt)} (I : MaI D as H0 n H ms) (f : Fr [] H H') : MaI D as H0 n H' ms := ⟨f.k0 I.d, I.r.k0 f, I.nd, I.nD, I.new, I.len, I.fr.t0 f⟩
theorem MaI.le {D : Addr} {as : List Addr} {H0 : Hp} {n m : Nat} {H : Hp} {ms : List (List Dt)} (I : MaI D as H0 n H ms) (h : n ≤ m) : MaI D as H0 m H ms := ⟨I.d, I.r, I.nd, I.nD, I.new, fun x hx => Nat.le_trans (I.len x hx) h, I.fr⟩
theorem addAt_len (ms : List (List Dt)) (j : Nat) (d : Dt) : (addAt ms j d).length = ms.length := List.length_modify _ _ _
theorem addAt_mem {ms : List (List Dt)} {j n : Nat} {d : Dt} (h : ∀ x ∈ ms, x.length ≤ n) : ∀ x ∈ addAt ms j d, x.length ≤ n + 1 := by
  intro x hx
  obtain ⟨i, hi⟩ := List.getElem?_of_mem hx
  unfold addAt at hi
  rw [List.getElem?_modify] at hi
  cases e : ms[i]? with
  | none => rw [e] at hi; simp at hi
  | some y =>
    rw [e] at hi
    have hy := h y (List.mem_of_getElem? e)
    by_cases z : j = i
    · simp [z] at hi
      rw [← hi, List.length_append]
      exact Nat.succ_le_succ hy
    · simp [z] at hi
      rw [← hi]
      exact Nat.le_succ_of_le hy
theorem MaI.add {D : Addr} {as : List Addr} {H0 : Hp} {n : Nat} {H : Hp} {ms : List (List Dt)} (I : MaI D as H0 n H ms) {j : Nat} (hj : j < ms.length) :
    ∃ a vs, (as.map V.ref)[j]? = some (V.ref a) ∧ H a = some (.lst vs) ∧ vs.length ≤ n ∧ H0 a = none ∧ ∀ (v : V) (d : Dt), Tr H v d → MaI D as H0 (n + 1) (upd H a (.lst (vs ++ [v]))) (addAt ms j d) := by
  obtain ⟨ds, eds, hds⟩ := get_of hj
  obtain ⟨a, vs, h1, h2, h3, h4⟩ := I.r.add I.nd eds
  have ha := List.mem_of_getElem? h1
  refine ⟨a, vs, by rw [List.getElem?_map, h1] <;> rfl, h2, by rw [h3]; exact I.len ds hds, I.new a ha, fun v d hv => ?_⟩
  have f := Fr.put (o := .lst (vs ++ [v])) h2
  exact ⟨f.k1 I.d fun z => I.nD (z ▸ ha), h4 v d hv, I.nd, I.nD, I.new, addAt_mem I.len, I.fr.t1 f (.inr (I.new a ha))⟩
abbrev s_marks : Stmt := top 9
abbrev N_marks : List Str := ["resolved", "boxes", "first", "last", "number", "box", "letter", "marks", "current", "place", "run"]
theorem sc_marks : FnScope ["resolved", "boxes", "first", "last", "number", "box", "letter", "marks", "current", "place", "run"] ["resolved", "boxes"] (defScope s_marks) := ⟨rfl, rfl, rfl, by decide +kernel, rfl, by decide +kernel, by decide +kernel⟩
theorem c_marks (F : Df K mg "marks_of" s_marks) (G : Gn mg)   : C8.Cal P w K mg base 1 "marks_of" spMarks [] := by
  refine cal_by F sc_marks (fun _ _ _ _ _ _ us hl => match us, hl with | [_, _], _ => rfl) (fun vs H Q E h => ?_) (fun f cdv A outer s H vs Q E hr h => ?_)
  · obtain ⟨v, ba, bs, rs, boxes, rfl, _⟩ := h
    rfl
  · obtain ⟨v, ba, bs, rs, boxes, rfl, hv, hrl, h_ba, hrows, hbl, hb1, hfl, hsh, k⟩ := h
    have sc := sc_marks
    have hu := hu_of hr
    refine ⟨_, (pss_cons (ps_set (i := 2) sc.nd rfl (Or.inl rfl) pe_dnewK)
      (pss_cons (ps_set (i := 3) sc.nd rfl (Or.inl rfl) pe_dnewK)
      (pss_cons (ps_for PassesOwn.never rfl (pi_enum rfl G.n_enumerate (pa_cons (pv 1) pa_nil)) (pg_tup rfl (pgs_cons (pg_name (i := 4) sc.nd rfl (Or.inl rfl)) (pgs_cons (pg_name (i := 5) sc.nd rfl (Or.inl rfl)) pgs_nil)))
        (pss_one (ps_for PassesOwn.never rfl (pi_list (pv 5)) (pg_name (i := 6) sc.nd rfl (Or.inl rfl))
          (C8.pss_cut (ps_if (pt_cmp (pc_dnotin hu (pe_ix ix_tup (pv 6) pe_int (fun _ _ => rfl)) (pv 2)))
            (pss_one (ps_dput hu (pv 2) (pe_ix ix_tup (pv 6) pe_int (fun _ _ => rfl)) (pv 4) rfl))
            pss_nil)
          (pss_one (ps_dput hu (pv 3) (pe_ix ix_tup (pv 6) pe_int (fun _ _ => rfl)) (pv 4) rfl))))))
      (pss_cons (ps_setLc (i := 7) (own := [("box", 5)])  rfl sc.nd rfl rfl (sw_true rfl rfl rfl (by decide +kernel)) (pi_list (pv 1)) (blkOk_by (N := N_marks) (sc := defScope s_marks) (by decide +kernel)) (fun _ _ _ _ _ => (pg_name (i := 5) sc.nd rfl (Or.inl rfl))) (fun _ _ _ _ _ => pts_nil) (fun _ _ _ _ _ => (pe_lst pa_nil)))
      (pss_cons (ps_set (i := 8) sc.nd rfl (Or.inl rfl) pe_int)
      (pss_cons (ps_for PassesOwn.never rfl (pi_enumT rfl G.n_enumerate (pa_cons (pv 0) pa_nil)) (pg_tup rfl (pgs_cons (pg_name (i := 9) sc.nd rfl (Or.inl rfl)) (pgs_cons (pg_name (i := 10) sc.nd rfl (Or.inl rfl)) pgs_nil)))
        (C8.pss_cut (ps_if (pt_cmpR op_eq (pe_ix ix_tup (pv 10) pe_int (fun _ _ => rfl)) pe_str (nomark _))
          (pss_one (ps_expr (pe_bm PySem.F.plainAttrs_list PySem.F.slot_list_append PySem.F.type_list_append mt_append (pe_ix ix_list (pv 7) (pv 8) (fun _ _ => rfl)) (pa_cons (pe_tup (pa_cons (pe_ix ix_tup (pv 10) pe_int (fun _ _ => rfl)) (pa_cons (pe_ix ix_tup (pv 10) pe_int (fun _ _ => rfl)) pa_nil))) pa_nil))))
          (pss_one (ps_if (pt_cmpR op_eq (pe_ix ix_tup (pv 10) pe_int (fun _ _ => rfl)) pe_str (nomark _))
            (pss_one (ps_expr (pe_bm PySem.F.plainAttrs_list PySem.F.slot_list_append PySem.F.type_list_append mt_append (pe_ix ix_list (pv 7) (pe_dget hu (pv 2) (pv 9) (fun _ _ => rfl)) (fun _ _ => rfl)) (pa_cons (pe_tup (pa_cons pe_str (pa_cons (pe_ix ix_tup (pv 10) pe_int (fun _ _ => rfl)) pa_nil))) pa_nil))))
            pss_nil)))
        (pss_one (ps_if (pt_cmp (pc_din hu (pv 9) (pv 3)))
          (pss_one (ps_set (i := 8) sc.nd rfl (Or.inl rfl) (pe_dget hu (pv 3) (pv 9) (fun _ _ => rfl))))
          pss_nil))))
      (pss_one (ps_ret (pv 7))))))))), ?_⟩
    have hz := big
    obtain ⟨a, vs, rfl, ha, hvs⟩ := hv.inv
    have hvl : vs.length = rs.length := by rw [hvs.length, List.length_map]
    have hbsl : bs.length = boxes.length := by rw [hrows.len, List.length_map]
    have hbml : (bs.map V.ref).length = boxes.length := by rw [List.length_map, hbsl]
    intro fd n_fd
    have fd0 := n_fd
    generalize eH_fd : upd H fd _ = H1
    have ev_fd : ∀ {M : List Addr}, Fr M H H1 := by intro M; rw [← eH_fd]; exact Fr.new n_fd
    have h_fd : H1 fd = some (.dK []) := by rw [← eH_fd]; exact upd_same
    clear eH_fd
    intro ld n_ld
    have fld := ne_of_none h_fd n_ld
    have ld0 := (ev_fd (M := [])).d _ n_ld
    generalize eH_ld : upd H1 ld _ = H2
    have ev_ld : ∀ {M : List Addr}, Fr M H1 H2 := by intro M; rw [← eH_ld]; exact Fr.new n_ld
    have h_ld : H2 ld = some (.dK []) := by rw [← eH_ld]; exact upd_same
    clear eH_ld
    have h_fd := (ev_ld (M := [])).k0 h_fd
    have fr : Fr [] H H2 := (ev_fd (M := [])).t0 ev_ld
    refine ⟨_, rfl, ba, bs.map V.ref, rfl, SqL.of (fr.k0 h_ba), for_it (walk_enum (xs := bs.map V.ref)) (fun i σ H' => ∃ (fk lk : List (L2.Key × V)) (st : FL) (v4 v5 v6 : Option V), σ = [some (.ref a), some (.ref ba), some (.ref fd), some (.ref ld), v4, v5, v6, none, none, none, none] ∧
      st = (boxes.take i).zipIdx.foldl (fun st x => x.1.foldl (flStep x.2) st) (fun _ => none, fun _ => none) ∧ FlAt H' fd ld fk lk st ((boxes.take i).flatten.length) ∧ FlB boxes.length st ∧ Fr [] H H') ?_ ?_ ?_ ?_⟩
    · exact ⟨[], [], _, _, _, _, rfl, rfl, ⟨h_fd, h_ld, fun _ => rfl, fun _ => rfl, Nat.le_refl _, Nat.le_refl _⟩, fun p n => ⟨(fun h => by cases h), fun h => by cases h⟩, fr⟩
    · rintro i σ H' _ ⟨fk, lk, st, v4, v5, v6, rfl, es, hfa, hfb, fr⟩
      exact SqL.of (fr.k0 h_ba)
    · rintro i y σ H3 H4' hi ⟨fk, lk, st, v4, v5, v6, rfl, es, hfa, hfb, fr⟩ ⟨TT, u, x, rfl, n_TT, rfl, eu, hx⟩
      cases eu
      have hi2 : i < boxes.length := by rw [← hbml]; exact hi
      generalize eH_TT : upd H3 TT _ = H4
      have ev_TT : ∀ {M : List Addr}, Fr M H3 H4 := by intro M; rw [← eH_TT]; exact Fr.new n_TT
      have h_TT : H4 TT = some (.tup [.int (i : Nat), x]) := by rw [← eH_TT]; exact upd_same
      clear eH_TT
      have hfa := hfa.k0 ev_TT
      have fr := fr.t0 ev_TT
      have hx : (bs.map V.ref)[i]? = some x := hx
      obtain ⟨box, ebox, hbm⟩ := get_of hi2
      obtain ⟨bx, us, e1, h_bx, hT⟩ := hrows.get (i := i) (ds := box.map ceD) (by rw [List.getElem?_map, ebox] <;> rfl)
      rw [List.getElem?_map, e1] at hx
      cases hx
      have htf : (boxes.take (i + 1)).flatten.length = (boxes.take i).flatten.length + box.length := by
        rw [List.take_add_one, ebox]
        show (boxes.take i ++ [box]).flatten.length = _
        simp
      have htl : (boxes.take (i + 1)).flatten.length ≤ boxes.flatten.length := by
        have : boxes.flatten = (boxes.take (i + 1)).flatten ++ (boxes.drop (i + 1)).flatten := by rw [← List.flatten_append, List.take_append_drop]
        rw [this, List.length_append]
        omega
      have hul : us.length = box.length := by rw [hT.length, List.length_map]
      have et : (boxes.take (i + 1)).zipIdx.foldl (fun st x => x.1.foldl (flStep x.2) st) ((fun _ => none, fun _ => none) : FL) = box.foldl (flStep i) st := by
        rw [List.take_add_one, ebox]
        show (boxes.take i ++ [box]).zipIdx.foldl _ _ = _
        rw [List.zipIdx_append, List.foldl_append, ← es, List.length_take, Nat.min_eq_left (by omega)]
        show box.foldl (flStep (0 + i)) st = _
        rw [Nat.zero_add]
      refine ⟨_, _, rfl, SqT.of (h_TT), rfl, _, _, rfl, _, _, rfl, rfl, _, rfl, bx, rfl, ⟨_, SqL.of (fr.k0 h_bx)⟩, for_list (xs := us) (fun j σ H' => ∃ (fk lk : List (L2.Key × V)) (st2 : FL) (v6 : Option V), σ = [some (.ref a), some (.ref ba), some (.ref fd), some (.ref ld), some (.int (i : Nat)), some (.ref bx), v6, none, none, none, none] ∧
        st2 = (box.take j).foldl (flStep i) st ∧ FlAt H' fd ld fk lk st2 ((boxes.take i).flatten.length + j) ∧ FlB boxes.length st2 ∧ Fr [] H H') ?_ ?_ ?_ ?_⟩
      · exact ⟨fk, lk, st, _, rfl, rfl, hfa, hfb, fr⟩
      · rintro j σ H5 _ ⟨fk, lk, st2, v6, rfl, es2, hfa, hfb, fr⟩
        exact SqL.of (fr.k0 h_bx)
      · rintro j y σ H5 hj ⟨fk, lk, st2, v6, rfl, es2, hfa, hfb, fr⟩
        obtain ⟨d, hd, hy⟩ := hT.get' hj
        rw [List.getElem?_map] at hd
        cases el : box[j]? with
        | none => rw [el] at hd; cases hd
        | some le =>
          rw [el] at hd
          cases hd
          have hjl := (List.getElem?_eq_some_iff.mp el).1
          have hy := hy.mono fr.t
          obtain ⟨c, rfl, h_c⟩ := Tr.flat (hy : Tr H5 y (.tup _)) rfl
          have et2 : (box.take (j + 1)).foldl (flStep i) st = flStep i st2 le := by
            rw [List.take_add_one, el]
            show (box.take j ++ [le]).foldl _ _ = _
            rw [List.foldl_append, ← es2] <;> rfl
          obtain ⟨h_fd, h_ld, q1, q2, q3, q4⟩ := hfa
          refine ⟨fun σ' H' => ∃ fk : List (L2.Key × V), σ' = [some (.ref a), some (.ref ba), some (.ref fd), some (.ref ld), some (.int (i : Nat)), some (.ref bx), some (.ref c), none, none, none, none] ∧
            H' fd = some (.dK fk) ∧ H' ld = some (.dK lk) ∧ (∀ p : Nat, valV fk (Sum.inl (p : Int)) = ((flStep i st2 le).1 p).map fun n => V.int (n : Int)) ∧ fk.length ≤ (boxes.take i).flatten.length + j + 1 ∧ Fr [] H H', ?_, ?_⟩
          · refine ⟨_, rfl, c, _, _, _, rfl, rfl, SqT.of h_c, rfl, _, rfl, fd, _, rfl, DGet.k (k := Sum.inl (le.p : Int)) h_fd, _, rfl, ite2 (fun hc => ?_) (fun hc => ?_)⟩
            · have hn : st2.1 le.p = none := by
                rw [q1] at hc
                cases e : st2.1 le.p with
                | none => rfl
                | some n => rw [e] at hc; exact absurd hc (by simp)
              have pp := Fr.put (o := .dK (putK fk (Sum.inl (le.p : Int)) (.int (i : Nat)))) h_fd
              refine ⟨_, rfl, _, rfl, _, rfl, c, _, _, _, rfl, rfl, SqT.of h_c, rfl, fd, _, rfl, DPut.k (k := Sum.inl (le.p : Int)) h_fd (by omega), _, rfl, upd_same, pp.k1 h_ld fld.symm, fun p => ?_, Nat.le_trans (length_putK _ _ _) (by omega), fr.t1 pp (.inr fd0)⟩
              rw [valV_put]
              show _ = (if p = le.p then some ((st2.1 p).getD i) else st2.1 p).map fun n => V.int (n : Int)
              by_cases z : p = le.p
              · subst z
                rw [if_pos rfl, if_pos rfl, hn] <;> rfl
              · rw [if_neg (fun y => z (inl_nat.mp y)), if_neg z, q1]
            · refine ⟨fk, rfl, h_fd, h_ld, fun p => ?_, by omega, fr⟩
              show _ = (if p = le.p then some ((st2.1 p).getD i) else st2.1 p).map fun n => V.int (n : Int)
              by_cases z : p = le.p
              · subst z
                rw [if_pos rfl, q1]
                rw [q1] at hc
                cases e : st2.1 le.p with
                | none => rw [e] at hc; exact (hc rfl).elim
                | some n => rfl
              · rw [if_neg z, q1]
          · rintro σ' H6 ⟨fk, rfl, h_fd, h_ld, q1, q3, fr⟩
            have pp := Fr.put (o := .dK (putK lk (Sum.inl (le.p : Int)) (.int (i : Nat)))) h_ld
            have h_c6 : H6 c = some (.tup [.str (ch le.c), .int le.z, .str le.f, .int (le.p : Int)]) := by
              have := (hT.get' hj)
              obtain ⟨d2, hd2, hy2⟩ := this
              rw [List.getElem?_map, el] at hd2
              cases hd2
              obtain ⟨c2, e2, h2⟩ := Tr.flat (hy2.mono fr.t : Tr H6 (V.ref c) (.tup _)) rfl
              cases e2
              exact h2
            refine ⟨_, rfl, _, rfl, _, rfl, c, _, _, _, rfl, rfl, SqT.of h_c6, rfl, ld, _, rfl, DPut.k (k := Sum.inl (le.p : Int)) h_ld (by omega), fk, putK lk (Sum.inl (le.p : Int)) (.int (i : Nat)), flStep i st2 le, _, rfl, et2.symm, ⟨pp.k1 h_fd fld, upd_same, q1, fun p => ?_, q3, Nat.le_trans (length_putK _ _ _) (by omega)⟩, hfb.step hi2 le, fr.t1 pp (.inr ld0)⟩
            rw [valV_put]
            show _ = (if p = le.p then some i else st2.2 p).map fun n => V.int (n : Int)
            by_cases z : p = le.p
            · subst z
              rw [if_pos rfl, if_pos rfl] <;> rfl
            · rw [if_neg (fun y => z (inl_nat.mp y)), if_neg z, q2]
      · rintro σ H5 ⟨fk, lk, st2, v6, rfl, es2, hfa, hfb, fr⟩
        rw [List.take_of_length_le (by omega), ← et] at es2
        refine ⟨fk, lk, st2, _, _, _, rfl, es2, ?_, hfb, fr⟩
        rw [htf, ← hul]
        exact hfa
    · rintro σ H3 ⟨fk, lk, st, v4, v5, v6, rfl, es, hfa, hfb, fr⟩
      rw [hbml, List.take_of_length_le (Nat.le_refl _)] at es hfa
      have es : st = flF boxes := es
      subst es
      refine ⟨_, rfl, ba, rfl, ⟨_, SqL.of (fr.k0 h_ba)⟩, fun D n_D => ?_⟩
      have D0 := fr.d _ n_D
      refine lc_list (xs := bs.map V.ref) (fun j H' => ∃ as : List Addr, MaI D as H3 0 H' (List.replicate j []) ∧ as.length = j) ?_ ?_ ?_ ?_
      · exact ⟨[], ⟨upd_same, .nil, List.nodup_nil, (by simp), (fun a h => by cases h), (fun x h => by cases h), Fr.new n_D⟩, rfl⟩
      · rintro j H4 _ ⟨as, I, hal⟩
        exact SqL.of ((fr.t0 I.fr).k0 h_ba)
      · rintro j x H4 hj ⟨as, I, hal⟩
        have hjl := (List.getElem?_eq_some_iff.mp hj).1
        refine ⟨rfl, (by show 0 ≤ sizeLine; omega), fun q n_q => ?_⟩
        have qD := ne_of_none I.d n_q
        have q0 := I.fr.d _ n_q
        have qa : q ∉ as := fun m => by
          obtain ⟨us, h⟩ := I.r.ex q m
          rw [n_q] at h
          cases h
        generalize eH_q : upd H4 q _ = H5
        have ev_q : ∀ {M : List Addr}, Fr M H4 H5 := by intro M; rw [← eH_q]; exact Fr.new n_q
        have h_q : H5 q = some (.lst []) := by rw [← eH_q]; exact upd_same
        clear eH_q
        have I := I.k0 ev_q
        have pp := Fr.put (o := .lst (as.map V.ref ++ [.ref q])) I.d
        refine ⟨_, I.d, by rw [List.length_map]; omega, as ++ [q], ⟨by rw [upd_same, List.map_append] <;> rfl, ?_, ?_, ?_, fun x hx => ?_, fun x hx => ?_, I.fr.t1 pp (.inr n_D)⟩, by rw [List.length_append, hal] <;> rfl⟩
        · rw [List.replicate_succ']
          exact (I.r.keep pp fun x hx => by simp only [List.mem_singleton]; exact fun z => I.nD (z ▸ hx)).app (.cons (pp.k1 h_q qD.symm) .nil .nil)
        · rw [List.nodup_append]
          exact ⟨I.nd, by simp, fun x hx y hy z => qa (by rw [List.mem_singleton.mp hy] at z; exact z ▸ hx)⟩
        · intro m
          rcases List.mem_append.mp m with m | m
          · exact I.nD m
          · exact qD (List.mem_singleton.mp m)
        · rcases List.mem_append.mp hx with m | m
          · exact I.new x m
          · rw [List.mem_singleton.mp m]; exact q0
        · rw [(List.mem_replicate.mp hx).2]
          exact Nat.le_refl _
      · rintro H4 ⟨as, I, hal⟩
        rw [hbml] at I hal
        obtain ⟨h_fd, h_ld, q1, q2, _, _⟩ := hfa
        refine ⟨_, rfl, a, vs, rfl, SqT.of ((fr.t0 I.fr).k0 ha), for_it (walk_enumT (xs := vs)) (fun i σ H' => ∃ (ms : List (List Dt)) (cur : Nat) (v9 v10 : Option V), σ = [some (.ref a), some (.ref ba), some (.ref fd), some (.ref ld), v4, v5, v6, some (.ref D), some (.int (cur : Nat)), v9, v10] ∧
          (ms, cur) = (rs.take i).zipIdx.foldl (mkRun (flF boxes)) (List.replicate boxes.length [], 0) ∧ MaI D as H3 i H' ms ∧ ms.length = boxes.length ∧ cur < boxes.length) ?_ ?_ ?_ ?_⟩
        · exact ⟨_, 0, _, _, rfl, rfl, I, List.length_replicate, hb1⟩
        · rintro i σ H' _ ⟨ms, cur, v9, v10, rfl, es, I, hml, hcur⟩
          exact SqT.of ((fr.t0 I.fr).k0 ha)
        · rintro i y σ H5 H6' hi ⟨ms, cur, v9, v10, rfl, es, I, hml, hcur⟩ ⟨TT, u, x, rfl, n_TT, rfl, eu, hx⟩
          cases eu
          have hi2 : i < vs.length := hi
          generalize eH_TT : upd H5 TT _ = H6
          have ev_TT : ∀ {M : List Addr}, Fr M H5 H6 := by intro M; rw [← eH_TT]; exact Fr.new n_TT
          have h_TT : H6 TT = some (.tup [.int (i : Nat), x]) := by rw [← eH_TT]; exact upd_same
          clear eH_TT
          have I := I.k0 ev_TT
          have hx : vs[i]? = some x := hx
          obtain ⟨dt, hdt, hxt⟩ := hvs.get' hx
          rw [List.getElem?_map] at hdt
          cases er : rs[i]? with
          | none => rw [er] at hdt; cases hdt
          | some r =>
            rw [er] at hdt
            cases hdt
            have hil := (List.getElem?_eq_some_iff.mp er).1
            have hxt := hxt.mono (fr.t0 I.fr).t
            have et : (rs.take (i + 1)).zipIdx.foldl (mkRun (flF boxes)) (List.replicate boxes.length [], 0) = mkRun (flF boxes) (ms, cur) (r, i) := by
              rw [List.take_add_one, er]
              show (rs.take i ++ [r]).zipIdx.foldl _ _ = _
              rw [List.zipIdx_append, List.foldl_append, ← es, List.length_take, Nat.min_eq_left (by omega)]
              show mkRun (flF boxes) (ms, cur) (r, 0 + i) = _
              rw [Nat.zero_add]
            have hxr : ∃ b, x = .ref b := by
              cases r with
              | text t z f => obtain ⟨b, e, _⟩ := Tr.flat (hxt : Tr H6 x (.tup _)) rfl; exact ⟨b, e⟩
              | mark n => obtain ⟨b, e, _⟩ := Tr.flat (hxt : Tr H6 x (.tup _)) rfl; exact ⟨b, e⟩
              | shown kk t z f => obtain ⟨b, e, _⟩ := Tr.flat (hxt : Tr H6 x (.tup _)) rfl; exact ⟨b, e⟩
            obtain ⟨b, rfl⟩ := hxr
            refine ⟨_, _, rfl, SqT.of (h_TT), rfl, _, _, rfl, _, _, rfl, rfl, fun σ' H' => σ' = [some (.ref a), some (.ref ba), some (.ref fd), some (.ref ld), v4, v5, v6, some (.ref D), some (.int (cur : Nat)), some (.int (i : Nat)), some (.ref b)] ∧ MaI D as H3 (i + 1) H' (mkRun (flF boxes) (ms, cur) (r, i)).1, ?_, ?_⟩
            · cases r with
              | text t z f =>
                obtain ⟨b', e, hb⟩ := Tr.flat (hxt : Tr H6 (V.ref b) (.tup _)) rfl
                cases e
                refine ⟨_, rfl, b, _, _, _, rfl, rfl, SqT.of hb, rfl, rfl, _, rfl, ite2 (fun hc => absurd hc (by decide +kernel)) (fun _ => ?_)⟩
                exact ⟨_, rfl, b, _, _, _, rfl, rfl, SqT.of hb, rfl, rfl, _, rfl, ite2 (fun hc => absurd hc (by decide +kernel)) (fun _ => ⟨rfl, I.le (Nat.le_succ _)⟩)⟩
              | mark n =>
                obtain ⟨b', e, hb⟩ := Tr.flat (hxt : Tr H6 (V.ref b) (.tup _)) rfl
                cases e
                obtain ⟨x1, us, e1, h_x1, hul, x0, hmk⟩ := I.add (j := cur) (by omega)
                refine ⟨_, rfl, b, _, _, _, rfl, rfl, SqT.of hb, rfl, rfl, _, rfl, ite2 (fun _ => ?_) (fun hc => (hc (by decide +kernel)).elim)⟩
                refine ⟨_, rfl, _, rfl, D, _, _, V.ref x1, rfl, rfl, SqL.of I.d, atI_nat e1, Or.inl ⟨rfl, _, SqL.of h_x1⟩, _, rfl, b, _, _, _, rfl, rfl, SqT.of hb, rfl, _, rfl, b, _, _, _, rfl, rfl, SqT.of hb, rfl, (by show 2 ≤ sizeLine; omega), fun q n_q => ?_⟩
                obtain ⟨x1', us', e1', h_x1', hul', x0', hmk'⟩ := (I.k0 (Fr.new n_q (o := .tup [.str "note", .int n]))).add (j := cur) (by omega)
                rw [e1] at e1'
                cases e1'
                exact ⟨_, _, _, rfl, rfl, h_x1', by omega, rfl, hmk' (.ref q) (noteD n) (Tr.of_flat (ds := [.str "note", .int n]) upd_same rfl)⟩
              | shown kk t z f =>
                obtain ⟨b', e, hb⟩ := Tr.flat (hxt : Tr H6 (V.ref b) (.tup _)) rfl
                cases e
                have hfi := fl_there (hsh i kk t z f er)
                cases efi : (flF boxes).1 i with
                | none => exact (hfi efi).elim
                | some n0 =>
                  have hn0 : n0 < boxes.length := (hfb i n0).1 efi
                  obtain ⟨x1, us, e1, h_x1, hul, x0, hmk⟩ := I.add (j := n0) (by omega)
                  have hg : valV fk (Sum.inl (i : Int)) = some (.int (n0 : Nat)) := by rw [q1, efi] <;> rfl
                  refine ⟨_, rfl, b, _, _, _, rfl, rfl, SqT.of hb, rfl, rfl, _, rfl, ite2 (fun hc => absurd hc (by decide +kernel)) (fun _ => ?_)⟩
                  refine ⟨_, rfl, b, _, _, _, rfl, rfl, SqT.of hb, rfl, rfl, _, rfl, ite2 (fun _ => ?_) (fun hc => (hc (by decide +kernel)).elim)⟩
                  refine ⟨_, rfl, _, rfl, _, rfl, fd, _, rfl, dget_k (k := Sum.inl (i : Int)) (I.fr.k0 h_fd) hg, D, _, _, V.ref x1, rfl, rfl, SqL.of I.d, atI_nat e1, Or.inl ⟨rfl, _, SqL.of h_x1⟩, _, rfl, b, _, _, _, rfl, rfl, SqT.of hb, rfl, (by show 2 ≤ sizeLine; omega), fun q n_q => ?_⟩
                  obtain ⟨x1', us', e1', h_x1', hul', x0', hmk'⟩ := (I.k0 (Fr.new n_q (o := .tup [.str "ref", .int kk]))).add (j := n0) (by omega)
                  rw [e1] at e1'
                  cases e1'
                  refine ⟨_, _, _, rfl, rfl, h_x1', by omega, rfl, ?_⟩
                  have em : (mkRun (flF boxes) (ms, cur) (RR.shown kk t z f, i)).1 = addAt ms n0 (refD kk) := by
                    show addAt ms (((flF boxes).1 i).getD 0) (refD kk) = _
                    rw [efi] <;> rfl
                  rw [em]
                  exact hmk' (.ref q) (refD kk) (Tr.of_flat (ds := [.str "ref", .int kk]) upd_same rfl)
            · rintro σ' H7 ⟨rfl, I⟩
              have hml2 : (mkRun (flF boxes) (ms, cur) (r, i)).1.length = boxes.length := by
                cases r with
                | text t z f => exact hml
                | mark n => show (addAt _ _ _).length = _; rw [addAt_len]; exact hml
                | shown kk t z f => show (addAt _ _ _).length = _; rw [addAt_len]; exact hml
              refine ⟨_, rfl, _, rfl, ld, _, rfl, DGet.k (k := Sum.inl (i : Int)) (I.fr.k0 h_ld), _, rfl, ite2 (fun hc => ?_) (fun hc => ?_)⟩
              · cases el : (flF boxes).2 i with
                | none => rw [q2, el] at hc; exact absurd hc (by simp)
                | some n =>
                  have hg : valV lk (Sum.inl (i : Int)) = some (.int (n : Nat)) := by rw [q2, el] <;> rfl
                  refine ⟨_, rfl, _, rfl, ld, _, rfl, dget_k (k := Sum.inl (i : Int)) (I.fr.k0 h_ld) hg, (mkRun (flF boxes) (ms, cur) (r, i)).1, n, _, _, rfl, ?_, I, hml2, (hfb i n).2 el⟩
                  rw [et]
                  refine Prod.ext rfl ?_
                  show n = ((flF boxes).2 i).getD cur
                  rw [el] <;> rfl
              · have el : (flF boxes).2 i = none := by
                  cases el : (flF boxes).2 i with
                  | none => rfl
                  | some n => rw [q2, el] at hc; exact (hc rfl).elim
                refine ⟨(mkRun (flF boxes) (ms, cur) (r, i)).1, cur, _, _, rfl, ?_, I, hml2, hcur⟩
                rw [et]
                refine Prod.ext rfl ?_
                show cur = ((flF boxes).2 i).getD cur
                rw [el] <;> rfl
        · rintro σ H5 ⟨ms, cur, v9, v10, rfl, es, I, hml, hcur⟩
          rw [List.take_of_length_le (by omega)] at es
          have em : ms = marksF rs boxes := by unfold marksF; rw [← es]
          subst em
          exact ⟨_, rfl, k D as H5 D0 I.d I.r (fun a ha => fr.d _ (I.new a ha)) (fr.t0 I.fr)⟩
end

end K45

set_option maxHeartbeats 4000000
namespace K45
open PySem PySem.Spec PyProof.Rows L2
/-! ### an inner for of a comprehension -/
theorem lc_in {J : It} {n : Nat} {G : Hp → Prop} {Y : Nat → Hp → V → Hp → Prop} (w : Walk J n G Y) {g : TG} {tt : TT} {te : TE} {vs : List Nat} {σ : L2.St} {H1 : Hp} {D : Addr} {Qd : Hp → Prop} (Pv : Nat → Hp → Prop) (h0 : Pv 0 H1) (hG : ∀ i H, i ≤ n → Pv i H → G H)
    (hs : ∀ i x H H', i < n → Pv i H → Y i H x H' → g x (wipe σ vs) H' fun σ2 H2 => wipe σ2 vs = wipe σ vs ∧ tt σ2 H2 fun b H3 =>
      if b = true then te σ2 H3 fun y H4 => ∃ acc, H4 D = some (.lst acc) ∧ acc.length < sizeLine ∧ Pv (i + 1) (upd H4 D (.lst (acc ++ [y]))) else Pv (i + 1) H3) (hd : ∀ H, Pv n H → Qd H) :
    ∃ W : Nat → Nat → Hp → Prop, (∃ m, W 0 m H1) ∧ ∀ i m H, W i m H →
      (J.stop i H ∧ Qd H) ∨ (J.go i H ∧ ∃ Nx : Hp → Prop, (∀ H', Nx H' → ∃ m', m' < m ∧ W (i + 1) m' H') ∧ ∀ x H', J.yld i H x H' → g x (wipe σ vs) H' fun σ2 H2 => wipe σ2 vs = wipe σ vs ∧ tt σ2 H2 fun b H3 =>
        if b = true then te σ2 H3 fun y H4 => ∃ acc, H4 D = some (.lst acc) ∧ acc.length < sizeLine ∧ Nx (upd H4 D (.lst (acc ++ [y]))) else Nx H3) := by
  refine ⟨fun i m H => m = n - i ∧ i ≤ n ∧ Pv i H, ⟨n, by simp, Nat.zero_le _, h0⟩, ?_⟩
  rintro i m H ⟨rfl, hi, p⟩
  have q := hG i H hi p
  by_cases hlt : i < n
  · exact .inr ⟨w.goes i H hlt q, Pv (i + 1), fun H' p' => ⟨n - (i + 1), by omega, rfl, hlt, p'⟩, fun x H' y => hs i x H H' hlt p (w.yields i H x H' hlt q y)⟩
  · have e : i = n := by omega
    subst e
    exact .inl ⟨w.stops H q, hd H p⟩
theorem lc_out {J : It} {n : Nat} {G : Hp → Prop} {Y : Nat → Hp → V → Hp → Prop} (w : Walk J n G Y) {H1 : Hp} {Qd : Hp → Prop} {B : (Hp → Prop) → V → Hp → Prop} (Pv : Nat → Hp → Prop) (h0 : Pv 0 H1) (hG : ∀ i H, i ≤ n → Pv i H → G H)
    (hs : ∀ i x H H', i < n → Pv i H → Y i H x H' → B (Pv (i + 1)) x H') (hd : ∀ H, Pv n H → Qd H) :
    ∃ W : Nat → Nat → Hp → Prop, (∃ m, W 0 m H1) ∧ ∀ i m H, W i m H →
      (J.stop i H ∧ Qd H) ∨ (J.go i H ∧ ∃ Nx : Hp → Prop, (∀ H', Nx H' → ∃ m', m' < m ∧ W (i + 1) m' H') ∧ ∀ x H', J.yld i H x H' → B Nx x H') := by
  refine ⟨fun i m H => m = n - i ∧ i ≤ n ∧ Pv i H, ⟨n, by simp, Nat.zero_le _, h0⟩, ?_⟩
  rintro i m H ⟨rfl, hi, p⟩
  have q := hG i H hi p
  by_cases hlt : i < n
  · exact .inr ⟨w.goes i H hlt q, Pv (i + 1), fun H' p' => ⟨n - (i + 1), by omega, rfl, hlt, p'⟩, fun x H' y => hs i x H H' hlt p (w.yields i H x H' hlt q y)⟩
  · have e : i = n := by omega
    subst e
    exact .inl ⟨w.stops H q, hd H p⟩
theorem pi_listB {X : Cx} {s : Shared} {H : Hp} {scope : Scope} {cenv : Env} {fp : List Addr} {l tg : Expr} {tl : TE} (hl : PE (X.blk s H scope cenv fp) l tl) : PI (X.blk s H scope cenv fp) tg l (iList X.K tl) := pi_list hl
/-! ### the measures hold what the shape asks -/
theorem letM_sub : ∀ (box : List Ce) (st : List Ms × Option Ce) (m : Ms), m ∈ st.1 → m ∈ (box.foldl letM st).1
  | [], _, _, h => h
  | l :: box, st, m, h => letM_sub box _ m (by
    show m ∈ st.1 ++ [Ms.letter l.f l.c] ++ pairM st.2 l
    exact List.mem_append_left _ (List.mem_append_left _ h))
theorem letM_snd : ∀ (box : List Ce) (st : List Ms × Option Ce) (l : Ce), ((box ++ [l]).foldl letM st).2 = some l := by
  intro box st l
  rw [List.foldl_append]
  rfl
theorem letM_at {box pre post : List Ce} {l : Ce} (st : List Ms × Option Ce) (e : box = pre ++ l :: post) : Ms.letter l.f l.c ∈ (box.foldl letM st).1 ∧ ∀ m ∈ pairM (pre.foldl letM st).2 l, m ∈ (box.foldl letM st).1 := by
  rw [e, List.foldl_append]
  refine ⟨letM_sub post _ _ ?_, fun m hm => letM_sub post _ _ ?_⟩
  · show _ ∈ (pre.foldl letM st).1 ++ [Ms.letter l.f l.c] ++ pairM (pre.foldl letM st).2 l
    simp
  · show _ ∈ (pre.foldl letM st).1 ++ [Ms.letter l.f l.c] ++ pairM (pre.foldl letM st).2 l
    exact List.mem_append_right _ hm
theorem boxM_sub1 (box : List Ce) (st : List Ms × Option Ce) (m : Ms) (h : m ∈ st.1) : m ∈ (boxM st box).1 := letM_sub box _ m (List.mem_append_left _ h)
theorem boxM_sub : ∀ (w : List (List Ce)) (st : List Ms × Option Ce) (m : Ms), m ∈ st.1 → m ∈ (w.foldl boxM st).1
  | [], _, _, h => h
  | b :: w, st, m, h => boxM_sub w _ m (boxM_sub1 b st m h)
theorem lastC_snoc (r : List Ce) (x : Ce) : lastC (r ++ [x]) = x := by unfold lastC; simp
theorem boxM_snd {box : List Ce} (h : box ≠ []) (st : List Ms × Option Ce) : (boxM st box).2 = some (lastC box) := by
  obtain ⟨r, x, e⟩ := snoc_ex h
  rw [e, lastC_snoc]
  exact letM_snd r _ x
theorem split_at {α : Type} {l : List α} {i : Nat} {x : α} (h : l[i]? = some x) : l = l.take i ++ x :: l.drop (i + 1) := by
  obtain ⟨hi, e⟩ := List.getElem?_eq_some_iff.mp h
  rw [← e, List.getElem_cons_drop, List.take_append_drop]
theorem msF_box {w : List (List Ce)} {k : Nat} {box : List Ce} (h : w[k]? = some box) : (∀ m ∈ (boxM ((w.take k).foldl boxM ([], none)) box).1, m ∈ msF w) := by
  intro m hm
  have e := split_at h
  have : msF w = (((w.take k) ++ box :: w.drop (k + 1)).foldl boxM ([], none)).1 := by rw [← e] <;> rfl
  rw [this, List.foldl_append]
  exact boxM_sub (w.drop (k + 1)) _ m hm
theorem msF_letter {w : List (List Ce)} {box : List Ce} (hb : box ∈ w) {l : Ce} (hl : l ∈ box) : Ms.letter l.f l.c ∈ msF w := by
  obtain ⟨k, hk⟩ := List.getElem?_of_mem hb
  obtain ⟨i, hi⟩ := List.getElem?_of_mem hl
  exact msF_box hk _ (letM_at _ (split_at hi)).1
theorem msF_pair {w : List (List Ce)} {box : List Ce} (hb : box ∈ w) {i : Nat} {a b : Ce} (h1 : box[i]? = some a) (h2 : box[i + 1]? = some b) (e : a.z = b.z ∧ a.f = b.f) : Ms.pair b.f a.c b.c ∈ msF w := by
  obtain ⟨k, hk⟩ := List.getElem?_of_mem hb
  refine msF_box hk _ ((letM_at _ (split_at h2)).2 _ ?_)
  have et : box.take (i + 1) = box.take i ++ [a] := by rw [List.take_add_one, h1] <;> rfl
  rw [et, letM_snd]
  show _ ∈ (if a.z = b.z ∧ a.f = b.f then [Ms.pair b.f a.c b.c] else [])
  rw [if_pos e]
  exact List.mem_singleton.mpr rfl
theorem msF_joint {w : List (List Ce)} (hne : ∀ b ∈ w, b ≠ []) {k : Nat} {a b : List Ce} (h1 : w[k]? = some a) (h2 : w[k + 1]? = some b) : Ms.hyphen (lastC a).f (lastC a).c ∈ msF w ∧ ((lastC a).z = (headC b).z ∧ (lastC a).f = (headC b).f → Ms.pair (headC b).f (lastC a).c (headC b).c ∈ msF w) := by
  have et : w.take (k + 1) = w.take k ++ [a] := by rw [List.take_add_one, h1] <;> rfl
  have es : ((w.take (k + 1)).foldl boxM ([], none)).2 = some (lastC a) := by
    rw [et, List.foldl_append]
    exact boxM_snd (hne a (List.mem_of_getElem? h1)) _
  refine ⟨msF_box h2 _ (letM_sub _ _ _ (List.mem_append_right _ ?_)), fun e => ?_⟩
  · rw [es]
    exact List.mem_singleton.mpr rfl
  · have hb := hne b (List.mem_of_getElem? h2)
    cases b with
    | nil => exact (hb rfl).elim
    | cons l post =>
      refine msF_box h2 _ ((letM_at (pre := []) (post := post) _ rfl).2 _ ?_)
      show _ ∈ pairM ((w.take (k + 1)).foldl boxM ([], none)).2 l
      rw [es]
      show _ ∈ (if (lastC a).z = l.z ∧ (lastC a).f = l.f then [Ms.pair l.f (lastC a).c l.c] else [])
      have e' : (lastC a).z = l.z ∧ (lastC a).f = l.f := e
      rw [if_pos e']
      exact List.mem_singleton.mpr rfl
theorem mk_len (fl : FL) : ∀ (xs : List (RR × Nat)) (st : List (List Dt) × Nat), (xs.foldl (mkRun fl) st).1.length = st.1.length
  | [], _ => rfl
  | x :: xs, st => by
    rw [List.foldl_cons, mk_len fl xs]
    obtain ⟨r, i⟩ := x
    cases r with
    | text t z f => rfl
    | mark n => exact List.length_modify _ _ _
    | shown k t z f => exact List.length_modify _ _ _
theorem marks_len (rs : List RR) (boxes : List (List Ce)) : (marksF rs boxes).length = boxes.length := by
  unfold marksF
  rw [mk_len]
  exact List.length_replicate
theorem shown_there {rs : List RR} (h : Shown rs) {p : Nat} {k : Int} {t : List Nat} {z : Int} {f : Str} (e : rs[p]? = some (.shown k t z f)) : ∃ l ∈ lets rs, l.p = p := by
  obtain ⟨c, hc, hl⟩ := h k t z f (List.mem_of_getElem? e)
  refine ⟨⟨c, z, f, p⟩, List.mem_flatten.mpr ⟨letsT t z f p, List.mem_map.mpr ⟨(.shown k t z f, p), ?_, rfl⟩, List.mem_map.mpr ⟨c, List.mem_filter.mpr ⟨hc, hl⟩, rfl⟩⟩, rfl⟩
  exact List.mem_of_getElem? (i := p) (by rw [List.getElem?_zipIdx, e]; simp)
theorem WordsAt.rows {H : Hp} : ∀ {L : Lay} {ws : List (List (List Ce))}, WordsAt H L ws → RowsAt H (L.flatMap fun x => x.2) (ws.flatten.map (List.map ceD))
  | _, _, .nil => .nil
  | _, _, .cons h r q => by
    rw [List.flatMap_cons, List.flatten_cons, List.map_append]
    exact r.app q.rows
theorem WordsAt.getL {H : Hp} : ∀ {L : Lay} {ws : List (List (List Ce))} {i : Nat} {w : List (List Ce)}, WordsAt H L ws → ws[i]? = some w → ∃ a bs, L[i]? = some (a, bs) ∧ H a = some (.lst (bs.map V.ref)) ∧ RowsAt H bs (w.map (List.map ceD))
  | _, _, _, _, .nil, e => by simp at e
  | _, _, 0, _, .cons (a := a) (bs := bs) h t r, e => by
    simp at e
    subst e
    exact ⟨a, bs, rfl, h, t⟩
  | _, _, i + 1, _, .cons h t r, e => by
    obtain ⟨a, bs, h1, h2⟩ := r.getL (i := i) (by simpa using e)
    exact ⟨a, bs, by simpa using h1, h2⟩

end K45

set_option maxHeartbeats 4000000
namespace K45
open PySem PySem.Spec PyProof.Rows L2
section
variable {P : Program} {w : World} {K : PySem.W.Frag} {mg : Str → Option Value} {base : Heap}
abbrev s_shape : Stmt := top 10
abbrev N_shape : List Str := ["resolved", "measures", "words", "spaces", "boxes", "word", "box", "scale", "shaped", "marks", "width", "letters"]
theorem sc_shape : FnScope ["resolved", "measures", "words", "spaces", "boxes", "word", "box", "scale", "shaped", "marks", "width", "letters"] ["resolved", "measures"] (defScope s_shape) := ⟨rfl, rfl, rfl, by decide +kernel, rfl, by decide +kernel, by decide +kernel⟩
theorem c_shape (F : Df K mg "shape" s_shape) (G : Gn mg) {CS CI CF : Addr} (c_words_of : C8.Cal P w K mg base 1 "words_of" spWords []) (m_Scale : C8.Mak P w K mg base 1 "Scale" CS (spScale CS) []) (c_marks_of : C8.Cal P w K mg base 1 "marks_of" spMarks []) (c_placed_letters : C8.Cal P w K mg base 2 "placed_letters" (spPlaced CS) []) (c_joints_of : C8.Cal P w K mg base 3 "joints_of" (spJoints CS) []) : C8.Cal P w K mg base 4 "shape" spShape [] := by
  refine cal_by F sc_shape (fun _ _ _ _ _ _ us hl => match us, hl with | [_, _], _ => rfl) (fun vs H Q E h => ?_) (fun f cdv A outer s H vs Q E hr h => ?_)
  · obtain ⟨v, u, rs, ds, F, need, rfl, _⟩ := h
    rfl
  · obtain ⟨v, u, rs, ds, F, need, rfl, hv, hrl, hok, hin, hsh, hw, hds, hm1, hm2, hdl, k⟩ := h
    have sc := sc_shape
    refine ⟨_, (pss_cons (ps_asg (C8.pe_c c_words_of hr (by decide) rfl (pa_cons (pv 0) pa_nil)) (pg_tup rfl (pgs_cons (pg_name (i := 2) sc.nd rfl (Or.inl rfl)) (pgs_cons (pg_name (i := 3) sc.nd rfl (Or.inl rfl)) pgs_nil))))
      (pss_cons (ps_setLc2 (i := 4) (own := [("word", 5), ("box", 6)]) (vs1 := [6]) rfl sc.nd rfl rfl (sw_true rfl rfl rfl (by decide +kernel)) (pi_list (pv 2)) (blkOk_by (N := N_shape) (sc := defScope s_shape) (by decide +kernel)) (by decide) (fun _ _ _ _ _ => (pg_name (i := 5) sc.nd rfl (Or.inl rfl))) (fun _ _ _ _ _ => pts_nil) (fun _ _ _ _ _ => (pi_listB (pv 5))) (fun _ _ _ _ _ => (pg_name (i := 6) sc.nd rfl (Or.inl rfl))) (fun _ _ _ _ _ => pts_nil) (fun _ _ _ _ _ => (pv 6)))
      (pss_cons (ps_if (pt_not (pt_truth (pv 4) (by intro _; rfl)))
        (pss_one (ps_ret (pe_tup (pa_cons (pe_tup pa_nil) (pa_cons (pe_tup pa_nil) pa_nil)))))
        pss_nil)
      (pss_cons (ps_set (i := 7) sc.nd rfl (Or.inl rfl) (C8.pe_mk m_Scale hr (by decide) rfl (pa_cons (pv 1) pa_nil)))
      (pss_cons (ps_set (i := 8) sc.nd rfl (Or.inl rfl) (pe_lst pa_nil))
      (pss_cons (ps_for PassesOwn.never rfl (pi_zip rfl G.n_zip (pa_cons (pv 4) (pa_cons (C8.pe_c c_marks_of hr (by decide) rfl (pa_cons (pv 0) (pa_cons (pv 4) pa_nil))) pa_nil))) (pg_tup rfl (pgs_cons (pg_name (i := 6) sc.nd rfl (Or.inl rfl)) (pgs_cons (pg_name (i := 9) sc.nd rfl (Or.inl rfl)) pgs_nil)))
        (pss_cons (ps_asg (C8.pe_c c_placed_letters hr (by decide) rfl (pa_cons (pv 6) (pa_cons (pv 7) pa_nil))) (pg_tup rfl (pgs_cons (pg_name (i := 10) sc.nd rfl (Or.inl rfl)) (pgs_cons (pg_name (i := 11) sc.nd rfl (Or.inl rfl)) pgs_nil))))
        (pss_one (ps_expr (pe_bm PySem.F.plainAttrs_list PySem.F.slot_list_append PySem.F.type_list_append mt_append (pv 8) (pa_cons (pe_tup (pa_cons (pv 10) (pa_cons (pv 11) (pa_cons (pe_callTy call_tuple_of rfl G.n_tuple (by decide +kernel) (pa_cons (pv 9) pa_nil)) pa_nil)))) pa_nil))))))
      (pss_one (ps_ret (pe_tup (pa_cons (pe_callTy call_tuple_of rfl G.n_tuple (by decide +kernel) (pa_cons (pv 8) pa_nil)) (pa_cons (C8.pe_c c_joints_of hr (by decide) rfl (pa_cons (pv 2) (pa_cons (pv 3) (pa_cons (pv 7) pa_nil)))) pa_nil))))))))))), ?_⟩
    have hz := big
    refine ⟨_, rfl, v, rs, rfl, hv, hrl, hok, fun t wa sa L ss H1 h_t h_wa hW h_sa hS hshort hwin f1 => ?_⟩
    refine ⟨_, _, rfl, SqT.of (h_t), rfl, _, _, rfl, _, _, rfl, rfl, ?_⟩
    have hflat := words_flat rs
    have hce := lets_ok hok hin
    have hsp := words_sp hok
    have hll : (lets rs).length ≤ 10000 := by
      have := lets_len rs.zipIdx (fun x hx => hok _ (mem_zip hx))
      rw [List.length_zipIdx] at this
      exact Nat.le_trans this (by omega)
    have hboxes : boxesF rs = (wordsF rs).ws.flatten := rfl
    have hflat2 : (boxesF rs).flatten = lets rs := by rw [hboxes, hflat]
    have hpc : piecesD F rs = .tup [.tup (((boxesF rs).zip (marksF rs (boxesF rs))).map (boxD F)), .tup ((jointsF F (wordsF rs).ws (wordsF rs).sp).map jtD)] := rfl
    have hbl : (boxesF rs).length ≤ 10000 := by
      have h1 : (wordsF rs).ws.flatten.length ≤ (wordsF rs).ws.flatten.flatten.length := boxes_le hwin.c
      rw [hflat] at h1
      exact Nat.le_trans h1 hll
    generalize hws : (wordsF rs).ws = ws at *
    generalize hsps : (wordsF rs).sp = sps at *
    generalize hbx : boxesF rs = boxes at *
    have hLl : L.length = ws.length := hW.len
    have hrows := hW.rows
    rw [← hboxes] at hrows
    -- boxes
    refine ⟨_, rfl, wa, rfl, ⟨_, SqL.of h_wa⟩, fun D n_D => ?_⟩
    have D0 := f1.d _ n_D
    refine lc_out (walk_list (xs := heads L)) (fun i H' => H' D = some (.lst (((L.take i).flatMap fun x => x.2).map V.ref)) ∧ Fr [] H1 H') ?_ ?_ ?_ ?_
    · exact ⟨upd_same, Fr.new n_D⟩
    · rintro i H2 _ ⟨h_D, fr⟩
      exact SqL.of (fr.k0 h_wa)
    · rintro i x H2 H2' hi ⟨h_D, fr⟩ ⟨rfl, hx⟩
      have hi2 : i < L.length := by
        have hi : i < (heads L).length := hi
        unfold heads at hi
        rwa [List.length_map] at hi
      obtain ⟨word, ew, hwm⟩ := get_of (l := ws) (j := i) (by omega)
      obtain ⟨wx, bs, e1, h_wx, hr1⟩ := hW.getL ew
      have hh : (heads L)[i]? = some (V.ref wx) := by unfold heads; rw [List.getElem?_map, e1] <;> rfl
      rw [hx] at hh
      cases hh
      have et : (L.take (i + 1)).flatMap (fun x => x.2) = (L.take i).flatMap (fun x => x.2) ++ bs := by
        rw [List.take_add_one, e1]
        show (L.take i ++ [(wx, bs)]).flatMap _ = _
        rw [List.flatMap_append]
        simp
      have hlen : ((L.take (i + 1)).flatMap (fun x => x.2)).length ≤ boxes.length := by
        have h1 := hrows.len
        rw [List.length_map] at h1
        have h2 : L.flatMap (fun x => x.2) = (L.take (i + 1)).flatMap (fun x => x.2) ++ (L.drop (i + 1)).flatMap (fun x => x.2) := by rw [← List.flatMap_append, List.take_append_drop]
        rw [← h1, h2, List.length_append]
        omega
      rw [et, List.length_append] at hlen
      refine ⟨rfl, _, rfl, wx, rfl, ⟨_, SqL.of (fr.k0 h_wx)⟩, lc_in (walk_list (xs := bs.map V.ref)) (fun j H' => H' D = some (.lst (((L.take i).flatMap fun x => x.2).map V.ref ++ (bs.take j).map V.ref)) ∧ Fr [] H1 H') ?_ ?_ ?_ ?_⟩
      · exact ⟨by rw [List.take_zero, List.map_nil, List.append_nil]; exact h_D, fr⟩
      · rintro j H3 _ ⟨h_D, fr⟩
        exact SqL.of (fr.k0 h_wx)
      · rintro j z H3 H3' hj ⟨h_D, fr⟩ ⟨rfl, hz2⟩
        rw [List.getElem?_map] at hz2
        cases eb : bs[j]? with
        | none => rw [eb] at hz2; cases hz2
        | some b =>
          rw [eb] at hz2
          cases hz2
          refine ⟨rfl, _, rfl, _, h_D, ?_, ?_, fr.t1 (Fr.put h_D) (.inr n_D)⟩
          · rw [List.length_append, List.length_map, List.length_map, List.length_take]
            omega
          · rw [upd_same, List.take_add_one, eb, List.append_assoc]
            show _ = some (HO.lst (_ ++ (bs.take j ++ [b]).map V.ref))
            rw [List.map_append] <;> rfl
      · rintro H3 ⟨h_D, fr⟩
        refine ⟨?_, fr⟩
        rw [h_D, et, List.map_append, List.length_map, List.take_length]
    · rintro H2 ⟨h_D, fr⟩
      have hhl : (heads L).length = L.length := by unfold heads; rw [List.length_map]
      rw [hhl, List.take_of_length_le (Nat.le_refl _)] at h_D
      generalize hbs : (L.flatMap fun x => x.2) = bs at *
      have hbsl : bs.length = boxes.length := by rw [hrows.len, List.length_map]
      refine ⟨_, rfl, _, .inl ⟨_, SqL.of h_D, rfl⟩, ite2 (fun hc => ?_) (fun hc => ?_)⟩
      · -- nothing to shape
        have hbe : bs = [] := by
          cases bs with
          | nil => rfl
          | cons _ _ => exact absurd hc (by simp)
        have hboxe : boxes = [] := List.length_eq_zero_iff.mp (by rw [← hbsl, hbe] <;> rfl)
        have hwe : ws = [] := by
          cases ws with
          | nil => rfl
          | cons w0 r =>
            rw [hboxes] at hboxe
            have hw0 := (hwin.c w0 (by rw [hws]; exact List.mem_cons_self)).1
            rw [List.flatten_cons] at hboxe
            exact (hw0 (List.append_eq_nil_iff.mp hboxe).1).elim
        refine ⟨(by show 0 ≤ sizeLine; omega), fun p1 n_p1 => ?_⟩
        generalize eH_p1 : upd H2 p1 _ = H3
        have ev_p1 : ∀ {M : List Addr}, Fr M H2 H3 := by intro M; rw [← eH_p1]; exact Fr.new n_p1
        have h_p1 : H3 p1 = some (.tup []) := by rw [← eH_p1]; exact upd_same
        clear eH_p1
        refine ⟨(by show 0 ≤ sizeLine; omega), fun p2 n_p2 => ?_⟩
        generalize eH_p2 : upd H3 p2 _ = H4
        have ev_p2 : ∀ {M : List Addr}, Fr M H3 H4 := by intro M; rw [← eH_p2]; exact Fr.new n_p2
        have h_p2 : H4 p2 = some (.tup []) := by rw [← eH_p2]; exact upd_same
        clear eH_p2
        refine ⟨(by show 2 ≤ sizeLine; omega), fun p3 n_p3 => ?_⟩
        have f := Fr.new (M := []) (o := .tup [.ref p1, .ref p2]) n_p3
        refine k (.ref p3) _ ?_ ((((f1.t0 fr).t0 ev_p1).t0 ev_p2).t0 f)
        rw [hpc, hboxe, hwe]
        exact .tup upd_same (.cons (.tup (f.k0 ((ev_p2 (M := [])).k0 h_p1)) .nil) (.cons (.tup (f.k0 h_p2) .nil) .nil))
      · have hb1 : 1 ≤ boxes.length := by
          cases bs with
          | nil => exact (hc rfl).elim
          | cons _ _ => rw [← hbsl]; exact Nat.succ_le_succ (Nat.zero_le _)
        have fr2 := f1.t0 fr
        refine ⟨_, rfl, fun o dx n_o n_dx dne => ?_⟩
        have f3 : ∀ {M : List Addr}, Fr M H2 (upd (upd H2 dx (.own o)) o (.ins CS dx [])) := Fr.made n_o n_dx dne
        refine ⟨o, dx, u, ds, F, rfl, upd_same, (hw.mono fr2.t).mono (f3 (M := [])).t, hds, hdl, fun H4 hsc f4 => ⟨rfl, ?_⟩⟩
        have f24 : Fr [] H2 H4 := (f3 (M := [])).t1 f4 (.inr n_o)
        have fr4 : Fr [] H H4 := fr2.t0 f24
        have h_D4 := f24.k0 h_D
        have f14 : Fr [] H1 H4 := fr.t0 f24
        have hrows4 := hrows.k0 f14
        refine ⟨(by show 0 ≤ sizeLine; omega), fun l n_l => ?_⟩
        have l0 := fr4.d _ n_l
        have n_l4 := n_l
        generalize eH_l : upd H4 l _ = H5
        have ev_l : ∀ {M : List Addr}, Fr M H4 H5 := by intro M; rw [← eH_l]; exact Fr.new n_l
        have h_l : H5 l = some (.lst []) := by rw [← eH_l]; exact upd_same
        clear eH_l
        have h_D5 := (ev_l (M := [])).k0 h_D4
        refine ⟨_, rfl, _, rfl, _, rfl, v, D, bs, rs, boxes, rfl, hv.mono (fr4.t0 ev_l).t, hrl, h_D5, hrows4.k0 ev_l, hbl, hb1, by rw [hflat2]; exact hll, fun p kk t z f e => by rw [hflat2]; exact shown_there hsh e, fun m as H6 n_m h_m hmr hnew f6 => ?_⟩
        have lm := (ne_of_none h_l n_m).symm
        have las : ∀ a ∈ as, a ≠ l := fun a ha => (ne_of_none h_l (hnew a ha)).symm
        have hasl : as.length = boxes.length := by rw [hmr.len, marks_len]
        have hzl : boxes.length = min (bs.map V.ref).length (as.map V.ref).length := by rw [List.length_map, List.length_map, hbsl, hasl, Nat.min_self]
        have f56 : Fr [] H4 H6 := ev_l.t0 f6
        have h_l6 := f6.k0 h_l
        refine ⟨D, m, bs.map V.ref, as.map V.ref, rfl, SqL.of (f6.k0 h_D5), SqL.of h_m, for_it (walk_zip (xs := bs.map V.ref) (ys := as.map V.ref) hzl) (fun i σ H' => ∃ (us : List V) (v6 v9 v10 v11 : Option V), σ = [some v, some u, some (.ref wa), some (.ref sa), some (.ref D), none, v6, some (.ref o), some (.ref l), v9, v10, v11] ∧ H' l = some (.lst us) ∧
          Trs H' us (((boxes.zip (marksF rs boxes)).take i).map (boxD F)) ∧ us.length = i ∧ Fr [] H4 H' ∧ RowsAt H' as (marksF rs boxes) ∧ H' m = some (.lst (as.map V.ref))) ?_ ?_ ?_ ?_⟩
        · exact ⟨[], _, _, _, _, rfl, h_l6, .nil, rfl, f56, hmr, h_m⟩
        · rintro i σ H7 _ ⟨us, v6, v9, v10, v11, rfl, h_l, hT, hul, fr7, hmr, h_m⟩
          exact ⟨SqL.of (fr7.k0 h_D4), SqL.of h_m⟩
        · rintro i y σ H7 H8' hi ⟨us, v6, v9, v10, v11, rfl, h_l, hT, hul, fr7, hmr, h_m⟩ ⟨TT, x1, x2, rfl, n_TT, rfl, e1, e2⟩
          generalize eH_TT : upd H7 TT _ = H8
          have ev_TT : ∀ {M : List Addr}, Fr M H7 H8 := by intro M; rw [← eH_TT]; exact Fr.new n_TT
          have h_TT : H8 TT = some (.tup [x1, x2]) := by rw [← eH_TT]; exact upd_same
          clear eH_TT
          have h_l := (ev_TT (M := [])).k0 h_l
          have hT := hT.mono (ev_TT (M := [])).t
          have fr7 := fr7.t0 ev_TT
          have hmr := hmr.k0 ev_TT
          have h_m := (ev_TT (M := [])).k0 h_m
          have e1 : (bs.map V.ref)[i]? = some x1 := e1
          have e2 : (as.map V.ref)[i]? = some x2 := e2
          obtain ⟨box, ebox, hbm⟩ := get_of hi
          obtain ⟨ml, eml, hmm⟩ := get_of (l := marksF rs boxes) (j := i) (by rw [marks_len]; exact hi)
          have hr8 := hrows4.k0 fr7
          obtain ⟨b, vs, eb, h_b, hbT⟩ := hr8.get (i := i) (ds := box.map ceD) (by rw [List.getElem?_map, ebox] <;> rfl)
          obtain ⟨a, ns, ea, h_a, haT⟩ := hmr.get eml
          rw [List.getElem?_map, eb] at e1
          rw [List.getElem?_map, ea] at e2
          cases e1
          cases e2
          obtain ⟨wd, hwd, hbw⟩ := List.mem_flatten.mp (show box ∈ ws.flatten by rw [← hboxes]; exact hbm)
          have hbp : BoxP (fun m => msT F m ∈ ds) box := by
            refine ⟨fun le hle => ⟨hm1 wd hwd _ (msF_letter hbw hle), ?_⟩, fun j a b h1 h2 e => hm1 wd hwd _ (msF_pair hbw h1 h2 e)⟩
            exact (hce le (by rw [← hflat2]; exact List.mem_flatten.mpr ⟨box, hbm, hle⟩)).2
          have hbxl : box.length ≤ 10000 := ((hshort.2.2 wd (by rw [hws]; exact hwd)).2 box hbw)
          refine ⟨_, _, rfl, SqT.of (h_TT), rfl, _, _, rfl, _, _, rfl, rfl, _, rfl, _, rfl, b, o, vs, box, F, _, rfl, h_b, hbT, hsc.k0 fr7, hbp, hbxl, fun w9 H9 hw9 f9 => ?_⟩
          obtain ⟨t9, us9, rfl, h_t9, hus9⟩ := hw9.inv
          obtain ⟨u1, r1, rfl, hu1, hus9⟩ := hus9.inv
          obtain ⟨u2, r2, rfl, hu2, hus9⟩ := hus9.inv
          cases hus9.inv0
          cases hu1.inv_int
          have h_l := f9.k0 h_l
          have hT := hT.mono f9.t
          have h_a := f9.k0 h_a
          refine ⟨_, _, rfl, SqT.of (h_t9), rfl, _, _, rfl, _, _, rfl, rfl, _, rfl, Or.inl ⟨rfl, _, SqL.of h_l⟩, _, rfl, _, rfl, _, rfl, a, _, rfl, Or.inl ⟨SqL.of h_a, fun q n_q => ?_⟩⟩
          generalize eH_q : upd H9 q _ = H10
          have ev_q : ∀ {M : List Addr}, Fr M H9 H10 := by intro M; rw [← eH_q]; exact Fr.new n_q
          have h_q : H10 q = some (.tup ns) := by rw [← eH_q]; exact upd_same
          clear eH_q
          refine ⟨(by show 3 ≤ sizeLine; omega), fun p n_p => ?_⟩
          generalize eH_p : upd H10 p _ = H11
          have ev_p : ∀ {M : List Addr}, Fr M H10 H11 := by intro M; rw [← eH_p]; exact Fr.new n_p
          have h_p : H11 p = some (.tup [.int (plF F box).2.1, u2, .ref q]) := by rw [← eH_p]; exact upd_same
          clear eH_p
          have f11 : Fr [] H9 H11 := (ev_q (M := [])).t0 ev_p
          have h_l := f11.k0 h_l
          have pp := Fr.put (o := .lst (us ++ [.ref p])) h_l
          refine ⟨_, _, _, rfl, rfl, h_l, by omega, us ++ [.ref p], _, _, _, _, rfl, upd_same, ?_, by rw [List.length_append, hul] <;> rfl, ((fr7.t0 f9).t0 f11).t1 pp (.inr n_l4), ?_, ?_⟩
          · have e : (boxes.zip (marksF rs boxes)).take (i + 1) = (boxes.zip (marksF rs boxes)).take i ++ [(box, ml)] := by
              have : (boxes.zip (marksF rs boxes))[i]? = some (box, ml) := by rw [List.getElem?_zip_eq_some]; exact ⟨ebox, eml⟩
              rw [List.take_add_one, this] <;> rfl
            rw [e, List.map_append]
            refine ((hT.mono f11.t).mono pp.t).snoc ?_
            exact (Tr.tup (ds := [.int (plF F box).2.1, .tup ((plF F box).1.map plD), .tup ml]) h_p (.cons (.int _) (.cons (hu2.mono f11.t) (.cons (.tup ((ev_p (M := [])).k0 h_q) ((haT.mono f9.t).mono f11.t)) .nil)))).mono pp.t
          · exact ((hmr.k0 f9).k0 f11).keep pp fun a ha => by simp only [List.mem_singleton]; exact las a ha
          · exact pp.k1 (f11.k0 (f9.k0 h_m)) lm
        · rintro σ H7 ⟨us, v6, v9, v10, v11, rfl, h_l, hT, hul, fr7, hmr, h_m⟩
          have ezl : (boxes.zip (marksF rs boxes)).length = boxes.length := by rw [List.length_zip, marks_len, Nat.min_self]
          rw [← ezl, List.take_length] at hT
          refine ⟨_, rfl, l, _, rfl, Or.inl ⟨SqL.of h_l, fun q n_q => ?_⟩⟩
          generalize eH_q : upd H7 q _ = H8
          have ev_q : ∀ {M : List Addr}, Fr M H7 H8 := by intro M; rw [← eH_q]; exact Fr.new n_q
          have h_q : H8 q = some (.tup us) := by rw [← eH_q]; exact upd_same
          clear eH_q
          have fr8 := fr7.t0 ev_q
          have f18 : Fr [] H1 H8 := f14.t0 fr8
          refine ⟨_, rfl, _, rfl, _, rfl, wa, sa, o, L, ss, ws, sps, F, _, rfl, f18.k0 h_wa, hW.k0 f18, f18.k0 h_sa, hS.mono f18.t, hsc.k0 fr8, fun wd hwd => ?_, ?_, fun wd hwd => ?_, fun x hx => ?_, ?_, ?_, fun w9 H9 hw9 f9 => ⟨(by show 2 ≤ sizeLine; omega), fun t n_t => ?_⟩⟩
          · have := hwin.c wd (by rw [hws]; exact hwd)
            exact ⟨this.1, fun x hx => ⟨this.2 x hx, fun le hle => (hce le (by rw [← hflat2, hboxes]; exact List.mem_flatten.mpr ⟨x, List.mem_flatten.mpr ⟨wd, hwd, hx⟩, hle⟩)).2⟩⟩
          · have := hsp.n
            rw [hws, hsps] at this
            exact this
          · intro kk a b h1 h2
            have hne := (hwin.c wd (by rw [hws]; exact hwd)).2
            obtain ⟨g1, g2⟩ := msF_joint hne h1 h2
            exact ⟨hm1 wd hwd _ g1, fun e => hm1 wd hwd _ (g2 e)⟩
          · have := hsp.ok x (by rw [hsps]; exact hx)
            exact ⟨hm2 x hx, this.1, this.2.1⟩
          · rw [← hboxes]; exact hbl
          · have := hshort.1
            rwa [hws] at this
          · have f := Fr.new (M := []) (o := .tup [.ref q, w9]) n_t
            refine k (.ref t) _ ?_ (((fr4.t0 fr8).t0 f9).t0 f)
            rw [hpc]
            exact .tup upd_same (.cons (.tup (f.k0 (f9.k0 h_q)) (((hT.mono (ev_q (M := [])).t).mono f9.t).mono f.t)) (.cons (hw9.mono f.t) .nil))
end

end K45

set_option maxHeartbeats 4000000
namespace K45
open PySem PySem.Spec PyProof.Rows L2
/-! ### the same -/
inductive DN : Nat → Dt → Prop
  | int (n : Nat) (i : Int) : DN n (.int i)
  | str (n : Nat) (x : Str) : DN n (.str x)
  | tup {n : Nat} {ds : List Dt} (hl : ds.length ≤ 1000000) (h : ∀ d ∈ ds, DN n d) : DN (n + 1) (.tup ds)
def spSameN (n : Nat) : Sp := fun vs H Q _ => ∃ x y : V, vs = [x, y] ∧ ((∃ d, Tr H x d ∧ Tr H y d ∧ DN n d ∧ Q (.bl true) H) ∨ (∃ s t : Str, x = .str s ∧ y = .str t ∧ Q (.bl (decide (V.str s = V.str t))) H) ∨
  ∃ (m : Nat) (a b : Addr) (us ws : List V) (ds : List Dt), n = m + 1 ∧ x = .ref a ∧ y = .ref b ∧ H a = some (.lst us) ∧ H b = some (.lst ws) ∧ Trs H us ds ∧ Trs H ws ds ∧ ds.length ≤ 1000000 ∧ (∀ d ∈ ds, DN m d) ∧ Q (.bl true) H)
def spSame : Sp := spSameN 7
theorem DN.up {n : Nat} {d : Dt} (h : DN n d) : ∀ {m : Nat}, n ≤ m → DN m d := by
  induction h with
  | int n i => intro m _; exact .int m i
  | str n x => intro m _; exact .str m x
  | tup hl h ih =>
    intro m e
    cases m with
    | zero => exact absurd e (Nat.not_succ_le_zero _)
    | succ m => exact .tup hl fun d hd => ih d hd (Nat.le_of_succ_le_succ e)
section
variable {X : Cx}
def rIxX (K : PySem.W.Frag) : R2 := fun x y H Q => rIxL K x y H Q ∨ rIxT K x y H Q
theorem ix_X : IxR X (rIxX X.K) := by
  intro value slice pins s σ H x y v u Q I rx ry h hs
  rcases h with h | h
  · exact ix_list value slice pins s σ H x y v u Q I rx ry h hs
  · exact ix_tup value slice pins s σ H x y v u Q I rx ry h hs
end
/-! ### pieces -/
abbrev Bx : Type := Int × List PL × List Dt
def bxD (b : Bx) : Dt := .tup [.int b.1, .tup (b.2.1.map plD), .tup b.2.2]
def pieceT (bx : List Bx) (js : List Jt) : Dt := .tup [.tup (bx.map bxD), .tup (js.map jtD)]
def bxs (F : Fcs) (rs : List RR) : List Bx := ((boxesF rs).zip (marksF rs (boxesF rs))).map fun x => ((plF F x.1).2.1, (plF F x.1).1, x.2)
def jts (F : Fcs) (rs : List RR) : List Jt := jointsF F (wordsF rs).ws (wordsF rs).sp
theorem pieces_eq (F : Fcs) (rs : List RR) : piecesD F rs = pieceT (bxs F rs) (jts F rs) := by
  unfold piecesD pieceT bxs jts
  rw [List.map_map]
  rfl
abbrev Cl : Type := Nat × Int × Str
def clD (x : Cl) : Dt := .tup [.str (ch x.1), .int x.2.1, .str x.2.2]
def cellR : RR → List Cl
  | .mark _ => []
  | .text t z f => t.map fun c => (c, z, f)
  | .shown _ t z f => t.map fun c => (c, z, f)
def cellsF (rs : List RR) : List Cl := (rs.map cellR).flatten
def spCells : Sp := fun vs H Q _ => ∃ (v : V) (rs : List RR), vs = [v] ∧ Tr H v (.tup (rs.map rrD)) ∧ rs.length ≤ 100 ∧ (∀ r ∈ rs, RRok r) ∧ ∀ (l : Addr) (us : List V) (H' : Hp), H l = none → H' l = some (.lst us) → Trs H' us ((cellsF rs).map clD) → us.length ≤ 10000 → Fr [] H H' → Q (.ref l) H'
def spWhole : Sp := fun vs H Q _ => ∃ i : Int, vs = [.int i] ∧ Q (.bl true) H
def plC (x : PL) : Cl := (x.c, x.z, x.f)
def toldF (bx : List Bx) : List Cl := (bx.map fun b => b.2.1.map plC).flatten
def spLonce : Sp := fun vs H Q _ => ∃ (v u : V) (bx : List Bx) (js : List Jt) (rs : List RR), vs = [v, u] ∧ Tr H v (pieceT bx js) ∧ Tr H u (.tup (rs.map rrD)) ∧ rs.length ≤ 100 ∧ (∀ r ∈ rs, RRok r) ∧ toldF bx = (cellsF rs).filter (fun x => isL x.1) ∧ (toldF bx).length ≤ 10000 ∧ ∀ H' : Hp, Fr [] H H' → Q (.bl true) H'
/-- the houses -/
def HsAt (H : Hp) (d : Addr) (F : Fcs) (need : List Nat) : Prop := ∃ hk, H d = some (.dK hk) ∧ ∀ f, FaceN f → ∃ h HD, valV hk (Sum.inr f) = some (.ref h) ∧ HouseAt H h HD ∧ TabOk H HD.kvs need (F f).adv
theorem HsAt.k0 {H H' : Hp} {d : Addr} {F : Fcs} {need : List Nat} (h : HsAt H d F need) (f : Fr [] H H') : HsAt H' d F need :=
  let ⟨hk, h1, h2⟩ := h; ⟨hk, f.k0 h1, fun x hx => let ⟨o, HD, e, h3, h4⟩ := h2 x hx; ⟨o, HD, e, h3.k0 f, h4.mono f.t⟩⟩
def PlOk (need : List Nat) (x : PL) : Prop := x.c ∈ need ∧ SzOk x.z x.f
/-- the offsets beside figures -/
def OffOk (F : Fcs) (ls : List PL) : Prop := ∀ (k : Nat) (a b : PL), ls[k]? = some a → ls[k + 1]? = some b → fig a.c = true ∨ fig b.c = true → b.off = a.off + a.z * (F a.f).adv a.c
def BxOk (F : Fcs) (need : List Nat) (b : Bx) : Prop := b.2.1 ≠ [] ∧ OffOk F b.2.1 ∧ (∀ x ∈ b.2.1, PlOk need x) ∧ b.2.1.length ≤ 10000
def spBst : Sp := fun vs H Q _ => ∃ (d : Addr) (v : V) (b : Bx) (F : Fcs) (need : List Nat), vs = [.ref d, v] ∧ HsAt H d F need ∧ Tr H v (bxD b) ∧ BxOk F need b ∧ Q (.bl true) H
instance : Inhabited PL := ⟨⟨0, 0, 0, ""⟩⟩
def lastP (ls : List PL) : PL := ls.getLast?.getD default
def headP (ls : List PL) : PL := ls.head?.getD default
def JtOk (F : Fcs) (j : Jt) (one two : Bx) : Prop :=
  match j with
  | .gap _ _ _ => True
  | .hyp w o m z f => (fig (lastP one.2.1).c = true → w = (lastP one.2.1).z * (F (lastP one.2.1).f).adv 45 ∧ o = 0 ∧ m = 0 ∧ z = (lastP one.2.1).z ∧ f = (lastP one.2.1).f) ∧ (fig (headP two.2.1).c = true → o = 0)
def spJst : Sp := fun vs H Q _ => ∃ (d : Addr) (v u1 u2 : V) (j : Jt) (one two : Bx) (F : Fcs) (need : List Nat), vs = [.ref d, v, u1, u2] ∧ HsAt H d F need ∧ 45 ∈ need ∧ Tr H v (jtD j) ∧ Tr H u1 (bxD one) ∧ Tr H u2 (bxD two) ∧ BxOk F need one ∧ BxOk F need two ∧ JtOk F j one two ∧ ∀ H' : Hp, Fr [] H H' → Q (.bl true) H'
def PcOk (F : Fcs) (need : List Nat) (bx : List Bx) (js : List Jt) : Prop := js.length = bx.length - 1 ∧ (∀ b ∈ bx, BxOk F need b) ∧ ∀ (k : Nat) (j : Jt) (a b : Bx), js[k]? = some j → bx[k]? = some a → bx[k + 1]? = some b → JtOk F j a b
def spFst : Sp := fun vs H Q _ => ∃ (d : Addr) (v : V) (bx : List Bx) (js : List Jt) (F : Fcs) (need : List Nat), vs = [.ref d, v] ∧ HsAt H d F need ∧ 45 ∈ need ∧ Tr H v (pieceT bx js) ∧ PcOk F need bx js ∧ bx.length ≤ 10000 ∧ ∀ H' : Hp, Fr [] H H' → Q (.bl true) H'
def mkP (x : PL) : PL := ⟨mk x.c, x.off, x.z, x.f⟩
def mkB (b : Bx) : Bx := (b.1, b.2.1.map mkP, b.2.2)
def spMasked : Sp := fun vs H Q _ => ∃ (v : V) (bx : List Bx) (js : List Jt), vs = [v] ∧ Tr H v (pieceT bx js) ∧ bx.length ≤ 10000 ∧ (∀ b ∈ bx, b.2.1.length ≤ 10000) ∧ ∀ (u : V) (H' : Hp), Tr H' u (pieceT (bx.map mkB) js) → Fr [] H H' → Q u H'
def bareD (bx : List Bx) (js : List Jt) : Dt := .tup [.tup (bx.map fun b => .int b.1), .tup (js.map bareJ)]
def spBare : Sp := fun vs H Q _ => ∃ (v : V) (bx : List Bx) (js : List Jt), vs = [v] ∧ Tr H v (pieceT bx js) ∧ bx.length ≤ 10000 ∧ js.length ≤ 10000 ∧ ∀ (u : V) (H' : Hp), Tr H' u (bareD bx js) → Fr [] H H' → Q u H'
theorem pc_inv {H : Hp} {v : V} {bx : List Bx} {js : List Jt} (h : Tr H v (pieceT bx js)) : ∃ p b j us ws, v = .ref p ∧ H p = some (.tup [.ref b, .ref j]) ∧ H b = some (.tup us) ∧ Trs H us (bx.map bxD) ∧ H j = some (.tup ws) ∧ Trs H ws (js.map jtD) := by
  obtain ⟨p, vs, rfl, hp, hvs⟩ := h.inv
  obtain ⟨v1, r1, rfl, h1, hvs⟩ := hvs.inv
  obtain ⟨v2, r2, rfl, h2, hvs⟩ := hvs.inv
  cases hvs.inv0
  obtain ⟨b, us, rfl, hb, hus⟩ := h1.inv
  obtain ⟨j, ws, rfl, hj, hws⟩ := h2.inv
  exact ⟨p, b, j, us, ws, rfl, hp, hb, hus, hj, hws⟩
theorem bx_inv {H : Hp} {v : V} {b : Bx} (h : Tr H v (bxD b)) : ∃ p l m us ns, v = .ref p ∧ H p = some (.tup [.int b.1, .ref l, .ref m]) ∧ H l = some (.tup us) ∧ Trs H us (b.2.1.map plD) ∧ H m = some (.tup ns) ∧ Trs H ns b.2.2 := by
  obtain ⟨p, vs, rfl, hp, hvs⟩ := h.inv
  obtain ⟨v1, r1, rfl, h1, hvs⟩ := hvs.inv
  obtain ⟨v2, r2, rfl, h2, hvs⟩ := hvs.inv
  obtain ⟨v3, r3, rfl, h3, hvs⟩ := hvs.inv
  cases hvs.inv0
  cases h1.inv_int
  obtain ⟨l, us, rfl, hl, hus⟩ := h2.inv
  obtain ⟨m, ns, rfl, hm, hns⟩ := h3.inv
  exact ⟨p, l, m, us, ns, rfl, hp, hl, hus, hm, hns⟩
theorem digs {c : Nat} : c ∈ (Str.ofString "0123456789").cps.toList ↔ fig c = true := by
  have e : (Str.ofString "0123456789").cps.toList = figL := by decide +kernel
  rw [e]
  exact fig_mem.symm
theorem seps {c : Nat} : (!decide (c ∈ (Str.ofString " |").cps.toList)) = isL c := by
  have e : (Str.ofString " |").cps.toList = [32, 124] := by decide +kernel
  rw [e]
  unfold isL
  by_cases h1 : c = 32
  · simp [h1]
  · by_cases h2 : c = 124
    · simp [h2]
    · simp [h1, h2]
/-- the list that grows, by data -/
structure GrI (l : Addr) (H0 H : Hp) (ds : List Dt) (us : List V) : Prop where
  hl : H l = some (.lst us)
  t : Trs H us ds
  fr : Fr [] H0 H
  n : H0 l = none
theorem GrI.len {l : Addr} {H0 H : Hp} {ds : List Dt} {us : List V} (I : GrI l H0 H ds us) : us.length = ds.length := I.t.length
theorem GrI.k0 {l : Addr} {H0 H H' : Hp} {ds : List Dt} {us : List V} (I : GrI l H0 H ds us) (f : Fr [] H H') : GrI l H0 H' ds us := ⟨f.k0 I.hl, I.t.mono f.t, I.fr.t0 f, I.n⟩
theorem GrI.app {l : Addr} {H0 H : Hp} {ds : List Dt} {us : List V} (I : GrI l H0 H ds us) {v : V} {d : Dt} (h : Tr H v d) : GrI l H0 (upd H l (.lst (us ++ [v]))) (ds ++ [d]) (us ++ [v]) :=
  ⟨upd_same, (I.t.mono (Fr.put I.hl).t).snoc (h.mono (Fr.put I.hl).t), I.fr.t1 (Fr.put I.hl) (.inr I.n), I.n⟩

end K45

set_option maxHeartbeats 4000000
namespace K45
open PySem PySem.Spec PyProof.Rows L2
section
variable {P : Program} {w : World} {K : PySem.W.Frag} {mg : Str → Option Value} {base : Heap}
abbrev s_same : Stmt := top 40
abbrev N_same : List Str := ["_law_one", "_law_two", "_law_both", "_law_k"]
theorem sc_same : FnScope ["_law_one", "_law_two", "_law_both", "_law_k"] ["_law_one", "_law_two"] (defScope s_same) := ⟨rfl, rfl, rfl, by decide +kernel, rfl, by decide +kernel, by decide +kernel⟩
theorem same0 (F : Df K mg "_law_same" s_same) (G : Gn mg) : C8.Cal P w K mg base 1 "_law_same" (spSameN 0) [] := by
  refine cal_by F sc_same (fun _ _ _ _ _ _ us hl => match us, hl with | [_, _], _ => rfl) (fun vs H Q E h => ?_) (fun f cdv A outer s H vs Q E hr h => ?_)
  · obtain ⟨x, y, rfl, _⟩ := h
    rfl
  · obtain ⟨x, y, rfl, h⟩ := h
    have sc := sc_same
    refine ⟨_, (pss_cons (ps_if (PW.pt (pw_or (pt_val (pe_callB call_isi rfl G.n_isinstance (by decide +kernel) (pa_cons (pv 0) (pa_cons (pe_bltn (v := .ty "bool") rfl G.n_bool (by decide +kernel) rfl) pa_nil)))) (pw_or1 (pt_val (pe_callB call_isi rfl G.n_isinstance (by decide +kernel) (pa_cons (pv 1) (pa_cons (pe_bltn (v := .ty "bool") rfl G.n_bool (by decide +kernel) rfl) pa_nil)))))))
        (pss_one (ps_ret (pe_and (pe_callB call_isi rfl G.n_isinstance (by decide +kernel) (pa_cons (pv 0) (pa_cons (pe_bltn (v := .ty "bool") rfl G.n_bool (by decide +kernel) rfl) pa_nil))) (pe_and (pe_callB call_isi rfl G.n_isinstance (by decide +kernel) (pa_cons (pv 1) (pa_cons (pe_bltn (v := .ty "bool") rfl G.n_bool (by decide +kernel) rfl) pa_nil))) (pe_one (pe_cmpR op_eq (pv 0) (pv 1) (nomark _)))))))
        pss_nil)
      (pss_cons (ps_if (PW.pt (pw_and (pt_val (pe_callB call_isi rfl G.n_isinstance (by decide +kernel) (pa_cons (pv 0) (pa_cons (pe_bltn (v := .ty "int") rfl G.n_int (by decide +kernel) rfl) pa_nil)))) (pw_and1 (pt_val (pe_callB call_isi rfl G.n_isinstance (by decide +kernel) (pa_cons (pv 1) (pa_cons (pe_bltn (v := .ty "int") rfl G.n_int (by decide +kernel) rfl) pa_nil)))))))
        (pss_one (ps_ret (pe_cmpR op_eq (pv 0) (pv 1) (nomark _))))
        pss_nil)
      (pss_cons (ps_if (PW.pt (pw_and (pt_val (pe_callB call_isi rfl G.n_isinstance (by decide +kernel) (pa_cons (pv 0) (pa_cons (pe_bltn (v := .ty "str") rfl G.n_str (by decide +kernel) rfl) pa_nil)))) (pw_and1 (pt_val (pe_callB call_isi rfl G.n_isinstance (by decide +kernel) (pa_cons (pv 1) (pa_cons (pe_bltn (v := .ty "str") rfl G.n_str (by decide +kernel) rfl) pa_nil)))))))
        (pss_one (ps_ret (pe_cmpR op_eq (pv 0) (pv 1) (nomark _))))
        pss_nil)
      (pss_cons (ps_set (i := 2) sc.nd rfl (Or.inl rfl) (pe_and (pe_callB call_isi rfl G.n_isinstance (by decide +kernel) (pa_cons (pv 0) (pa_cons (pe_bltn (v := .ty "tuple") rfl G.n_tuple (by decide +kernel) rfl) pa_nil))) (pe_one (pe_callB call_isi rfl G.n_isinstance (by decide +kernel) (pa_cons (pv 1) (pa_cons (pe_bltn (v := .ty "tuple") rfl G.n_tuple (by decide +kernel) rfl) pa_nil))))))
      (pss_cons (ps_if (PW.pt (pw_or (pt_val (pv 2)) (pw_or1 (PW.pt (pw_and (pt_val (pe_callB call_isi rfl G.n_isinstance (by decide +kernel) (pa_cons (pv 0) (pa_cons (pe_bltn (v := .ty "list") rfl G.n_list (by decide +kernel) rfl) pa_nil)))) (pw_and1 (pt_val (pe_callB call_isi rfl G.n_isinstance (by decide +kernel) (pa_cons (pv 1) (pa_cons (pe_bltn (v := .ty "list") rfl G.n_list (by decide +kernel) rfl) pa_nil))))))))))
        (pss_cons (ps_if (pt_cmpR op_ne (pe_callB call_len_seq rfl G.n_len (by decide +kernel) (pa_cons (pv 0) pa_nil)) (pe_callB call_len_seq rfl G.n_len (by decide +kernel) (pa_cons (pv 1) pa_nil)) (nomark _))
          (pss_one (ps_ret pe_bl))
          pss_nil)
        (pss_cons ps_never
        (pss_one (ps_ret pe_bl))))
        pss_nil)
      (pss_cons (ps_if (PW.pt (pw_and (pt_val (pe_callB call_isi rfl G.n_isinstance (by decide +kernel) (pa_cons (pv 0) (pa_cons (pe_bltn (v := .ty "dict") rfl G.n_dict (by decide +kernel) rfl) pa_nil)))) (pw_and1 (pt_val (pe_callB call_isi rfl G.n_isinstance (by decide +kernel) (pa_cons (pv 1) (pa_cons (pe_bltn (v := .ty "dict") rfl G.n_dict (by decide +kernel) rfl) pa_nil))))))) (pss_cons ps_never (pss_cons ps_never (pss_one ps_never))) pss_nil)
      (pss_one (ps_ret (pe_and (pe_cmpR op_isN (pv 0) pe_non (nomark _)) (pe_one (pe_cmpR op_isN (pv 1) pe_non (nomark _)))))))))))), ?_⟩
    have hz := big
    rcases h with ⟨d, h1, h2, hd, k⟩ | ⟨a, b, rfl, rfl, k⟩ | ⟨m, a, b, us, ws, ds, e, _⟩
    · cases hd with
      | int n i =>
        cases h1.inv_int
        cases h2.inv_int
        refine ⟨_, rfl, _, _, _, _, false, rfl, .ty "bool", .base (.int _), kit_ty (by decide +kernel), _, rfl, _, rfl, _, _, _, _, false, rfl, .ty "bool", .base (.int _), kit_ty (by decide +kernel), _, rfl, _, rfl, _, _, _, _, true, rfl, .ty "int", .base (.int _), kit_ty (by decide +kernel), _, rfl, _, rfl, _, _, _, _, true, rfl, .ty "int", .base (.int _), kit_ty (by decide +kernel), _, rfl, _, rfl, _, rfl, rfl, ?_⟩
        rw [decide_eq_true rfl]
        exact k
      | str n x =>
        cases h1.inv_str
        cases h2.inv_str
        refine ⟨_, rfl, _, _, _, _, false, rfl, .ty "bool", .base (.str _), kit_ty (by decide +kernel), _, rfl, _, rfl, _, _, _, _, false, rfl, .ty "bool", .base (.str _), kit_ty (by decide +kernel), _, rfl, _, rfl, _, _, _, _, false, rfl, .ty "int", .base (.str _), kit_ty (by decide +kernel), _, rfl, _, rfl, _, _, _, _, true, rfl, .ty "str", .base (.str _), kit_ty (by decide +kernel), _, rfl, _, rfl, _, _, _, _, true, rfl, .ty "str", .base (.str _), kit_ty (by decide +kernel), _, rfl, _, rfl, _, rfl, rfl, ?_⟩
        rw [decide_eq_true rfl]
        exact k
    · exact ⟨_, rfl, _, _, _, _, false, rfl, .ty "bool", .base (.str _), kit_ty (by decide +kernel), _, rfl, _, rfl, _, _, _, _, false, rfl, .ty "bool", .base (.str _), kit_ty (by decide +kernel), _, rfl, _, rfl, _, _, _, _, false, rfl, .ty "int", .base (.str _), kit_ty (by decide +kernel), _, rfl, _, rfl, _, _, _, _, true, rfl, .ty "str", .base (.str _), kit_ty (by decide +kernel), _, rfl, _, rfl, _, _, _, _, true, rfl, .ty "str", .base (.str _), kit_ty (by decide +kernel), _, rfl, _, rfl, _, rfl, rfl, k⟩
    · cases e
theorem sameS (F : Df K mg "_law_same" s_same) (G : Gn mg) (n : Nat) (c__law_same : C8.Cal P w K mg base (n + 1) "_law_same" (spSameN n) []) : C8.Cal P w K mg base (n + 1 + 1) "_law_same" (spSameN (n + 1)) [] := by
  refine cal_by F sc_same (fun _ _ _ _ _ _ us hl => match us, hl with | [_, _], _ => rfl) (fun vs H Q E h => ?_) (fun f cdv A outer s H vs Q E hr h => ?_)
  · obtain ⟨x, y, rfl, _⟩ := h
    rfl
  · obtain ⟨x, y, rfl, h⟩ := h
    have sc := sc_same
    refine ⟨_, (pss_cons (ps_if (PW.pt (pw_or (pt_val (pe_callB call_isi rfl G.n_isinstance (by decide +kernel) (pa_cons (pv 0) (pa_cons (pe_bltn (v := .ty "bool") rfl G.n_bool (by decide +kernel) rfl) pa_nil)))) (pw_or1 (pt_val (pe_callB call_isi rfl G.n_isinstance (by decide +kernel) (pa_cons (pv 1) (pa_cons (pe_bltn (v := .ty "bool") rfl G.n_bool (by decide +kernel) rfl) pa_nil)))))))
        (pss_one (ps_ret (pe_and (pe_callB call_isi rfl G.n_isinstance (by decide +kernel) (pa_cons (pv 0) (pa_cons (pe_bltn (v := .ty "bool") rfl G.n_bool (by decide +kernel) rfl) pa_nil))) (pe_and (pe_callB call_isi rfl G.n_isinstance (by decide +kernel) (pa_cons (pv 1) (pa_cons (pe_bltn (v := .ty "bool") rfl G.n_bool (by decide +kernel) rfl) pa_nil))) (pe_one (pe_cmpR op_eq (pv 0) (pv 1) (nomark _)))))))
        pss_nil)
      (pss_cons (ps_if (PW.pt (pw_and (pt_val (pe_callB call_isi rfl G.n_isinstance (by decide +kernel) (pa_cons (pv 0) (pa_cons (pe_bltn (v := .ty "int") rfl G.n_int (by decide +kernel) rfl) pa_nil)))) (pw_and1 (pt_val (pe_callB call_isi rfl G.n_isinstance (by decide +kernel) (pa_cons (pv 1) (pa_cons (pe_bltn (v := .ty "int") rfl G.n_int (by decide +kernel) rfl) pa_nil)))))))
        (pss_one (ps_ret (pe_cmpR op_eq (pv 0) (pv 1) (nomark _))))
        pss_nil)
      (pss_cons (ps_if (PW.pt (pw_and (pt_val (pe_callB call_isi rfl G.n_isinstance (by decide +kernel) (pa_cons (pv 0) (pa_cons (pe_bltn (v := .ty "str") rfl G.n_str (by decide +kernel) rfl) pa_nil)))) (pw_and1 (pt_val (pe_callB call_isi rfl G.n_isinstance (by decide +kernel) (pa_cons (pv 1) (pa_cons (pe_bltn (v := .ty "str") rfl G.n_str (by decide +kernel) rfl) pa_nil)))))))
        (pss_one (ps_ret (pe_cmpR op_eq (pv 0) (pv 1) (nomark _))))
        pss_nil)
      (pss_cons (ps_set (i := 2) sc.nd rfl (Or.inl rfl) (pe_and (pe_callB call_isi rfl G.n_isinstance (by decide +kernel) (pa_cons (pv 0) (pa_cons (pe_bltn (v := .ty "tuple") rfl G.n_tuple (by decide +kernel) rfl) pa_nil))) (pe_one (pe_callB call_isi rfl G.n_isinstance (by decide +kernel) (pa_cons (pv 1) (pa_cons (pe_bltn (v := .ty "tuple") rfl G.n_tuple (by decide +kernel) rfl) pa_nil))))))
      (pss_cons (ps_if (PW.pt (pw_or (pt_val (pv 2)) (pw_or1 (PW.pt (pw_and (pt_val (pe_callB call_isi rfl G.n_isinstance (by decide +kernel) (pa_cons (pv 0) (pa_cons (pe_bltn (v := .ty "list") rfl G.n_list (by decide +kernel) rfl) pa_nil)))) (pw_and1 (pt_val (pe_callB call_isi rfl G.n_isinstance (by decide +kernel) (pa_cons (pv 1) (pa_cons (pe_bltn (v := .ty "list") rfl G.n_list (by decide +kernel) rfl) pa_nil))))))))))
        (pss_cons (ps_if (pt_cmpR op_ne (pe_callB call_len_seq rfl G.n_len (by decide +kernel) (pa_cons (pv 0) pa_nil)) (pe_callB call_len_seq rfl G.n_len (by decide +kernel) (pa_cons (pv 1) pa_nil)) (nomark _))
          (pss_one (ps_ret pe_bl))
          pss_nil)
        (pss_cons (ps_for PassesOwn.never rfl (pi_range1 rfl G.n_range (pa_cons (pe_callB call_len_seq rfl G.n_len (by decide +kernel) (pa_cons (pv 0) pa_nil)) pa_nil)) (pg_name (i := 3) sc.nd rfl (Or.inl rfl))
          (pss_one (ps_if (pt_not (pt_val (C8.pe_c c__law_same hr (Nat.le_refl _) rfl (pa_cons (pe_ix ix_X (pv 0) (pv 3) (fun _ _ => rfl)) (pa_cons (pe_ix ix_X (pv 1) (pv 3) (fun _ _ => rfl)) pa_nil)))))
            (pss_one (ps_ret pe_bl))
            pss_nil)))
        (pss_one (ps_ret pe_bl))))
        pss_nil)
      (pss_cons (ps_if (PW.pt (pw_and (pt_val (pe_callB call_isi rfl G.n_isinstance (by decide +kernel) (pa_cons (pv 0) (pa_cons (pe_bltn (v := .ty "dict") rfl G.n_dict (by decide +kernel) rfl) pa_nil)))) (pw_and1 (pt_val (pe_callB call_isi rfl G.n_isinstance (by decide +kernel) (pa_cons (pv 1) (pa_cons (pe_bltn (v := .ty "dict") rfl G.n_dict (by decide +kernel) rfl) pa_nil))))))) (pss_cons ps_never (pss_cons ps_never (pss_one ps_never))) pss_nil)
      (pss_one (ps_ret (pe_and (pe_cmpR op_isN (pv 0) pe_non (nomark _)) (pe_one (pe_cmpR op_isN (pv 1) pe_non (nomark _)))))))))))), ?_⟩
    have hz := big
    rcases h with ⟨d, h1, h2, hd, k⟩ | ⟨a, b, rfl, rfl, k⟩ | ⟨m, a, b, us, ws, ds, e, rfl, rfl, h_a, h_b, hus, hws, hdl, hds, k⟩
    · cases hd with
      | int n i =>
        cases h1.inv_int
        cases h2.inv_int
        refine ⟨_, rfl, _, _, _, _, false, rfl, .ty "bool", .base (.int _), kit_ty (by decide +kernel), _, rfl, _, rfl, _, _, _, _, false, rfl, .ty "bool", .base (.int _), kit_ty (by decide +kernel), _, rfl, _, rfl, _, _, _, _, true, rfl, .ty "int", .base (.int _), kit_ty (by decide +kernel), _, rfl, _, rfl, _, _, _, _, true, rfl, .ty "int", .base (.int _), kit_ty (by decide +kernel), _, rfl, _, rfl, _, rfl, rfl, ?_⟩
        rw [decide_eq_true rfl]
        exact k
      | str n x =>
        cases h1.inv_str
        cases h2.inv_str
        refine ⟨_, rfl, _, _, _, _, false, rfl, .ty "bool", .base (.str _), kit_ty (by decide +kernel), _, rfl, _, rfl, _, _, _, _, false, rfl, .ty "bool", .base (.str _), kit_ty (by decide +kernel), _, rfl, _, rfl, _, _, _, _, false, rfl, .ty "int", .base (.str _), kit_ty (by decide +kernel), _, rfl, _, rfl, _, _, _, _, true, rfl, .ty "str", .base (.str _), kit_ty (by decide +kernel), _, rfl, _, rfl, _, _, _, _, true, rfl, .ty "str", .base (.str _), kit_ty (by decide +kernel), _, rfl, _, rfl, _, rfl, rfl, ?_⟩
        rw [decide_eq_true rfl]
        exact k
      | tup hdl hds =>
      rename_i ds
      obtain ⟨a, us, rfl, h_a, hus⟩ := h1.inv
      obtain ⟨b, ws, rfl, h_b, hws⟩ := h2.inv
      have hul : us.length = ds.length := hus.length
      have elen : us.length = ws.length := by rw [hus.length, hws.length]
      refine ⟨_, rfl, _, _, _, _, false, rfl, .ty "bool", .base (.tup h_a), kit_ty (by decide +kernel), _, rfl, _, rfl, _, _, _, _, false, rfl, .ty "bool", .base (.tup h_b), kit_ty (by decide +kernel), _, rfl, _, rfl, _, _, _, _, false, rfl, .ty "int", .base (.tup h_a), kit_ty (by decide +kernel), _, rfl, _, rfl, _, _, _, _, false, rfl, .ty "str", .base (.tup h_a), kit_ty (by decide +kernel), _, rfl, _, rfl, _, _, _, _, true, rfl, .ty "tuple", .base (.tup h_a), kit_ty (by decide +kernel), _, rfl, _, rfl, _, _, _, _, true, rfl, .ty "tuple", .base (.tup h_b), kit_ty (by decide +kernel), _, rfl, _, rfl, _, rfl, a, us, rfl, .inr (SqT.of h_a), _, rfl, b, ws, rfl, .inr (SqT.of h_b), rfl, _, rfl, ite2 (fun hc => ?_) (fun _ => ?_)⟩
      · rw [elen] at hc
        exact absurd hc (by simp)
      refine ⟨_, rfl, a, us, rfl, .inr (SqT.of h_a), _, rfl, by omega, by omega, for_range (n := ((us.length : Nat) : Int).toNat) (fun i σ H' => ∃ v3 : Option V, σ = [some (.ref a), some (.ref b), some (.bl true), v3] ∧ H' = H) ⟨_, rfl, rfl⟩ ?_ ?_⟩
      · rintro i σ H' hi ⟨v3, rfl, rfl⟩
        have hi2 : i < us.length := by omega
        obtain ⟨v2, e1, _⟩ := get_of hi2
        obtain ⟨d2, ed, hv2⟩ := hus.get' e1
        obtain ⟨w2, e2, hw2⟩ := hws.get ed
        have hdd := hds d2 (List.mem_of_getElem? ed)
        have e1 : us[0 + i]? = some v2 := by rw [Nat.zero_add]; exact e1
        have e2 : ws[0 + i]? = some w2 := by rw [Nat.zero_add]; exact e2
        have ez : (0 : Int) + (i : Int) = ((0 + i : Nat) : Int) := by omega
        rw [ez]
        exact ⟨_, rfl, _, rfl, Or.inr ⟨a, _, _, v2, rfl, rfl, SqT.of h_a, atI_nat e1, _, rfl, _, rfl, Or.inr ⟨b, _, _, w2, rfl, rfl, SqT.of h_b, atI_nat e2, v2, w2, rfl, .inl ⟨d2, hv2, hw2, hdd, _, rfl, _, rfl, rfl⟩⟩⟩⟩
      · rintro σ H' ⟨v3, rfl, rfl⟩
        exact k
    · exact ⟨_, rfl, _, _, _, _, false, rfl, .ty "bool", .base (.str _), kit_ty (by decide +kernel), _, rfl, _, rfl, _, _, _, _, false, rfl, .ty "bool", .base (.str _), kit_ty (by decide +kernel), _, rfl, _, rfl, _, _, _, _, false, rfl, .ty "int", .base (.str _), kit_ty (by decide +kernel), _, rfl, _, rfl, _, _, _, _, true, rfl, .ty "str", .base (.str _), kit_ty (by decide +kernel), _, rfl, _, rfl, _, _, _, _, true, rfl, .ty "str", .base (.str _), kit_ty (by decide +kernel), _, rfl, _, rfl, _, rfl, rfl, k⟩
    · cases e
      have hul : us.length = ds.length := hus.length
      have elen : us.length = ws.length := by rw [hus.length, hws.length]
      refine ⟨_, rfl, _, _, _, _, false, rfl, .ty "bool", .base (.lst h_a), kit_ty (by decide +kernel), _, rfl, _, rfl, _, _, _, _, false, rfl, .ty "bool", .base (.lst h_b), kit_ty (by decide +kernel), _, rfl, _, rfl, _, _, _, _, false, rfl, .ty "int", .base (.lst h_a), kit_ty (by decide +kernel), _, rfl, _, rfl, _, _, _, _, false, rfl, .ty "str", .base (.lst h_a), kit_ty (by decide +kernel), _, rfl, _, rfl, _, _, _, _, false, rfl, .ty "tuple", .base (.lst h_a), kit_ty (by decide +kernel), _, rfl, _, rfl, _, rfl, _, rfl, _, _, _, _, true, rfl, .ty "list", .base (.lst h_a), kit_ty (by decide +kernel), _, rfl, _, rfl, _, _, _, _, true, rfl, .ty "list", .base (.lst h_b), kit_ty (by decide +kernel), _, rfl, _, rfl, a, us, rfl, .inl (SqL.of h_a), _, rfl, b, ws, rfl, .inl (SqL.of h_b), rfl, _, rfl, ite2 (fun hc => ?_) (fun _ => ?_)⟩
      · rw [elen] at hc
        exact absurd hc (by simp)
      refine ⟨_, rfl, a, us, rfl, .inl (SqL.of h_a), _, rfl, by omega, by omega, for_range (n := ((us.length : Nat) : Int).toNat) (fun i σ H' => ∃ v3 : Option V, σ = [some (.ref a), some (.ref b), some (.bl false), v3] ∧ H' = H) ⟨_, rfl, rfl⟩ ?_ ?_⟩
      · rintro i σ H' hi ⟨v3, rfl, rfl⟩
        have hi2 : i < us.length := by omega
        obtain ⟨v2, e1, _⟩ := get_of hi2
        obtain ⟨d2, ed, hv2⟩ := hus.get' e1
        obtain ⟨w2, e2, hw2⟩ := hws.get ed
        have hdd := hds d2 (List.mem_of_getElem? ed)
        have e1 : us[0 + i]? = some v2 := by rw [Nat.zero_add]; exact e1
        have e2 : ws[0 + i]? = some w2 := by rw [Nat.zero_add]; exact e2
        have ez : (0 : Int) + (i : Int) = ((0 + i : Nat) : Int) := by omega
        rw [ez]
        exact ⟨_, rfl, _, rfl, Or.inl ⟨a, _, _, v2, rfl, rfl, SqL.of h_a, atI_nat e1, _, rfl, _, rfl, Or.inl ⟨b, _, _, w2, rfl, rfl, SqL.of h_b, atI_nat e2, v2, w2, rfl, .inl ⟨d2, hv2, hw2, hdd, _, rfl, _, rfl, rfl⟩⟩⟩⟩
      · rintro σ H' ⟨v3, rfl, rfl⟩
        exact k
theorem same_all (F : Df K mg "_law_same" s_same) (G : Gn mg) : ∀ n : Nat, C8.Cal P w K mg base (n + 1) "_law_same" (spSameN n) []
  | 0 => same0 F G
  | n + 1 => sameS F G n (same_all F G n)
theorem c_same (F : Df K mg "_law_same" s_same) (G : Gn mg) : C8.Cal P w K mg base 8 "_law_same" spSame [] := same_all F G 7
end

end K45

set_option maxHeartbeats 4000000
namespace K45
open PySem PySem.Spec PyProof.Rows L2
section
variable {P : Program} {w : World} {K : PySem.W.Frag} {mg : Str → Option Value} {base : Heap}
abbrev s_whole : Stmt := top 55
abbrev N_whole : List Str := ["_law_n"]
theorem sc_whole : FnScope ["_law_n"] ["_law_n"] (defScope s_whole) := ⟨rfl, rfl, rfl, by decide +kernel, rfl, by decide +kernel, by decide +kernel⟩
theorem c_whole (F : Df K mg "_law_whole" s_whole) (G : Gn mg)   : C8.Cal P w K mg base 1 "_law_whole" spWhole [] := by
  refine cal_by F sc_whole (fun _ _ _ _ _ _ us hl => match us, hl with | [_], _ => rfl) (fun vs H Q E h => ?_) (fun f cdv A outer s H vs Q E hr h => ?_)
  · obtain ⟨i, rfl, _⟩ := h
    rfl
  · obtain ⟨i, rfl, k⟩ := h
    have sc := sc_whole
    refine ⟨_, (pss_one (ps_ret (pe_and (pe_callB call_isi rfl G.n_isinstance (by decide +kernel) (pa_cons (pv 0) (pa_cons (pe_bltn (v := .ty "int") rfl G.n_int (by decide +kernel) rfl) pa_nil))) (pe_one (pe_not (pe_callB call_isi rfl G.n_isinstance (by decide +kernel) (pa_cons (pv 0) (pa_cons (pe_bltn (v := .ty "bool") rfl G.n_bool (by decide +kernel) rfl) pa_nil)))))))), ?_⟩
    exact ⟨_, rfl, _, _, _, _, true, rfl, .ty "int", .base (.int _), kit_ty (by decide +kernel), _, rfl, _, rfl, _, _, _, _, false, rfl, .ty "bool", .base (.int _), kit_ty (by decide +kernel), _, rfl, k⟩
abbrev s_cells : Stmt := top 54
abbrev N_cells : List Str := ["_law_resolved_here", "_law_cells_here", "_law_run", "_law_char"]
theorem sc_cells : FnScope ["_law_resolved_here", "_law_cells_here", "_law_run", "_law_char"] ["_law_resolved_here"] (defScope s_cells) := ⟨rfl, rfl, rfl, by decide +kernel, rfl, by decide +kernel, by decide +kernel⟩
theorem c_cells (F : Df K mg "_law_cells" s_cells) (G : Gn mg)   : C8.Cal P w K mg base 1 "_law_cells" spCells [] := by
  refine cal_by F sc_cells (fun _ _ _ _ _ _ us hl => match us, hl with | [_], _ => rfl) (fun vs H Q E h => ?_) (fun f cdv A outer s H vs Q E hr h => ?_)
  · obtain ⟨v, rs, rfl, _⟩ := h
    rfl
  · obtain ⟨v, rs, rfl, hv, hrl, hok, k⟩ := h
    have sc := sc_cells
    refine ⟨_, (pss_cons (ps_set (i := 1) sc.nd rfl (Or.inl rfl) (pe_lst pa_nil))
      (pss_cons (ps_for PassesOwn.never rfl (pi_tup (pv 0)) (pg_name (i := 2) sc.nd rfl (Or.inr rfl))
        (pss_one (ps_if (pt_cmpR op_ne (pe_ix ix_tup (pv 2) pe_int (fun _ _ => rfl)) pe_str (nomark _))
          (pss_one (ps_expr (pe_bm PySem.F.plainAttrs_list PySem.F.slot_list_extend PySem.F.type_list_extend mt_extend (pv 1) (pa_cons (pe_lc (own := [("_law_char", 3)])  rfl sc.nd (pi_str (pe_ix ix_tup (pv 2) (pe_un un_neg pe_int) (fun _ _ => rfl))) (blkOk_by (N := N_cells) (sc := defScope s_cells) (by decide +kernel)) (fun _ _ _ _ _ => (pg_name (i := 3) sc.nd rfl (Or.inl rfl))) (fun _ _ _ _ _ => pts_nil) (fun _ _ _ _ _ => (pe_tup (pa_cons (pv 3) (pa_cons (pe_ix ix_tupB (pv 2) (pe_un un_neg pe_int) (fun _ _ => rfl)) (pa_cons (pe_ix ix_tupB (pv 2) (pe_un un_neg pe_int) (fun _ _ => rfl)) pa_nil)))))) pa_nil))))
          pss_nil)))
      (pss_one (ps_ret (pv 1))))), ?_⟩
    have hz := big
    obtain ⟨a, vs, rfl, ha, hvs⟩ := hv.inv
    have hvl : vs.length = rs.length := by rw [hvs.length, List.length_map]
    refine ⟨(by show 0 ≤ sizeLine; omega), fun l n_l => ?_⟩
    have l0 := n_l
    generalize eH_l : upd H l _ = H1
    have ev_l : ∀ {M : List Addr}, Fr M H H1 := by intro M; rw [← eH_l]; exact Fr.new n_l
    have h_l : H1 l = some (.lst []) := by rw [← eH_l]; exact upd_same
    clear eH_l
    have I : GrI l H H1 [] [] := ⟨h_l, .nil, ev_l, l0⟩
    refine ⟨_, rfl, a, rfl, ⟨_, SqT.of (I.fr.k0 ha)⟩, for_tup (xs := vs) (fun i σ H' => ∃ (us : List V) (v2 : Option V), σ = [some (.ref a), some (.ref l), v2, none] ∧ GrI l H H' (((rs.take i).map cellR).flatten.map clD) us ∧ us.length ≤ 100 * i) ?_ ?_ ?_ ?_⟩
    · exact ⟨[], _, rfl, I, Nat.le_refl _⟩
    · rintro i σ H2 _ ⟨us, v2, rfl, I, hul⟩
      exact SqT.of (I.fr.k0 ha)
    · rintro i x σ H2 hi ⟨us, v2, rfl, I, hul⟩
      obtain ⟨d, hd, hx⟩ := hvs.get' hi
      rw [List.getElem?_map] at hd
      cases er : rs[i]? with
      | none => rw [er] at hd; cases hd
      | some r =>
        rw [er] at hd
        cases hd
        have hil := (List.getElem?_eq_some_iff.mp er).1
        have hx := hx.mono I.fr.t
        have hr := hok r (List.mem_of_getElem? er)
        have et : ((rs.take (i + 1)).map cellR).flatten.map clD = ((rs.take i).map cellR).flatten.map clD ++ (cellR r).map clD := by
          rw [List.take_add_one, er]
          show (((rs.take i ++ [r]).map cellR).flatten).map clD = _
          simp
        have hcase : (∃ n, r = .mark n) ∨ ∃ (t : List Nat) (z : Int) (f : Str) (b : Addr) (x0 : V) (xs : List V), cellR r = t.map (fun c => (c, z, f)) ∧ t.length ≤ 100 ∧ x = .ref b ∧ H2 b = some (.tup (x0 :: xs)) ∧ decide (x0 = V.str "mark") = false ∧ scal x0 (V.str "mark") = true ∧ atI (x0 :: xs) (-3) = some (.str (SX.S t)) ∧ atI (x0 :: xs) (-2) = some (.int z) ∧ atI (x0 :: xs) (-1) = some (.str f) := by
          cases r with
          | mark n => exact .inl ⟨n, rfl⟩
          | text t z f =>
            obtain ⟨b, rfl, hb⟩ := Tr.flat (hx : Tr H2 x (.tup _)) rfl
            exact .inr ⟨t, z, f, b, _, _, rfl, hr.1, rfl, hb, by decide +kernel, rfl, rfl, rfl, rfl⟩
          | shown kk t z f =>
            obtain ⟨b, rfl, hb⟩ := Tr.flat (hx : Tr H2 x (.tup _)) rfl
            exact .inr ⟨t, z, f, b, _, _, rfl, hr.1, rfl, hb, by decide +kernel, rfl, rfl, rfl, rfl⟩
        rcases hcase with ⟨n, rfl⟩ | ⟨t, z, f, b, x0, xs, hcr, htl, rfl, hb, h0, hs0, a3, a2, a1⟩
        · obtain ⟨b, rfl, hb⟩ := Tr.flat (hx : Tr H2 x (.tup _)) rfl
          refine ⟨_, rfl, b, _, _, _, rfl, rfl, SqT.of hb, rfl, rfl, _, rfl, ite2 (fun hc => absurd hc (by decide +kernel)) (fun _ => ⟨us, _, rfl, ?_, by omega⟩)⟩
          rw [et]
          show GrI l H H2 (_ ++ []) us
          rw [List.append_nil]
          exact I
        · refine ⟨_, rfl, b, _, _, _, rfl, rfl, SqT.of hb, atI_nat (j := 0) rfl, hs0, _, rfl, ite2 (fun _ => ?_) (fun hc => ?_)⟩
          · refine ⟨_, rfl, Or.inl ⟨rfl, _, SqL.of I.hl⟩, _, rfl, _, rfl, b, _, _, _, rfl, rfl, SqT.of hb, a3, SX.S t, rfl, fun D n_D => ?_⟩
            have D0 := I.fr.d _ n_D
            have Dl := ne_of_none I.hl n_D
            refine lc_it (walk_sign (l := t)) (fun j H' => ∃ ys : List V, GrI D H2 H' (((t.take j).map fun c => (c, z, f)).map clD) ys ∧ ys.length = j) ?_ (fun _ _ _ _ => trivial) ?_ ?_
            · exact ⟨[], ⟨upd_same, .nil, Fr.new n_D, n_D⟩, rfl⟩
            · rintro j y H3' H3 hj ⟨ys, J, hyl⟩ ⟨rfl, c, hc, rfl⟩
              have hb3 := J.fr.k0 hb
              have hj : j < t.length := hj
              refine ⟨rfl, _, rfl, _, rfl, _, rfl, b, _, _, _, rfl, rfl, SqT.of hb3, a2, _, rfl, _, rfl, b, _, _, _, rfl, rfl, SqT.of hb3, a1, (by show 3 ≤ sizeLine; omega), fun q n_q => ?_⟩
              generalize eH_q : upd H3 q _ = H4
              have ev_q : ∀ {M : List Addr}, Fr M H3 H4 := by intro M; rw [← eH_q]; exact Fr.new n_q
              have h_q : H4 q = some (.tup [.str (ch c), .int z, .str f]) := by rw [← eH_q]; exact upd_same
              clear eH_q
              have J := J.k0 ev_q
              refine ⟨_, J.hl, by omega, ys ++ [.ref q], ?_, by rw [List.length_append, hyl] <;> rfl⟩
              have e : ((t.take (j + 1)).map fun c => (c, z, f)).map clD = ((t.take j).map fun c => (c, z, f)).map clD ++ [clD (c, z, f)] := by
                rw [List.take_add_one, hc]
                show ((t.take j ++ [c]).map _).map clD = _
                simp
              rw [e]
              exact J.app (Tr.of_flat (ds := [.str (ch c), .int z, .str f]) h_q rfl)
            · rintro H3 ⟨ys, J, hyl⟩
              rw [List.take_of_length_le (Nat.le_refl _)] at J
              have I := I.k0 J.fr
              refine ⟨_, _, _, _, rfl, rfl, I.hl, J.hl, by omega, us ++ ys, _, rfl, ?_, by rw [List.length_append]; omega⟩
              have pp := Fr.put (o := .lst (us ++ ys)) I.hl
              rw [et, hcr]
              exact ⟨upd_same, (I.t.mono pp.t).append (J.t.mono pp.t), I.fr.t1 pp (.inr l0), l0⟩
          · rw [h0] at hc
            exact (hc rfl).elim
    · rintro σ H2 ⟨us, v2, rfl, I, hul⟩
      rw [List.take_of_length_le (by omega)] at I
      exact ⟨_, rfl, k l us H2 l0 I.hl I.t (by omega) I.fr⟩
abbrev s_bare : Stmt := top 11
abbrev N_bare : List Str := ["pieces", "boxes", "joints", "widths", "box", "joint"]
theorem sc_bare : FnScope ["pieces", "boxes", "joints", "widths", "box", "joint"] ["pieces"] (defScope s_bare) := ⟨rfl, rfl, rfl, by decide +kernel, rfl, by decide +kernel, by decide +kernel⟩
theorem c_bare (F : Df K mg "bare" s_bare) (G : Gn mg)   : C8.Cal P w K mg base 1 "bare" spBare [] := by
  refine cal_by F sc_bare (fun _ _ _ _ _ _ us hl => match us, hl with | [_], _ => rfl) (fun vs H Q E h => ?_) (fun f cdv A outer s H vs Q E hr h => ?_)
  · obtain ⟨v, bx, js, rfl, _⟩ := h
    rfl
  · obtain ⟨v, bx, js, rfl, hv, hbl, hjl, k⟩ := h
    have sc := sc_bare
    refine ⟨_, (pss_cons (ps_asg (pv 0) (pg_tup rfl (pgs_cons (pg_name (i := 1) sc.nd rfl (Or.inl rfl)) (pgs_cons (pg_name (i := 2) sc.nd rfl (Or.inl rfl)) pgs_nil))))
      (pss_cons (ps_set (i := 3) sc.nd rfl (Or.inl rfl) (pe_callTy call_tuple_of rfl G.n_tuple (by decide +kernel) (pa_cons (pe_lc (own := [("box", 4)])  rfl sc.nd (pi_tup (pv 1)) (blkOk_by (N := N_bare) (sc := defScope s_bare) (by decide +kernel)) (fun _ _ _ _ _ => (pg_name (i := 4) sc.nd rfl (Or.inl rfl))) (fun _ _ _ _ _ => pts_nil) (fun _ _ _ _ _ => (pe_ix ix_tupB (pv 4) pe_int (fun _ _ => rfl)))) pa_nil)))
      (pss_one (ps_ret (pe_tup (pa_cons (pv 3) (pa_cons (pe_callTy call_tuple_of rfl G.n_tuple (by decide +kernel) (pa_cons (pe_lc (own := [("joint", 5)])  rfl sc.nd (pi_tup (pv 2)) (blkOk_by (N := N_bare) (sc := defScope s_bare) (by decide +kernel)) (fun _ _ _ _ _ => (pg_name (i := 5) sc.nd rfl (Or.inl rfl))) (fun _ _ _ _ _ => pts_nil) (fun _ _ _ _ _ => (pe_ifExp (pt_cmpR op_eq (pe_ix ix_tupB (pv 5) pe_int (fun _ _ => rfl)) pe_str (nomark _)) (pe_slice sl_tupB (pv 5) po_none (po_some pe_int)) (pv 5)))) pa_nil)) pa_nil))))))), ?_⟩
    have hz := big
    obtain ⟨p, b, j, us, ws, rfl, hp, hb, hus, hj, hws⟩ := pc_inv hv
    have hul : us.length = bx.length := by rw [hus.length, List.length_map]
    have hwl : ws.length = js.length := by rw [hws.length, List.length_map]
    refine ⟨_, rfl, _, _, rfl, SqT.of (hp), rfl, _, _, rfl, _, _, rfl, rfl, _, rfl, b, rfl, ⟨_, SqT.of hb⟩, fun D n_D => ?_⟩
    refine lc_tup (xs := us) (fun i H' => ∃ ys : List V, GrI D H H' ((bx.take i).map fun b => .int b.1) ys ∧ ys.length = i) ?_ ?_ ?_ ?_
    · exact ⟨[], ⟨upd_same, .nil, Fr.new n_D, n_D⟩, rfl⟩
    · rintro i H2 _ ⟨ys, J, hyl⟩
      exact SqT.of (J.fr.k0 hb)
    · rintro i x H2 hi ⟨ys, J, hyl⟩
      obtain ⟨d, hd, hx⟩ := hus.get' hi
      rw [List.getElem?_map] at hd
      cases eb : bx[i]? with
      | none => rw [eb] at hd; cases hd
      | some y =>
        rw [eb] at hd
        cases hd
        have hil := (List.getElem?_eq_some_iff.mp eb).1
        obtain ⟨q, l, m, us2, ns, rfl, hq, _⟩ := bx_inv (hx.mono J.fr.t)
        refine ⟨rfl, _, rfl, q, _, _, _, rfl, rfl, SqT.of hq, rfl, _, J.hl, by omega, ys ++ [.int y.1], ?_, by rw [List.length_append, hyl] <;> rfl⟩
        have e : (bx.take (i + 1)).map (fun b => Dt.int b.1) = (bx.take i).map (fun b => Dt.int b.1) ++ [.int y.1] := by
          rw [List.take_add_one, eb]
          show (bx.take i ++ [y]).map _ = _
          simp
        rw [e]
        exact J.app (.int _)
    · rintro H2 ⟨ys, J, hyl⟩
      rw [List.take_of_length_le (by omega)] at J
      refine ⟨D, _, rfl, Or.inl ⟨SqL.of J.hl, fun q n_q => ?_⟩⟩
      generalize eH_q : upd H2 q _ = H3
      have ev_q : ∀ {M : List Addr}, Fr M H2 H3 := by intro M; rw [← eH_q]; exact Fr.new n_q
      have h_q : H3 q = some (.tup ys) := by rw [← eH_q]; exact upd_same
      clear eH_q
      have f3 : Fr [] H H3 := J.fr.t0 ev_q
      have hT := J.t.mono (ev_q (M := [])).t
      refine ⟨_, rfl, _, rfl, j, rfl, ⟨_, SqT.of (f3.k0 hj)⟩, fun D2 n_D2 => ?_⟩
      refine lc_tup (xs := ws) (fun i H' => ∃ zs : List V, GrI D2 H3 H' ((js.take i).map bareJ) zs ∧ zs.length = i) ?_ ?_ ?_ ?_
      · exact ⟨[], ⟨upd_same, .nil, Fr.new n_D2, n_D2⟩, rfl⟩
      · rintro i H4 _ ⟨zs, J2, hzl⟩
        exact SqT.of ((f3.t0 J2.fr).k0 hj)
      · rintro i x H4 hi ⟨zs, J2, hzl⟩
        obtain ⟨d, hd, hx⟩ := hws.get' hi
        rw [List.getElem?_map] at hd
        cases ej : js[i]? with
        | none => rw [ej] at hd; cases hd
        | some y =>
          rw [ej] at hd
          cases hd
          have hil := (List.getElem?_eq_some_iff.mp ej).1
          have hx := hx.mono (f3.t0 J2.fr).t
          have e : (js.take (i + 1)).map bareJ = (js.take i).map bareJ ++ [bareJ y] := by
            rw [List.take_add_one, ej]
            show (js.take i ++ [y]).map _ = _
            simp
          rw [e]
          cases y with
          | gap ga gb gc =>
            obtain ⟨c, rfl, hc⟩ := Tr.flat (id hx : Tr H4 x (.tup _)) rfl
            refine ⟨rfl, _, rfl, c, _, _, _, rfl, rfl, SqT.of hc, rfl, rfl, _, rfl, ite2 (fun hq => absurd hq (by decide +kernel)) (fun _ => ?_)⟩
            exact ⟨_, rfl, _, J2.hl, by omega, _, J2.app hx, by rw [List.length_append, hzl] <;> rfl⟩
          | hyp hw ho hm hz' hf =>
            obtain ⟨c, vs4, rfl, hc, hvs4⟩ := hx.inv
            obtain ⟨w1, r1, rfl, g1, hvs4⟩ := hvs4.inv
            obtain ⟨w2, r2, rfl, g2, hvs4⟩ := hvs4.inv
            obtain ⟨w3, r3, rfl, g3, hvs4⟩ := hvs4.inv
            obtain ⟨w4, r4, rfl, g4, hvs4⟩ := hvs4.inv
            cases hvs4.inv0
            cases g1.inv_str
            cases g2.inv_int
            cases g3.inv_int
            refine ⟨rfl, _, rfl, c, _, _, _, rfl, rfl, SqT.of hc, rfl, rfl, _, rfl, ite2 (fun _ => ?_) (fun hq => (hq (by decide +kernel)).elim)⟩
            refine ⟨_, rfl, _, rfl, c, _, rfl, SqT.of hc, (by show ¬ (HT.sIx 4 0 none = 0 ∧ HT.sIx 4 4 (some 3) = 4); decide), fun q2 n_q2 => ?_⟩
            generalize eH_q2 : upd H4 q2 _ = H5
            have ev_q2 : ∀ {M : List Addr}, Fr M H4 H5 := by intro M; rw [← eH_q2]; exact Fr.new n_q2
            have h_q2 : H5 q2 = some (.tup [.str "hyphen", .int hw, .int ho]) := by rw [← eH_q2]; exact upd_same
            clear eH_q2
            have J2 := J2.k0 ev_q2
            exact ⟨_, J2.hl, by omega, _, J2.app (Tr.of_flat (ds := [.str "hyphen", .int hw, .int ho]) h_q2 rfl), by rw [List.length_append, hzl] <;> rfl⟩
      · rintro H4 ⟨zs, J2, hzl⟩
        rw [List.take_of_length_le (by omega)] at J2
        refine ⟨D2, _, rfl, Or.inl ⟨SqL.of J2.hl, fun q2 n_q2 => ?_⟩⟩
        generalize eH_q2 : upd H4 q2 _ = H5
        have ev_q2 : ∀ {M : List Addr}, Fr M H4 H5 := by intro M; rw [← eH_q2]; exact Fr.new n_q2
        have h_q2 : H5 q2 = some (.tup zs) := by rw [← eH_q2]; exact upd_same
        clear eH_q2
        refine ⟨(by show 2 ≤ sizeLine; omega), fun t n_t => ?_⟩
        have f := Fr.new (M := []) (o := .tup [.ref q, .ref q2]) n_t
        have f35 : Fr [] H3 H5 := J2.fr.t0 ev_q2
        exact k (.ref t) _ (.tup upd_same (.cons (.tup (f.k0 (f35.k0 h_q)) ((hT.mono f35.t).mono f.t)) (.cons (.tup (f.k0 h_q2) ((J2.t.mono (ev_q2 (M := [])).t).mono f.t)) .nil))) ((f3.t0 f35).t0 f)
end

end K45

set_option maxHeartbeats 4000000
namespace K45
open PySem PySem.Spec PyProof.Rows L2
section
variable {P : Program} {w : World} {K : PySem.W.Frag} {mg : Str → Option Value} {base : Heap}
abbrev s_lonce : Stmt := top 56
abbrev N_lonce : List Str := ["_law_pieces", "_law_resolved_here", "_law_told", "_law_box", "_law_letter_here", "_law_cell"]
theorem sc_lonce : FnScope ["_law_pieces", "_law_resolved_here", "_law_told", "_law_box", "_law_letter_here", "_law_cell"] ["_law_pieces", "_law_resolved_here"] (defScope s_lonce) := ⟨rfl, rfl, rfl, by decide +kernel, rfl, by decide +kernel, by decide +kernel⟩
theorem c_lonce (F : Df K mg "_law_letters_once" s_lonce) (G : Gn mg)  (c__law_same : C8.Cal P w K mg base 8 "_law_same" spSame []) (c__law_cells : C8.Cal P w K mg base 1 "_law_cells" spCells []) : C8.Cal P w K mg base 9 "_law_letters_once" spLonce [] := by
  refine cal_by F sc_lonce (fun _ _ _ _ _ _ us hl => match us, hl with | [_, _], _ => rfl) (fun vs H Q E h => ?_) (fun f cdv A outer s H vs Q E hr h => ?_)
  · obtain ⟨v, u, bx, js, rs, rfl, _⟩ := h
    rfl
  · obtain ⟨v, u, bx, js, rs, rfl, hv, hu', hrl, hok, htold, htl, k⟩ := h
    have sc := sc_lonce
    refine ⟨_, (pss_cons (ps_if (PW.pt (pw_or (pt_not (pt_val (pe_callB call_isi rfl G.n_isinstance (by decide +kernel) (pa_cons (pv 0) (pa_cons (pe_bltn (v := .ty "tuple") rfl G.n_tuple (by decide +kernel) rfl) pa_nil))))) (pw_or1 (pt_cmpR op_ne (pe_callB call_len_seq rfl G.n_len (by decide +kernel) (pa_cons (pv 0) pa_nil)) pe_int (nomark _)))))
        (pss_one (ps_ret pe_bl))
        pss_nil)
      (pss_cons (ps_if (PW.pt (pw_or (pt_not (pt_val (pe_callB call_isi rfl G.n_isinstance (by decide +kernel) (pa_cons (pe_ix ix_tup (pv 0) pe_int (fun _ _ => rfl)) (pa_cons (pe_bltn (v := .ty "tuple") rfl G.n_tuple (by decide +kernel) rfl) pa_nil))))) (pw_or1 (pt_not (pt_val (pe_callB call_isi rfl G.n_isinstance (by decide +kernel) (pa_cons (pe_ix ix_tup (pv 0) pe_int (fun _ _ => rfl)) (pa_cons (pe_bltn (v := .ty "tuple") rfl G.n_tuple (by decide +kernel) rfl) pa_nil))))))))
        (pss_one (ps_ret pe_bl))
        pss_nil)
      (pss_cons (ps_set (i := 2) sc.nd rfl (Or.inl rfl) (pe_lst pa_nil))
      (pss_cons (ps_for PassesOwn.never rfl (pi_tup (pe_ix ix_tup (pv 0) pe_int (fun _ _ => rfl))) (pg_name (i := 3) sc.nd rfl (Or.inl rfl))
        (pss_cons (ps_if (PW.pt (pw_or (pt_not (pt_val (pe_callB call_isi rfl G.n_isinstance (by decide +kernel) (pa_cons (pv 3) (pa_cons (pe_bltn (v := .ty "tuple") rfl G.n_tuple (by decide +kernel) rfl) pa_nil))))) (pw_or (pt_cmpR op_ne (pe_callB call_len_seq rfl G.n_len (by decide +kernel) (pa_cons (pv 3) pa_nil)) pe_int (nomark _)) (pw_or1 (pt_not (pt_val (pe_callB call_isi rfl G.n_isinstance (by decide +kernel) (pa_cons (pe_ix ix_tup (pv 3) pe_int (fun _ _ => rfl)) (pa_cons (pe_bltn (v := .ty "tuple") rfl G.n_tuple (by decide +kernel) rfl) pa_nil)))))))))
          (pss_one (ps_ret pe_bl))
          pss_nil)
        (pss_one (ps_for PassesOwn.never rfl (pi_tup (pe_ix ix_tup (pv 3) pe_int (fun _ _ => rfl))) (pg_name (i := 4) sc.nd rfl (Or.inl rfl))
          (pss_cons (ps_if (PW.pt (pw_or (pt_not (pt_val (pe_callB call_isi rfl G.n_isinstance (by decide +kernel) (pa_cons (pv 4) (pa_cons (pe_bltn (v := .ty "tuple") rfl G.n_tuple (by decide +kernel) rfl) pa_nil))))) (pw_or1 (pt_cmpR op_ne (pe_callB call_len_seq rfl G.n_len (by decide +kernel) (pa_cons (pv 4) pa_nil)) pe_int (nomark _)))))
            (pss_one (ps_ret pe_bl))
            pss_nil)
          (pss_one (ps_expr (pe_bm PySem.F.plainAttrs_list PySem.F.slot_list_append PySem.F.type_list_append mt_append (pv 2) (pa_cons (pe_tup (pa_cons (pe_ix ix_tup (pv 4) pe_int (fun _ _ => rfl)) (pa_cons (pe_ix ix_tup (pv 4) pe_int (fun _ _ => rfl)) (pa_cons (pe_ix ix_tup (pv 4) pe_int (fun _ _ => rfl)) pa_nil)))) pa_nil)))))))))
      (pss_one (ps_ret (C8.pe_c c__law_same hr (by decide) rfl (pa_cons (pv 2) (pa_cons (pe_lc (own := [("_law_cell", 5)])  rfl sc.nd (pi_list (C8.pe_c c__law_cells hr (by decide) rfl (pa_cons (pv 1) pa_nil))) (blkOk_by (N := N_lonce) (sc := defScope s_lonce) (by decide +kernel)) (fun _ _ _ _ _ => (pg_name (i := 5) sc.nd rfl (Or.inl rfl))) (fun _ _ _ _ _ => (pts_one (pt_cmpR op_notIn_sign (pe_ix ix_tupB (pv 5) pe_int (fun _ _ => rfl)) pe_str rfl))) (fun _ _ _ _ _ => (pv 5))) pa_nil))))))))), ?_⟩
    have hz := big
    obtain ⟨p, b, j, us, ws, rfl, hp, hb, hus, hj, hws⟩ := pc_inv hv
    have hul : us.length = bx.length := by rw [hus.length, List.length_map]
    refine ⟨_, rfl, _, _, _, _, true, rfl, .ty "tuple", .base (.tup hp), kit_ty (by decide +kernel), _, rfl, _, rfl, p, _, rfl, .inr (SqT.of hp), rfl, _, rfl, ite2 (fun hc => absurd hc (by show ¬ (!decide (V.int ((2 : Nat) : Int) = V.int 2)) = true; decide)) (fun _ => ?_)⟩
    refine ⟨_, rfl, p, _, _, _, rfl, rfl, SqT.of hp, rfl, _, _, _, _, true, rfl, .ty "tuple", .base (.tup hb), kit_ty (by decide +kernel), _, rfl, _, rfl, p, _, _, _, rfl, rfl, SqT.of hp, rfl, _, _, _, _, true, rfl, .ty "tuple", .base (.tup hj), kit_ty (by decide +kernel), _, rfl, (by show 0 ≤ sizeLine; omega), fun l n_l => ?_⟩
    have l0 := n_l
    generalize eH_l : upd H l _ = H1
    have ev_l : ∀ {M : List Addr}, Fr M H H1 := by intro M; rw [← eH_l]; exact Fr.new n_l
    have h_l : H1 l = some (.lst []) := by rw [← eH_l]; exact upd_same
    clear eH_l
    have I : GrI l H H1 [] [] := ⟨h_l, .nil, ev_l, l0⟩
    have hp1 := (ev_l (M := [])).k0 hp
    have hb1 := (ev_l (M := [])).k0 hb
    refine ⟨_, rfl, p, _, _, _, rfl, rfl, SqT.of hp1, rfl, b, rfl, ⟨_, SqT.of hb1⟩, for_tup (xs := us) (fun i σ H' => ∃ (ts : List V) (v3 v4 : Option V), σ = [some (.ref p), some u, some (.ref l), v3, v4, none] ∧ GrI l H H' ((toldF (bx.take i)).map clD) ts) ?_ ?_ ?_ ?_⟩
    · exact ⟨[], _, _, rfl, I⟩
    · rintro i σ H2 _ ⟨ts, v3, v4, rfl, I⟩
      exact SqT.of (I.fr.k0 hb)
    · rintro i x σ H2 hi ⟨ts, v3, v4, rfl, I⟩
      obtain ⟨d, hd, hx⟩ := hus.get' hi
      rw [List.getElem?_map] at hd
      cases eb : bx[i]? with
      | none => rw [eb] at hd; cases hd
      | some y =>
        rw [eb] at hd
        cases hd
        have hil := (List.getElem?_eq_some_iff.mp eb).1
        obtain ⟨q, ll, m, us2, ns, rfl, hq, hll, hus2, hm, hns⟩ := bx_inv (hx.mono I.fr.t)
        have et : toldF (bx.take (i + 1)) = toldF (bx.take i) ++ y.2.1.map plC := by
          unfold toldF
          rw [List.take_add_one, eb]
          show ((bx.take i ++ [y]).map _).flatten = _
          simp
        have htl2 : (toldF (bx.take (i + 1))).length ≤ (toldF bx).length := by
          unfold toldF
          have : bx.map (fun b => b.2.1.map plC) = (bx.take (i + 1)).map (fun b => b.2.1.map plC) ++ (bx.drop (i + 1)).map (fun b => b.2.1.map plC) := by rw [← List.map_append, List.take_append_drop]
          rw [this, List.flatten_append, List.length_append]
          omega
        rw [et, List.length_append, List.length_map] at htl2
        have hul2 : us2.length = y.2.1.length := by rw [hus2.length, List.length_map]
        refine ⟨_, rfl, _, _, _, _, true, rfl, .ty "tuple", .base (.tup hq), kit_ty (by decide +kernel), _, rfl, _, rfl, q, _, rfl, .inr (SqT.of hq), rfl, _, rfl, ite2 (fun hc => absurd hc (by show ¬ (!decide (V.int ((3 : Nat) : Int) = V.int 3)) = true; decide)) (fun _ => ?_)⟩
        refine ⟨_, rfl, q, _, _, _, rfl, rfl, SqT.of hq, rfl, _, _, _, _, true, rfl, .ty "tuple", .base (.tup hll), kit_ty (by decide +kernel), _, rfl, _, rfl, q, _, _, _, rfl, rfl, SqT.of hq, rfl, ll, rfl, ⟨_, SqT.of hll⟩, for_tup (xs := us2) (fun j σ H' => ∃ (ts : List V) (v4 : Option V), σ = [some (.ref p), some u, some (.ref l), some (.ref q), v4, none] ∧ GrI l H H' ((toldF (bx.take i) ++ (y.2.1.take j).map plC).map clD) ts ∧ Fr [l] H2 H') ?_ ?_ ?_ ?_⟩
        · exact ⟨ts, _, rfl, by rw [List.take_zero, List.map_nil, List.append_nil]; exact I, Fr.refl _ _⟩
        · rintro j' σ H3 _ ⟨ts, v4, rfl, I, f3⟩
          exact SqT.of (f3.t _ _ hll)
        · rintro j' x' σ H3 hj' ⟨ts, v4, rfl, I, f3⟩
          obtain ⟨d', hd', hx'⟩ := hus2.get' hj'
          rw [List.getElem?_map] at hd'
          cases el : y.2.1[j']? with
          | none => rw [el] at hd'; cases hd'
          | some pl =>
            rw [el] at hd'
            cases hd'
            have hjl := (List.getElem?_eq_some_iff.mp el).1
            obtain ⟨c, rfl, hc⟩ := Tr.flat (hx'.mono f3.t : Tr H3 x' (.tup _)) rfl
            have hIl := I.len
            rw [List.length_map, List.length_append, List.length_map, List.length_take] at hIl
            refine ⟨_, rfl, _, _, _, _, true, rfl, .ty "tuple", .base (.tup hc), kit_ty (by decide +kernel), _, rfl, _, rfl, c, _, rfl, .inr (SqT.of hc), rfl, _, rfl, ite2 (fun hc => absurd hc (by show ¬ (!decide (V.int ((4 : Nat) : Int) = V.int 4)) = true; decide)) (fun _ => ?_)⟩
            refine ⟨_, rfl, Or.inl ⟨rfl, _, SqL.of I.hl⟩, _, rfl, c, _, _, _, rfl, rfl, SqT.of hc, rfl, _, rfl, c, _, _, _, rfl, rfl, SqT.of hc, rfl, _, rfl, c, _, _, _, rfl, rfl, SqT.of hc, rfl, (by show 3 ≤ sizeLine; omega), fun q2 n_q2 => ?_⟩
            generalize eH_q2 : upd H3 q2 _ = H4
            have ev_q2 : ∀ {M : List Addr}, Fr M H3 H4 := by intro M; rw [← eH_q2]; exact Fr.new n_q2
            have h_q2 : H4 q2 = some (.tup [.str (ch pl.c), .int pl.z, .str pl.f]) := by rw [← eH_q2]; exact upd_same
            clear eH_q2
            have I := I.k0 ev_q2
            refine ⟨_, _, _, rfl, rfl, I.hl, by omega, ts ++ [.ref q2], _, rfl, ?_, (f3.t0 ev_q2).ts (Fr.put I.hl)⟩
            have e : (toldF (bx.take i) ++ (y.2.1.take (j' + 1)).map plC).map clD = (toldF (bx.take i) ++ (y.2.1.take j').map plC).map clD ++ [clD (plC pl)] := by
              rw [List.take_add_one, el]
              show (toldF (bx.take i) ++ ((y.2.1.take j' ++ [pl]).map plC)).map clD = _
              simp
            rw [e]
            exact I.app (Tr.of_flat (ds := [.str (ch pl.c), .int pl.z, .str pl.f]) h_q2 rfl)
        · rintro σ H3 ⟨ts, v4, rfl, I, f3⟩
          rw [hul2, List.take_of_length_le (Nat.le_refl _), ← et] at I
          exact ⟨ts, _, _, rfl, I⟩
    · rintro σ H2 ⟨ts, v3, v4, rfl, I⟩
      rw [List.take_of_length_le (by omega)] at I
      refine ⟨_, rfl, _, rfl, u, rs, rfl, hu'.mono I.fr.t, hrl, hok, fun l2 us2 H3 n_l2 h_l2 hT2 hl2 f3 => ⟨l2, rfl, ⟨_, SqL.of h_l2⟩, fun D n_D => ?_⟩⟩
      have hul2 : us2.length = (cellsF rs).length := by rw [hT2.length, List.length_map]
      have l2D := ne_of_none h_l2 n_D
      refine lc_list (xs := us2) (fun i H' => ∃ ys : List V, GrI D H3 H' (((cellsF rs).take i |>.filter fun x => isL x.1).map clD) ys ∧ ys.length ≤ i) ?_ ?_ ?_ ?_
      · exact ⟨[], ⟨upd_same, .nil, Fr.new n_D, n_D⟩, Nat.le_refl _⟩
      · rintro i H4 _ ⟨ys, J, hyl⟩
        exact SqL.of (J.fr.k0 h_l2)
      · rintro i x H4 hi ⟨ys, J, hyl⟩
        obtain ⟨d, hd, hx⟩ := hT2.get' hi
        rw [List.getElem?_map] at hd
        cases ec : (cellsF rs)[i]? with
        | none => rw [ec] at hd; cases hd
        | some cl =>
          rw [ec] at hd
          cases hd
          have hil := (List.getElem?_eq_some_iff.mp ec).1
          have hx := hx.mono J.fr.t
          obtain ⟨c, rfl, hc⟩ := Tr.flat (id hx : Tr H4 x (.tup _)) rfl
          have e : (((cellsF rs).take (i + 1)).filter fun x => isL x.1).map clD = (((cellsF rs).take i).filter fun x => isL x.1).map clD ++ (if isL cl.1 = true then [clD cl] else []) := by
            rw [List.take_add_one, ec]
            show (((cellsF rs).take i ++ [cl]).filter _).map clD = _
            rw [List.filter_append, List.map_append, List.filter_cons]
            split <;> rfl
          refine ⟨rfl, _, rfl, c, _, _, _, rfl, rfl, SqT.of hc, rfl, cl.1, _, rfl, rfl, _, rfl, ite2 (fun hq => ?_) (fun hq => ?_)⟩
          · rw [seps] at hq
            refine ⟨_, rfl, _, J.hl, by omega, ys ++ [.ref c], ?_, by rw [List.length_append]; show ys.length + 1 ≤ i + 1; omega⟩
            rw [e, if_pos hq]
            exact J.app hx
          · rw [seps] at hq
            refine ⟨ys, ?_, by omega⟩
            rw [e, if_neg hq, List.append_nil]
            exact J
      · rintro H4 ⟨ys, J, hyl⟩
        rw [List.take_of_length_le (by omega), ← htold] at J
        have hd1 : ((toldF bx).map clD).length ≤ 1000000 := by rw [List.length_map]; omega
        have hd2 : ∀ d ∈ (toldF bx).map clD, DN 6 d := fun d hd => by
          obtain ⟨x, _, rfl⟩ := List.mem_map.mp hd
          exact .tup (by show (3 : Nat) ≤ 1000000; decide) (fun d hd => by
            rcases List.mem_cons.mp hd with rfl | hd
            · exact .str _ _
            · rcases List.mem_cons.mp hd with rfl | hd
              · exact .int _ _
              · rw [List.mem_singleton.mp hd]; exact .str _ _)
        exact ⟨_, _, rfl, .inr (.inr ⟨6, l, D, ts, ys, _, rfl, rfl, rfl, J.fr.k0 (f3.k0 I.hl), J.hl, (I.t.mono f3.t).mono J.fr.t, J.t, hd1, hd2, k H4 ((I.fr.t0 f3).t0 J.fr)⟩)⟩
abbrev s_bst : Stmt := top 58
abbrev N_bst : List Str := ["_law_houses", "_law_box", "_law_k", "_law_letter_here", "_law_before", "_law_wide"]
theorem sc_bst : FnScope ["_law_houses", "_law_box", "_law_k", "_law_letter_here", "_law_before", "_law_wide"] ["_law_houses", "_law_box"] (defScope s_bst) := ⟨rfl, rfl, rfl, by decide +kernel, rfl, by decide +kernel, by decide +kernel⟩
theorem c_bst (F : Df K mg "_law_box_stands" s_bst) (G : Gn mg)  (c__law_whole : C8.Cal P w K mg base 1 "_law_whole" spWhole []) : C8.Cal P w K mg base 2 "_law_box_stands" spBst [] := by
  refine cal_by F sc_bst (fun _ _ _ _ _ _ us hl => match us, hl with | [_, _], _ => rfl) (fun vs H Q E h => ?_) (fun f cdv A outer s H vs Q E hr h => ?_)
  · obtain ⟨d, v, b, F, need, rfl, _⟩ := h
    rfl
  · obtain ⟨d, v, b, F, need, rfl, hH, hv, ⟨hne, hoff, hpl, hll⟩, k⟩ := h
    have sc := sc_bst
    have hu := hu_of hr
    refine ⟨_, (pss_cons (ps_if (PW.pt (pw_or (pt_cmpR op_eq (pe_callB call_len_seq rfl G.n_len (by decide +kernel) (pa_cons (pe_ix ix_tup (pv 1) pe_int (fun _ _ => rfl)) pa_nil)) pe_int (nomark _)) (pw_or1 (pt_not (pt_val (C8.pe_c c__law_whole hr (by decide) rfl (pa_cons (pe_ix ix_tup (pv 1) pe_int (fun _ _ => rfl)) pa_nil)))))))
        (pss_one (ps_ret pe_bl))
        pss_nil)
      (pss_cons (ps_for PassesOwn.never rfl (pi_range1 rfl G.n_range (pa_cons (pe_callB call_len_seq rfl G.n_len (by decide +kernel) (pa_cons (pe_ix ix_tup (pv 1) pe_int (fun _ _ => rfl)) pa_nil)) pa_nil)) (pg_name (i := 2) sc.nd rfl (Or.inl rfl))
        (pss_cons (ps_set (i := 3) sc.nd rfl (Or.inl rfl) (pe_ix ix_tup (pe_ix ix_tup (pv 1) pe_int (fun _ _ => rfl)) (pv 2) (fun _ _ => rfl)))
        (pss_cons (ps_if (pt_not (pt_val (C8.pe_c c__law_whole hr (by decide) rfl (pa_cons (pe_ix ix_tup (pv 3) pe_int (fun _ _ => rfl)) pa_nil))))
          (pss_one (ps_ret pe_bl))
          pss_nil)
        (pss_one (ps_if (PW.pt (pw_and (pt_cmpR op_gt (pv 2) pe_int (nomark _)) (pw_and1 (PW.pt (pw_or (pt_cmpR op_in_sign (pe_ix ix_tup (pv 3) pe_int (fun _ _ => rfl)) pe_str rfl) (pw_or1 (pt_cmpR op_in_sign (pe_ix ix_tup (pe_ix ix_tup (pe_ix ix_tup (pv 1) pe_int (fun _ _ => rfl)) (pe_op op_sub (pv 2) pe_int) (fun _ _ => rfl)) pe_int (fun _ _ => rfl)) pe_str rfl)))))))
          (pss_cons (ps_set (i := 4) sc.nd rfl (Or.inl rfl) (pe_ix ix_tup (pe_ix ix_tup (pv 1) pe_int (fun _ _ => rfl)) (pe_op op_sub (pv 2) pe_int) (fun _ _ => rfl)))
          (pss_cons (ps_set (i := 5) sc.nd rfl (Or.inl rfl) (pe_ix ix_tup (pe_dget hu (pe_ix ix_list (pe_dget hu (pv 0) (pe_ix ix_tup (pv 4) pe_int (fun _ _ => rfl)) (fun _ _ => rfl)) pe_int (fun _ _ => rfl)) (pe_ix ix_tup (pv 4) pe_int (fun _ _ => rfl)) (fun _ _ => rfl)) pe_int (fun _ _ => rfl)))
          (pss_one (ps_if (pt_cmpR op_ne (pe_ix ix_tup (pv 3) pe_int (fun _ _ => rfl)) (pe_op op_add (pe_ix ix_tup (pv 4) pe_int (fun _ _ => rfl)) (pe_op op_mul (pe_ix ix_tup (pv 4) pe_int (fun _ _ => rfl)) (pv 5))) (nomark _))
            (pss_one (ps_ret pe_bl))
            pss_nil))))
          pss_nil)))))
      (pss_one (ps_ret pe_bl)))), ?_⟩
    have hz := big
    obtain ⟨q, ll, m, us, ns, rfl, hq, hl, hus, hm, hns⟩ := bx_inv hv
    have hul : us.length = b.2.1.length := by rw [hus.length, List.length_map]
    have hul1 : 1 ≤ us.length := by
      cases e : b.2.1 with
      | nil => exact (hne e).elim
      | cons _ _ => rw [hul, e]; exact Nat.succ_le_succ (Nat.zero_le _)
    refine ⟨_, rfl, q, _, _, _, rfl, rfl, SqT.of hq, rfl, ll, us, rfl, .inr (SqT.of hl), rfl, _, rfl, ite2 (fun hc => ?_) (fun _ => ?_)⟩
    · have h1 := of_decide_eq_true hc
      injection h1 with h1
      omega
    refine ⟨_, rfl, q, _, _, _, rfl, rfl, SqT.of hq, rfl, _, rfl, _, rfl, ?_⟩
    refine ⟨_, rfl, q, _, _, _, rfl, rfl, SqT.of hq, rfl, ll, us, rfl, .inr (SqT.of hl), _, rfl, by omega, by omega, for_range (n := ((us.length : Nat) : Int).toNat) (fun i σ H' => ∃ (v2 v3 v4 v5 : Option V), σ = [some (.ref d), some (.ref q), v2, v3, v4, v5] ∧ H' = H) ⟨_, _, _, _, rfl, rfl⟩ ?_ ?_⟩
    · rintro i σ H' hi ⟨v2, v3, v4, v5, rfl, rfl⟩
      have hi2 : i < us.length := by omega
      obtain ⟨x, ex, hxm⟩ := get_of hi2
      obtain ⟨dd, hd, hx⟩ := hus.get' ex
      rw [List.getElem?_map] at hd
      cases el : b.2.1[i]? with
      | none => rw [el] at hd; cases hd
      | some pl =>
        rw [el] at hd
        cases hd
        obtain ⟨c, rfl, hc⟩ := Tr.flat (hx : Tr H' x (.tup _)) rfl
        have ez : (0 : Int) + (i : Int) = ((i : Nat) : Int) := by omega
        rw [ez]
        refine ⟨_, rfl, q, _, _, _, rfl, rfl, SqT.of hq, rfl, _, rfl, ll, _, _, _, rfl, rfl, SqT.of hl, atI_nat ex, _, rfl, c, _, _, _, rfl, rfl, SqT.of hc, rfl, _, rfl, _, rfl, _, rfl, _, _, rfl, rfl, _, rfl, ite2 (fun h0 => ?_) (fun _ => ⟨_, _, _, _, rfl, rfl⟩)⟩
        have hi0 : 0 < i := by
          have := of_decide_eq_true h0
          omega
        obtain ⟨j, rfl⟩ : ∃ j, i = j + 1 := ⟨i - 1, by omega⟩
        obtain ⟨x1, ex1, _⟩ := get_of (l := us) (j := j) (by omega)
        obtain ⟨dd1, hd1, hx1⟩ := hus.get' ex1
        rw [List.getElem?_map] at hd1
        cases el1 : b.2.1[j]? with
        | none => rw [el1] at hd1; cases hd1
        | some p1 =>
          rw [el1] at hd1
          cases hd1
          obtain ⟨c1, rfl, hc1⟩ := Tr.flat (hx1 : Tr H' x1 (.tup _)) rfl
          have ej : ((j + 1 : Nat) : Int) - 1 = ((j : Nat) : Int) := by omega
          have fin : (fig p1.c = true ∨ fig pl.c = true) → ∃ (h t : Addr) (HD : HouseD) (hk : List (L2.Key × V)) (ou : V), H' d = some (.dK hk) ∧ valV hk (Sum.inr p1.f) = some (.ref h) ∧ HouseAt H' h HD ∧ valV HD.kvs (Sum.inr (ch p1.c)) = some (.ref t) ∧ H' t = some (.tup [.int ((F p1.f).adv p1.c), ou]) ∧ pl.off = p1.off + p1.z * (F p1.f).adv p1.c ∧ SzOk p1.z p1.f := fun hf => by
            obtain ⟨hk, h1, h2⟩ := hH
            obtain ⟨hp1, hp2⟩ := hpl p1 (List.mem_of_getElem? el1)
            obtain ⟨h, HD, h3, h4, h5⟩ := h2 p1.f hp2.2.2
            obtain ⟨v, rs, h6, ⟨t, o, rfl, h7, _⟩, _⟩ := h5.has p1.c hp1
            exact ⟨h, t, HD, hk, _, h1, h3, h4, h6, h7, hoff j p1 pl el1 el hf, hp2⟩
          refine ⟨_, rfl, c, _, _, _, rfl, rfl, SqT.of hc, rfl, pl.c, _, rfl, rfl, _, rfl, ite2 (fun hf => ?_) (fun hf => ?_)⟩
          · obtain ⟨h, t, HD, hk, ou, h1, h2, h3, h4, h5, h6, h7⟩ := fin (.inr (digs.mp (of_decide_eq_true hf)))
            refine ⟨_, rfl, q, _, _, _, rfl, rfl, SqT.of hq, rfl, _, rfl, _, _, rfl, rfl, ll, _, _, V.ref c1, rfl, rfl, SqT.of hl, (by rw [ej]; exact atI_nat ex1), ?_⟩
            refine ⟨_, rfl, _, rfl, c1, _, _, _, rfl, rfl, SqT.of hc1, rfl, d, _, rfl, dget_k (k := Sum.inr p1.f) h1 h2, h, _, _, _, rfl, rfl, SqL.of h3.l, rfl, _, rfl, c1, _, _, _, rfl, rfl, SqT.of hc1, rfl, HD.tb, _, rfl, dget_k (k := Sum.inr (ch p1.c)) h3.t h4, t, _, _, _, rfl, rfl, SqT.of h5, rfl, ?_⟩
            refine ⟨_, rfl, c, _, _, _, rfl, rfl, SqT.of hc, rfl, _, rfl, c1, _, _, _, rfl, rfl, SqT.of hc1, rfl, _, rfl, c1, _, _, _, rfl, rfl, SqT.of hc1, rfl, _, rfl, _, _, rfl, rfl, .inl ⟨by have := h7.1; omega, by have := h7.2.1; omega⟩, _, _, rfl, rfl, rfl, _, rfl, ite2 (fun hn => ?_) (fun _ => ⟨_, _, _, _, rfl, rfl⟩)⟩
            have e : decide (V.int pl.off = V.int (p1.off + p1.z * (F p1.f).adv p1.c)) = true := decide_eq_true (congrArg V.int h6)
            have hn : (!decide (V.int pl.off = V.int (p1.off + p1.z * (F p1.f).adv p1.c))) = true := hn
            rw [e] at hn
            exact absurd hn (by decide)
          · refine ⟨_, rfl, q, _, _, _, rfl, rfl, SqT.of hq, rfl, _, rfl, _, _, rfl, rfl, ll, _, _, V.ref c1, rfl, rfl, SqT.of hl, (by rw [ej]; exact atI_nat ex1), c1, _, _, _, rfl, rfl, SqT.of hc1, rfl, p1.c, _, rfl, rfl, _, rfl, ite2 (fun hf1 => ?_) (fun _ => ⟨_, _, _, _, rfl, rfl⟩)⟩
            obtain ⟨h, t, HD, hk, ou, h1, h2, h3, h4, h5, h6, h7⟩ := fin (.inl (digs.mp (of_decide_eq_true hf1)))
            refine ⟨_, rfl, q, _, _, _, rfl, rfl, SqT.of hq, rfl, _, rfl, _, _, rfl, rfl, ll, _, _, V.ref c1, rfl, rfl, SqT.of hl, (by rw [ej]; exact atI_nat ex1), ?_⟩
            refine ⟨_, rfl, _, rfl, c1, _, _, _, rfl, rfl, SqT.of hc1, rfl, d, _, rfl, dget_k (k := Sum.inr p1.f) h1 h2, h, _, _, _, rfl, rfl, SqL.of h3.l, rfl, _, rfl, c1, _, _, _, rfl, rfl, SqT.of hc1, rfl, HD.tb, _, rfl, dget_k (k := Sum.inr (ch p1.c)) h3.t h4, t, _, _, _, rfl, rfl, SqT.of h5, rfl, ?_⟩
            refine ⟨_, rfl, c, _, _, _, rfl, rfl, SqT.of hc, rfl, _, rfl, c1, _, _, _, rfl, rfl, SqT.of hc1, rfl, _, rfl, c1, _, _, _, rfl, rfl, SqT.of hc1, rfl, _, rfl, _, _, rfl, rfl, .inl ⟨by have := h7.1; omega, by have := h7.2.1; omega⟩, _, _, rfl, rfl, rfl, _, rfl, ite2 (fun hn => ?_) (fun _ => ⟨_, _, _, _, rfl, rfl⟩)⟩
            have e : decide (V.int pl.off = V.int (p1.off + p1.z * (F p1.f).adv p1.c)) = true := decide_eq_true (congrArg V.int h6)
            have hn : (!decide (V.int pl.off = V.int (p1.off + p1.z * (F p1.f).adv p1.c))) = true := hn
            rw [e] at hn
            exact absurd hn (by decide)
    · rintro σ H' ⟨v2, v3, v4, v5, rfl, rfl⟩
      exact k
end

end K45

set_option maxHeartbeats 4000000
namespace K45
open PySem PySem.Spec PyProof.Rows L2
section
variable {P : Program} {w : World} {K : PySem.W.Frag} {mg : Str → Option Value} {base : Heap}
theorem last_pl {us : List V} {H : Hp} {b : List PL} (t : Trs H us (b.map plD)) (h : b ≠ []) : ∃ v, atI us (-1) = some v ∧ Tr H v (plD (lastP b)) ∧ lastP b ∈ b := by
  obtain ⟨r, x, e⟩ := snoc_ex h
  have hl : us.length = r.length + 1 := by rw [t.length, List.length_map, e, List.length_append] <;> rfl
  obtain ⟨v, h1, h2⟩ := t.get (i := r.length) (d := plD x) (by rw [List.getElem?_map, e]; simp)
  have : lastP b = x := by unfold lastP; rw [e]; simp
  rw [this]
  exact ⟨v, atI_end hl h1, h2, by rw [e]; simp⟩
theorem head_pl {us : List V} {H : Hp} {b : List PL} (t : Trs H us (b.map plD)) (h : b ≠ []) : ∃ v, atI us 0 = some v ∧ Tr H v (plD (headP b)) := by
  cases b with
  | nil => exact (h rfl).elim
  | cons x r =>
    obtain ⟨v, h1, h2⟩ := t.get (i := 0) (d := plD x) rfl
    exact ⟨v, atI_nat (j := 0) h1, h2⟩
theorem jt_inv {H : Hp} {v : V} {j : Jt} (h : Tr H v (jtD j)) : ∃ c x0 x1 x2 x3, v = .ref c ∧ H c = some (.tup [x0, x1, x2, x3]) := by
  cases j with
  | gap a b c =>
    obtain ⟨c, vs, rfl, hc, hvs⟩ := h.inv
    obtain ⟨_, _, rfl, _, hvs⟩ := hvs.inv
    obtain ⟨_, _, rfl, _, hvs⟩ := hvs.inv
    obtain ⟨_, _, rfl, _, hvs⟩ := hvs.inv
    obtain ⟨_, _, rfl, _, hvs⟩ := hvs.inv
    cases hvs.inv0
    exact ⟨c, _, _, _, _, rfl, hc⟩
  | hyp a b c d f =>
    obtain ⟨c, vs, rfl, hc, hvs⟩ := h.inv
    obtain ⟨_, _, rfl, _, hvs⟩ := hvs.inv
    obtain ⟨_, _, rfl, _, hvs⟩ := hvs.inv
    obtain ⟨_, _, rfl, _, hvs⟩ := hvs.inv
    obtain ⟨_, _, rfl, _, hvs⟩ := hvs.inv
    cases hvs.inv0
    exact ⟨c, _, _, _, _, rfl, hc⟩
theorem dn_jt (j : Jt) : DN 7 (jtD j) := by
  cases j with
  | gap a b c =>
    refine .tup (by show (4 : Nat) ≤ 1000000; decide) fun d hd => ?_
    rcases List.mem_cons.mp hd with rfl | hd
    · exact .str _ _
    rcases List.mem_cons.mp hd with rfl | hd
    · exact .int _ _
    rcases List.mem_cons.mp hd with rfl | hd
    · exact .int _ _
    rw [List.mem_singleton.mp hd]; exact .int _ _
  | hyp a b c d f =>
    refine .tup (by show (4 : Nat) ≤ 1000000; decide) fun d hd => ?_
    rcases List.mem_cons.mp hd with rfl | hd
    · exact .str _ _
    rcases List.mem_cons.mp hd with rfl | hd
    · exact .int _ _
    rcases List.mem_cons.mp hd with rfl | hd
    · exact .int _ _
    rw [List.mem_singleton.mp hd]
    refine .tup (by show (4 : Nat) ≤ 1000000; decide) fun d hd => ?_
    rcases List.mem_cons.mp hd with rfl | hd
    · exact .str _ _
    rcases List.mem_cons.mp hd with rfl | hd
    · exact .int _ _
    rcases List.mem_cons.mp hd with rfl | hd
    · exact .int _ _
    rw [List.mem_singleton.mp hd]; exact .str _ _
theorem e45c : Str.ofString "-" = ch 45 := by decide +kernel
abbrev s_jst : Stmt := top 57
abbrev N_jst : List Str := ["_law_houses", "_law_joint", "_law_one", "_law_two", "_law_before", "_law_wide"]
theorem sc_jst : FnScope ["_law_houses", "_law_joint", "_law_one", "_law_two", "_law_before", "_law_wide"] ["_law_houses", "_law_joint", "_law_one", "_law_two"] (defScope s_jst) := ⟨rfl, rfl, rfl, by decide +kernel, rfl, by decide +kernel, by decide +kernel⟩
theorem c_jst (F : Df K mg "_law_joint_stands" s_jst) (G : Gn mg)  (c__law_same : C8.Cal P w K mg base 8 "_law_same" spSame []) : C8.Cal P w K mg base 9 "_law_joint_stands" spJst [] := by
  refine cal_by F sc_jst (fun _ _ _ _ _ _ us hl => match us, hl with | [_, _, _, _], _ => rfl) (fun vs H Q E h => ?_) (fun f cdv A outer s H vs Q E hr h => ?_)
  · obtain ⟨d, v, u1, u2, j, one, two, F, need, rfl, _⟩ := h
    rfl
  · obtain ⟨d, v, u1, u2, j, one, two, F, need, rfl, hH, h45, hj, h1, h2, ok1, ok2, hjt, k⟩ := h
    have sc := sc_jst
    have hu := hu_of hr
    refine ⟨_, (pss_cons (ps_if (PW.pt (pw_or (pt_not (pt_val (pe_callB call_isi rfl G.n_isinstance (by decide +kernel) (pa_cons (pv 1) (pa_cons (pe_bltn (v := .ty "tuple") rfl G.n_tuple (by decide +kernel) rfl) pa_nil))))) (pw_or1 (pt_cmpR op_ne (pe_callB call_len_seq rfl G.n_len (by decide +kernel) (pa_cons (pv 1) pa_nil)) pe_int (nomark _)))))
        (pss_one (ps_ret pe_bl))
        pss_nil)
      (pss_cons (ps_if (pt_val (C8.pe_c c__law_same hr (by decide) rfl (pa_cons (pe_ix ix_tup (pv 1) pe_int (fun _ _ => rfl)) (pa_cons pe_str pa_nil))))
        (pss_one (ps_ret pe_bl))
        pss_nil)
      (pss_cons (ps_set (i := 4) sc.nd rfl (Or.inl rfl) (pe_ix ix_tup (pe_ix ix_tup (pv 2) pe_int (fun _ _ => rfl)) (pe_un un_neg pe_int) (fun _ _ => rfl)))
      (pss_cons (ps_if (pt_cmpR op_in_sign (pe_ix ix_tup (pv 4) pe_int (fun _ _ => rfl)) pe_str rfl)
        (pss_cons (ps_set (i := 5) sc.nd rfl (Or.inl rfl) (pe_op op_mul (pe_ix ix_tup (pv 4) pe_int (fun _ _ => rfl)) (pe_ix ix_tup (pe_dget hu (pe_ix ix_list (pe_dget hu (pv 0) (pe_ix ix_tup (pv 4) pe_int (fun _ _ => rfl)) (fun _ _ => rfl)) pe_int (fun _ _ => rfl)) pe_str (fun _ _ => rfl)) pe_int (fun _ _ => rfl))))
        (pss_one (ps_ret (C8.pe_c c__law_same hr (by decide) rfl (pa_cons (pv 1) (pa_cons (pe_tup (pa_cons pe_str (pa_cons (pv 5) (pa_cons pe_int (pa_cons (pe_tup (pa_cons pe_str (pa_cons pe_int (pa_cons (pe_ix ix_tup (pv 4) pe_int (fun _ _ => rfl)) (pa_cons (pe_ix ix_tup (pv 4) pe_int (fun _ _ => rfl)) pa_nil))))) pa_nil))))) pa_nil))))))
        pss_nil)
      (pss_cons (ps_if (pt_cmpR op_in_sign (pe_ix ix_tup (pe_ix ix_tup (pe_ix ix_tup (pv 3) pe_int (fun _ _ => rfl)) pe_int (fun _ _ => rfl)) pe_int (fun _ _ => rfl)) pe_str rfl)
        (pss_one (ps_ret (C8.pe_c c__law_same hr (by decide) rfl (pa_cons (pe_tup (pa_cons (pe_ix ix_tup (pv 1) pe_int (fun _ _ => rfl)) (pa_cons (pe_ix ix_tup (pv 1) pe_int (fun _ _ => rfl)) pa_nil))) (pa_cons (pe_tup (pa_cons pe_str (pa_cons pe_int pa_nil))) pa_nil)))))
        pss_nil)
      (pss_one (ps_ret (C8.pe_c c__law_same hr (by decide) rfl (pa_cons (pe_ix ix_tup (pv 1) pe_int (fun _ _ => rfl)) (pa_cons pe_str pa_nil)))))))))), ?_⟩
    have hz := big
    obtain ⟨q1, l1, m1, us1, ns1, rfl, hq1, hl1, hus1, _⟩ := bx_inv h1
    obtain ⟨q2, l2, m2, us2, ns2, rfl, hq2, hl2, hus2, _⟩ := bx_inv h2
    obtain ⟨v1, a1, hv1, hm1⟩ := last_pl hus1 ok1.1
    obtain ⟨v2, a2, hv2⟩ := head_pl hus2 ok2.1
    obtain ⟨b1, rfl, hb1⟩ := Tr.flat (hv1 : Tr H v1 (.tup _)) rfl
    obtain ⟨b2, rfl, hb2⟩ := Tr.flat (hv2 : Tr H v2 (.tup _)) rfl
    obtain ⟨pc1, pz1, _, pf1⟩ := ok1.2.2.1 _ hm1
    cases j with
    | gap ga gb gc =>
      obtain ⟨c, rfl, hc⟩ := Tr.flat (hj : Tr H v (.tup _)) rfl
      refine ⟨_, rfl, _, _, _, _, true, rfl, .ty "tuple", .base (.tup hc), kit_ty (by decide +kernel), _, rfl, _, rfl, c, _, rfl, .inr (SqT.of hc), rfl, _, rfl, ite2 (fun hc => absurd hc (by show ¬ (!decide (V.int ((4 : Nat) : Int) = V.int 4)) = true; decide)) (fun _ => ?_)⟩
      exact ⟨_, rfl, c, _, _, _, rfl, rfl, SqT.of hc, rfl, _, _, rfl, .inr (.inl ⟨_, _, rfl, rfl, _, rfl, ite2 (fun _ => k H (Fr.refl _ _)) (fun hn => (hn (by decide +kernel)).elim)⟩)⟩
    | hyp hw ho hm hzz hf =>
      obtain ⟨c, vs4, rfl, hc, hvs4⟩ := id hj.inv
      obtain ⟨w1, r1, rfl, g1, hvs4⟩ := hvs4.inv
      obtain ⟨w2, r2, rfl, g2, hvs4⟩ := hvs4.inv
      obtain ⟨w3, r3, rfl, g3, hvs4⟩ := hvs4.inv
      obtain ⟨w4, r4, rfl, g4, hvs4⟩ := hvs4.inv
      cases hvs4.inv0
      cases g1.inv_str
      cases g2.inv_int
      cases g3.inv_int
      obtain ⟨j1, j2⟩ := hjt
      refine ⟨_, rfl, _, _, _, _, true, rfl, .ty "tuple", .base (.tup hc), kit_ty (by decide +kernel), _, rfl, _, rfl, c, _, rfl, .inr (SqT.of hc), rfl, _, rfl, ite2 (fun hc => absurd hc (by show ¬ (!decide (V.int ((4 : Nat) : Int) = V.int 4)) = true; decide)) (fun _ => ?_)⟩
      refine ⟨_, rfl, c, _, _, _, rfl, rfl, SqT.of hc, rfl, _, _, rfl, .inr (.inl ⟨_, _, rfl, rfl, _, rfl, ite2 (fun hn => absurd hn (by decide +kernel)) (fun _ => ?_)⟩)⟩
      refine ⟨_, rfl, q1, _, _, _, rfl, rfl, SqT.of hq1, rfl, _, rfl, l1, _, _, V.ref b1, rfl, rfl, SqT.of hl1, a1, ?_⟩
      refine ⟨_, rfl, b1, _, _, _, rfl, rfl, SqT.of hb1, rfl, (lastP one.2.1).c, _, rfl, rfl, _, rfl, ite2 (fun hn => ?_) (fun hn => ?_)⟩
      · obtain ⟨rfl, rfl, rfl, rfl, rfl⟩ := j1 (digs.mp (of_decide_eq_true hn))
        obtain ⟨hk, e1, e2⟩ := hH
        obtain ⟨h, HD, e3, e4, e5⟩ := e2 _ pf1
        obtain ⟨v45, rs, e6, ⟨t, o, rfl, e7, _⟩, _⟩ := e5.has 45 h45
        have hd45 : DGet H HD.tb (.str "-") (some (.ref t)) := by
          have := dget_k e4.t e6
          rw [show (kV (Sum.inr (ch 45)) : V) = V.str "-" from congrArg V.str e45c.symm] at this
          exact this
        refine ⟨_, rfl, b1, _, _, _, rfl, rfl, SqT.of hb1, rfl, _, rfl, _, rfl, b1, _, _, _, rfl, rfl, SqT.of hb1, rfl, d, _, rfl, dget_k e1 e3, h, _, _, _, rfl, rfl, SqL.of e4.l, rfl, HD.tb, _, rfl, hd45, t, _, _, _, rfl, rfl, SqT.of e7, rfl, _, _, rfl, rfl, .inl ⟨by have := pz1; omega, by omega⟩, ?_⟩
        refine ⟨_, rfl, _, rfl, _, rfl, b1, _, _, _, rfl, rfl, SqT.of hb1, rfl, _, rfl, b1, _, _, _, rfl, rfl, SqT.of hb1, rfl, (by show 4 ≤ sizeLine; omega), fun q n_q => ?_⟩
        generalize eH_q : upd H q _ = H3
        have ev_q : ∀ {M : List Addr}, Fr M H H3 := by intro M; rw [← eH_q]; exact Fr.new n_q
        have h_q : H3 q = some (.tup [.str "-", .int 0, .int (lastP one.2.1).z, .str (lastP one.2.1).f]) := by rw [← eH_q]; exact upd_same
        clear eH_q
        refine ⟨(by show 4 ≤ sizeLine; omega), fun q' n_q' => ?_⟩
        have f := Fr.new (M := []) (o := .tup [.str "hyphen", .int ((lastP one.2.1).z * (F (lastP one.2.1).f).adv 45), .int 0, .ref q]) n_q'
        have f2 : Fr [] H _ := (ev_q (M := [])).t0 f
        exact ⟨_, _, rfl, .inl ⟨_, hj.mono f2.t, .tup upd_same (.cons (.str _) (.cons (.int _) (.cons (.int _) (.cons (Tr.of_flat (ds := [.str "-", .int 0, .int (lastP one.2.1).z, .str (lastP one.2.1).f]) (f.k0 h_q) rfl) .nil)))), dn_jt _, k _ f2⟩⟩
      · refine ⟨_, rfl, q2, _, _, _, rfl, rfl, SqT.of hq2, rfl, l2, _, _, V.ref b2, rfl, rfl, SqT.of hl2, a2, b2, _, _, _, rfl, rfl, SqT.of hb2, rfl, (headP two.2.1).c, _, rfl, rfl, _, rfl, ite2 (fun hn2 => ?_) (fun _ => ?_)⟩
        · have ho0 := j2 (digs.mp (of_decide_eq_true hn2))
          subst ho0
          refine ⟨_, rfl, c, _, _, _, rfl, rfl, SqT.of hc, rfl, _, rfl, c, _, _, _, rfl, rfl, SqT.of hc, rfl, (by show 2 ≤ sizeLine; omega), fun q n_q => ?_⟩
          generalize eH_q : upd H q _ = H3
          have ev_q : ∀ {M : List Addr}, Fr M H H3 := by intro M; rw [← eH_q]; exact Fr.new n_q
          have h_q : H3 q = some (.tup [.str "hyphen", .int 0]) := by rw [← eH_q]; exact upd_same
          clear eH_q
          refine ⟨(by show 2 ≤ sizeLine; omega), fun q' n_q' => ?_⟩
          have f := Fr.new (M := []) (o := .tup [.str "hyphen", .int 0]) n_q'
          refine ⟨_, _, rfl, .inl ⟨.tup [.str "hyphen", .int 0], Tr.of_flat (ds := [.str "hyphen", .int 0]) (f.k0 h_q) rfl, Tr.of_flat (ds := [.str "hyphen", .int 0]) upd_same rfl, .tup (by decide) fun d hd => ?_, k _ ((ev_q (M := [])).t0 f)⟩⟩
          rcases List.mem_cons.mp hd with rfl | hd
          · exact .str _ _
          · rw [List.mem_singleton.mp hd]; exact .int _ _
        · exact ⟨_, rfl, c, _, _, _, rfl, rfl, SqT.of hc, rfl, _, _, rfl, .inl ⟨.str "hyphen", .str _, .str _, .str _ _, k H (Fr.refl _ _)⟩⟩
abbrev s_fst : Stmt := top 59
abbrev N_fst : List Str := ["_law_houses", "_law_pieces", "_law_box", "_law_k"]
theorem sc_fst : FnScope ["_law_houses", "_law_pieces", "_law_box", "_law_k"] ["_law_houses", "_law_pieces"] (defScope s_fst) := ⟨rfl, rfl, rfl, by decide +kernel, rfl, by decide +kernel, by decide +kernel⟩
theorem c_fst (F : Df K mg "_law_figures_stand" s_fst) (G : Gn mg)  (c__law_box_stands : C8.Cal P w K mg base 2 "_law_box_stands" spBst []) (c__law_joint_stands : C8.Cal P w K mg base 9 "_law_joint_stands" spJst []) : C8.Cal P w K mg base 10 "_law_figures_stand" spFst [] := by
  refine cal_by F sc_fst (fun _ _ _ _ _ _ us hl => match us, hl with | [_, _], _ => rfl) (fun vs H Q E h => ?_) (fun f cdv A outer s H vs Q E hr h => ?_)
  · obtain ⟨d, v, bx, js, F, need, rfl, _⟩ := h
    rfl
  · obtain ⟨d, v, bx, js, F, need, rfl, hH, h45, hv, ⟨hlen, hbo, hjo⟩, hbl, k⟩ := h
    have sc := sc_fst
    refine ⟨_, (pss_cons (ps_if (pt_cmpR op_ne (pe_callB call_len_seq rfl G.n_len (by decide +kernel) (pa_cons (pe_ix ix_tup (pv 1) pe_int (fun _ _ => rfl)) pa_nil)) (pe_callB (call_max2 rfl) rfl G.n_max (by decide +kernel) (pa_cons pe_int (pa_cons (pe_op op_sub (pe_callB call_len_seq rfl G.n_len (by decide +kernel) (pa_cons (pe_ix ix_tup (pv 1) pe_int (fun _ _ => rfl)) pa_nil)) pe_int) pa_nil))) (nomark _))
        (pss_one (ps_ret pe_bl))
        pss_nil)
      (pss_cons (ps_for PassesOwn.never rfl (pi_tup (pe_ix ix_tup (pv 1) pe_int (fun _ _ => rfl))) (pg_name (i := 2) sc.nd rfl (Or.inl rfl))
        (pss_one (ps_if (pt_not (pt_val (C8.pe_c c__law_box_stands hr (by decide) rfl (pa_cons (pv 0) (pa_cons (pv 2) pa_nil)))))
          (pss_one (ps_ret pe_bl))
          pss_nil)))
      (pss_cons (ps_for PassesOwn.never rfl (pi_range1 rfl G.n_range (pa_cons (pe_callB call_len_seq rfl G.n_len (by decide +kernel) (pa_cons (pe_ix ix_tup (pv 1) pe_int (fun _ _ => rfl)) pa_nil)) pa_nil)) (pg_name (i := 3) sc.nd rfl (Or.inl rfl))
        (pss_one (ps_if (pt_not (pt_val (C8.pe_c c__law_joint_stands hr (by decide) rfl (pa_cons (pv 0) (pa_cons (pe_ix ix_tup (pe_ix ix_tup (pv 1) pe_int (fun _ _ => rfl)) (pv 3) (fun _ _ => rfl)) (pa_cons (pe_ix ix_tup (pe_ix ix_tup (pv 1) pe_int (fun _ _ => rfl)) (pv 3) (fun _ _ => rfl)) (pa_cons (pe_ix ix_tup (pe_ix ix_tup (pv 1) pe_int (fun _ _ => rfl)) (pe_op op_add (pv 3) pe_int) (fun _ _ => rfl)) pa_nil)))))))
          (pss_one (ps_ret pe_bl))
          pss_nil)))
      (pss_one (ps_ret pe_bl))))), ?_⟩
    have hz := big
    obtain ⟨p, b, j, us, ws, rfl, hp, hb, hus, hj, hws⟩ := pc_inv hv
    have hul : us.length = bx.length := by rw [hus.length, List.length_map]
    have hwl : ws.length = js.length := by rw [hws.length, List.length_map]
    have hmax : (if (us.length : Int) - 1 > 0 then (us.length : Int) - 1 else 0) = (ws.length : Int) := by
      split <;> omega
    refine ⟨_, rfl, p, _, _, _, rfl, rfl, SqT.of hp, rfl, j, ws, rfl, .inr (SqT.of hj), _, rfl, p, _, _, _, rfl, rfl, SqT.of hp, rfl, b, us, rfl, .inr (SqT.of hb), _, _, rfl, rfl, 0, _, rfl, rfl, _, rfl, ite2 (fun hc => ?_) (fun _ => ?_)⟩
    · have hc : (!decide (V.int (ws.length : Int) = V.int (if (us.length : Int) - 1 > 0 then (us.length : Int) - 1 else 0))) = true := hc
      rw [hmax, decide_eq_true rfl] at hc
      exact absurd hc (by decide)
    refine ⟨_, rfl, p, _, _, _, rfl, rfl, SqT.of hp, rfl, b, rfl, ⟨_, SqT.of hb⟩, for_tup (xs := us) (fun i σ H' => ∃ v2 : Option V, σ = [some (.ref d), some (.ref p), v2, none] ∧ H' = H) ⟨_, rfl, rfl⟩ ?_ ?_ ?_⟩
    · rintro i σ H' _ ⟨v2, rfl, rfl⟩
      exact SqT.of hb
    · rintro i x σ H' hi ⟨v2, rfl, rfl⟩
      obtain ⟨dd, hd, hx⟩ := hus.get' hi
      rw [List.getElem?_map] at hd
      cases eb : bx[i]? with
      | none => rw [eb] at hd; cases hd
      | some y =>
        rw [eb] at hd
        cases hd
        exact ⟨_, rfl, _, rfl, d, x, y, F, need, rfl, hH, hx, hbo y (List.mem_of_getElem? eb), _, rfl, _, rfl, rfl⟩
    · rintro σ H' ⟨v2, rfl, rfl⟩
      refine ⟨_, rfl, p, _, _, _, rfl, rfl, SqT.of hp, rfl, j, ws, rfl, .inr (SqT.of hj), _, rfl, by omega, by omega, for_range (n := ((ws.length : Nat) : Int).toNat) (fun i σ H2 => ∃ v3 : Option V, σ = [some (.ref d), some (.ref p), v2, v3] ∧ Fr [] H' H2) ⟨_, rfl, Fr.refl _ _⟩ ?_ ?_⟩
      · rintro i σ H2 hi ⟨v3, rfl, fr⟩
        have hi2 : i < ws.length := by omega
        obtain ⟨x, ex, _⟩ := get_of hi2
        obtain ⟨x1, ex1, _⟩ := get_of (l := us) (j := i) (by omega)
        obtain ⟨x2, ex2, _⟩ := get_of (l := us) (j := i + 1) (by omega)
        obtain ⟨d0, hd0, hx0⟩ := hws.get' ex
        obtain ⟨d1, hd1, hx1⟩ := hus.get' ex1
        obtain ⟨d2, hd2, hx2⟩ := hus.get' ex2
        rw [List.getElem?_map] at hd0 hd1 hd2
        cases e0 : js[i]? with
        | none => rw [e0] at hd0; cases hd0
        | some jj =>
          cases e1 : bx[i]? with
          | none => rw [e1] at hd1; cases hd1
          | some y1 =>
            cases e2 : bx[i + 1]? with
            | none => rw [e2] at hd2; cases hd2
            | some y2 =>
              rw [e0] at hd0
              rw [e1] at hd1
              rw [e2] at hd2
              cases hd0
              cases hd1
              cases hd2
              have ez : (0 : Int) + (i : Int) = ((i : Nat) : Int) := by omega
              have ez2 : ((i : Nat) : Int) + 1 = ((i + 1 : Nat) : Int) := by omega
              rw [ez]
              refine ⟨_, rfl, _, rfl, p, _, _, _, rfl, rfl, SqT.of (fr.k0 hp), rfl, _, rfl, j, _, _, _, rfl, rfl, SqT.of (fr.k0 hj), atI_nat ex, _, rfl, p, _, _, _, rfl, rfl, SqT.of (fr.k0 hp), rfl, _, rfl, b, _, _, _, rfl, rfl, SqT.of (fr.k0 hb), atI_nat ex1, _, rfl, p, _, _, _, rfl, rfl, SqT.of (fr.k0 hp), rfl, _, rfl, _, _, rfl, rfl, b, _, _, x2, rfl, rfl, SqT.of (fr.k0 hb), (by rw [ez2]; exact atI_nat ex2),
                d, x, x1, x2, jj, y1, y2, F, need, rfl, hH.k0 fr, h45, hx0.mono fr.t, hx1.mono fr.t, hx2.mono fr.t, hbo y1 (List.mem_of_getElem? e1), hbo y2 (List.mem_of_getElem? e2), hjo i jj y1 y2 e0 e1 e2, fun H3 f3 => ⟨_, rfl, _, rfl, fr.t0 f3⟩⟩
      · rintro σ H2 ⟨v3, rfl, fr⟩
        exact k H2 fr
abbrev s_masked : Stmt := top 60
abbrev N_masked : List Str := ["_law_pieces", "_law_boxes", "_law_box", "_law_letters", "_law_letter_here"]
theorem sc_masked : FnScope ["_law_pieces", "_law_boxes", "_law_box", "_law_letters", "_law_letter_here"] ["_law_pieces"] (defScope s_masked) := ⟨rfl, rfl, rfl, by decide +kernel, rfl, by decide +kernel, by decide +kernel⟩
theorem c_masked (F : Df K mg "_law_masked" s_masked) (G : Gn mg)   : C8.Cal P w K mg base 1 "_law_masked" spMasked [] := by
  refine cal_by F sc_masked (fun _ _ _ _ _ _ us hl => match us, hl with | [_], _ => rfl) (fun vs H Q E h => ?_) (fun f cdv A outer s H vs Q E hr h => ?_)
  · obtain ⟨v, bx, js, rfl, _⟩ := h
    rfl
  · obtain ⟨v, bx, js, rfl, hv, hbl, hll, k⟩ := h
    have sc := sc_masked
    refine ⟨_, (pss_cons (ps_set (i := 1) sc.nd rfl (Or.inl rfl) (pe_lst pa_nil))
      (pss_cons (ps_for PassesOwn.never rfl (pi_tup (pe_ix ix_tup (pv 0) pe_int (fun _ _ => rfl))) (pg_name (i := 2) sc.nd rfl (Or.inl rfl))
        (pss_cons (ps_set (i := 3) sc.nd rfl (Or.inl rfl) (pe_lst pa_nil))
        (pss_cons (ps_for PassesOwn.never rfl (pi_tup (pe_ix ix_tup (pv 2) pe_int (fun _ _ => rfl))) (pg_name (i := 4) sc.nd rfl (Or.inl rfl))
          (pss_one (ps_if (pt_cmpR op_in_sign (pe_ix ix_tup (pv 4) pe_int (fun _ _ => rfl)) pe_str rfl)
            (pss_one (ps_expr (pe_bm PySem.F.plainAttrs_list PySem.F.slot_list_append PySem.F.type_list_append mt_append (pv 3) (pa_cons (pe_tup (pa_cons pe_str (pa_cons (pe_ix ix_tup (pv 4) pe_int (fun _ _ => rfl)) (pa_cons (pe_ix ix_tup (pv 4) pe_int (fun _ _ => rfl)) (pa_cons (pe_ix ix_tup (pv 4) pe_int (fun _ _ => rfl)) pa_nil))))) pa_nil))))
            (pss_one (ps_expr (pe_bm PySem.F.plainAttrs_list PySem.F.slot_list_append PySem.F.type_list_append mt_append (pv 3) (pa_cons (pv 4) pa_nil)))))))
        (pss_one (ps_expr (pe_bm PySem.F.plainAttrs_list PySem.F.slot_list_append PySem.F.type_list_append mt_append (pv 1) (pa_cons (pe_tup (pa_cons (pe_ix ix_tup (pv 2) pe_int (fun _ _ => rfl)) (pa_cons (pe_callTy call_tuple_of rfl G.n_tuple (by decide +kernel) (pa_cons (pv 3) pa_nil)) (pa_cons (pe_ix ix_tup (pv 2) pe_int (fun _ _ => rfl)) pa_nil)))) pa_nil)))))))
      (pss_one (ps_ret (pe_tup (pa_cons (pe_callTy call_tuple_of rfl G.n_tuple (by decide +kernel) (pa_cons (pv 1) pa_nil)) (pa_cons (pe_ix ix_tup (pv 0) pe_int (fun _ _ => rfl)) pa_nil))))))), ?_⟩
    have hz := big
    have e48 : Str.ofString "0" = ch 48 := by decide +kernel
    obtain ⟨p, b, j, us, ws, rfl, hp, hb, hus, hj, hws⟩ := pc_inv hv
    have hul : us.length = bx.length := by rw [hus.length, List.length_map]
    refine ⟨(by show 0 ≤ sizeLine; omega), fun l n_l => ?_⟩
    have l0 := n_l
    generalize eH_l : upd H l _ = H1
    have ev_l : ∀ {M : List Addr}, Fr M H H1 := by intro M; rw [← eH_l]; exact Fr.new n_l
    have h_l : H1 l = some (.lst []) := by rw [← eH_l]; exact upd_same
    clear eH_l
    have I : GrI l H H1 [] [] := ⟨h_l, .nil, ev_l, l0⟩
    refine ⟨_, rfl, p, _, _, _, rfl, rfl, SqT.of ((ev_l (M := [])).k0 hp), rfl, b, rfl, ⟨_, SqT.of ((ev_l (M := [])).k0 hb)⟩, for_tup (xs := us) (fun i σ H' => ∃ (ts : List V) (v2 v3 v4 : Option V), σ = [some (.ref p), some (.ref l), v2, v3, v4] ∧ GrI l H H' (((bx.take i).map mkB).map bxD) ts ∧ ts.length = i) ?_ ?_ ?_ ?_⟩
    · exact ⟨[], _, _, _, rfl, I, rfl⟩
    · rintro i σ H2 _ ⟨ts, v2, v3, v4, rfl, I, htl⟩
      exact SqT.of (I.fr.k0 hb)
    · rintro i x σ H2 hi ⟨ts, v2, v3, v4, rfl, I, htl⟩
      obtain ⟨dd, hd, hx⟩ := hus.get' hi
      rw [List.getElem?_map] at hd
      cases eb : bx[i]? with
      | none => rw [eb] at hd; cases hd
      | some y =>
        rw [eb] at hd
        cases hd
        have hil := (List.getElem?_eq_some_iff.mp eb).1
        have hyl := hll y (List.mem_of_getElem? eb)
        obtain ⟨q, ll, m, us2, ns, rfl, hq, hl2, hus2, hm, hns⟩ := bx_inv (hx.mono I.fr.t)
        have hul2 : us2.length = y.2.1.length := by rw [hus2.length, List.length_map]
        refine ⟨(by show 0 ≤ sizeLine; omega), fun l3 n_l3 => ?_⟩
        have l3l := (ne_of_none I.hl n_l3).symm
        have n_l30 := n_l3
        generalize eH_l3 : upd H2 l3 _ = H3
        have ev_l3 : ∀ {M : List Addr}, Fr M H2 H3 := by intro M; rw [← eH_l3]; exact Fr.new n_l3
        have h_l3 : H3 l3 = some (.lst []) := by rw [← eH_l3]; exact upd_same
        clear eH_l3
        have J : GrI l3 H2 H3 [] [] := ⟨h_l3, .nil, ev_l3, n_l30⟩
        refine ⟨_, rfl, q, _, _, _, rfl, rfl, SqT.of (J.fr.k0 hq), rfl, ll, rfl, ⟨_, SqT.of (J.fr.k0 hl2)⟩, for_tup (xs := us2) (fun j' σ H' => ∃ (ys : List V) (v4 : Option V), σ = [some (.ref p), some (.ref l), some (.ref q), some (.ref l3), v4] ∧ GrI l3 H2 H' (((y.2.1.take j').map mkP).map plD) ys ∧ ys.length = j') ?_ ?_ ?_ ?_⟩
        · exact ⟨[], _, rfl, J, rfl⟩
        · rintro j' σ H4 _ ⟨ys, v4, rfl, J, hysl⟩
          exact SqT.of (J.fr.k0 hl2)
        · rintro j' x' σ H4 hj' ⟨ys, v4, rfl, J, hysl⟩
          obtain ⟨d', hd', hx'⟩ := hus2.get' hj'
          rw [List.getElem?_map] at hd'
          cases el : y.2.1[j']? with
          | none => rw [el] at hd'; cases hd'
          | some pl =>
            rw [el] at hd'
            cases hd'
            have hjl := (List.getElem?_eq_some_iff.mp el).1
            have hx' := hx'.mono J.fr.t
            obtain ⟨c, rfl, hc⟩ := Tr.flat (id hx' : Tr H4 x' (.tup _)) rfl
            have e : ((y.2.1.take (j' + 1)).map mkP).map plD = ((y.2.1.take j').map mkP).map plD ++ [plD (mkP pl)] := by
              rw [List.take_add_one, el]
              show ((y.2.1.take j' ++ [pl]).map mkP).map plD = _
              simp
            refine ⟨_, rfl, c, _, _, _, rfl, rfl, SqT.of hc, rfl, pl.c, _, rfl, rfl, _, rfl, ite2 (fun hn => ?_) (fun hn => ?_)⟩
            · have hf := digs.mp (of_decide_eq_true hn)
              refine ⟨_, rfl, Or.inl ⟨rfl, _, SqL.of J.hl⟩, _, rfl, c, _, _, _, rfl, rfl, SqT.of hc, rfl, _, rfl, c, _, _, _, rfl, rfl, SqT.of hc, rfl, _, rfl, c, _, _, _, rfl, rfl, SqT.of hc, rfl, (by show 4 ≤ sizeLine; omega), fun q3 n_q3 => ?_⟩
              generalize eH_q3 : upd H4 q3 _ = H5
              have ev_q3 : ∀ {M : List Addr}, Fr M H4 H5 := by intro M; rw [← eH_q3]; exact Fr.new n_q3
              have h_q3 : H5 q3 = some (.tup [.str "0", .int pl.off, .int pl.z, .str pl.f]) := by rw [← eH_q3]; exact upd_same
              clear eH_q3
              have J := J.k0 ev_q3
              refine ⟨_, _, _, rfl, rfl, J.hl, by omega, ys ++ [.ref q3], _, rfl, ?_, by rw [List.length_append, hysl] <;> rfl⟩
              rw [e]
              refine J.app ?_
              have e2 : mk pl.c = 48 := by unfold mk; rw [if_pos hf]
              have e3 : plD (mkP pl) = .tup [.str (ch 48), .int pl.off, .int pl.z, .str pl.f] := by
                unfold mkP plD
                rw [e2]
              rw [e3, ← e48]
              exact Tr.of_flat (ds := [.str "0", .int pl.off, .int pl.z, .str pl.f]) h_q3 rfl
            · have hf : ¬ fig pl.c = true := fun z => hn (decide_eq_true (digs.mpr z))
              refine ⟨_, rfl, Or.inl ⟨rfl, _, SqL.of J.hl⟩, _, rfl, _, _, _, rfl, rfl, J.hl, by omega, ys ++ [.ref c], _, rfl, ?_, by rw [List.length_append, hysl] <;> rfl⟩
              rw [e]
              have e2 : mkP pl = pl := by
                unfold mkP mk
                rw [if_neg hf]
              rw [e2]
              exact J.app hx'
        · rintro σ H4 ⟨ys, v4, rfl, J, hysl⟩
          rw [hul2, List.take_of_length_le (Nat.le_refl _)] at J
          have I4 := I.k0 J.fr
          have hq4 := J.fr.k0 hq
          refine ⟨_, rfl, Or.inl ⟨rfl, _, SqL.of I4.hl⟩, _, rfl, q, _, _, _, rfl, rfl, SqT.of hq4, rfl, _, rfl, l3, _, rfl, Or.inl ⟨SqL.of J.hl, fun q5 n_q5 => ?_⟩⟩
          generalize eH_q5 : upd H4 q5 _ = H5
          have ev_q5 : ∀ {M : List Addr}, Fr M H4 H5 := by intro M; rw [← eH_q5]; exact Fr.new n_q5
          have h_q5 : H5 q5 = some (.tup ys) := by rw [← eH_q5]; exact upd_same
          clear eH_q5
          have hq5 := (ev_q5 (M := [])).k0 hq4
          refine ⟨_, rfl, q, _, _, _, rfl, rfl, SqT.of hq5, rfl, (by show 3 ≤ sizeLine; omega), fun q6 n_q6 => ?_⟩
          generalize eH_q6 : upd H5 q6 _ = H6
          have ev_q6 : ∀ {M : List Addr}, Fr M H5 H6 := by intro M; rw [← eH_q6]; exact Fr.new n_q6
          have h_q6 : H6 q6 = some (.tup [.int y.1, .ref q5, .ref m]) := by rw [← eH_q6]; exact upd_same
          clear eH_q6
          have f46 : Fr [] H4 H6 := (ev_q5 (M := [])).t0 ev_q6
          have I6 := I4.k0 f46
          refine ⟨_, _, _, rfl, rfl, I6.hl, by omega, ts ++ [.ref q6], _, _, _, rfl, ?_, by rw [List.length_append, htl] <;> rfl⟩
          have e : ((bx.take (i + 1)).map mkB).map bxD = ((bx.take i).map mkB).map bxD ++ [bxD (mkB y)] := by
            rw [List.take_add_one, eb]
            show ((bx.take i ++ [y]).map mkB).map bxD = _
            simp
          rw [e]
          refine I6.app ?_
          exact .tup h_q6 (.cons (.int _) (.cons (.tup ((ev_q6 (M := [])).k0 h_q5) (J.t.mono f46.t)) (.cons (.tup (f46.k0 (J.fr.k0 hm)) (hns.mono (J.fr.t0 f46).t)) .nil)))
    · rintro σ H2 ⟨ts, v2, v3, v4, rfl, I, htl⟩
      rw [List.take_of_length_le (by omega)] at I
      have hp2 := I.fr.k0 hp
      refine ⟨_, rfl, l, _, rfl, Or.inl ⟨SqL.of I.hl, fun q n_q => ?_⟩⟩
      generalize eH_q : upd H2 q _ = H3
      have ev_q : ∀ {M : List Addr}, Fr M H2 H3 := by intro M; rw [← eH_q]; exact Fr.new n_q
      have h_q : H3 q = some (.tup ts) := by rw [← eH_q]; exact upd_same
      clear eH_q
      refine ⟨_, rfl, p, _, _, _, rfl, rfl, SqT.of ((ev_q (M := [])).k0 hp2), rfl, (by show 2 ≤ sizeLine; omega), fun t n_t => ?_⟩
      have f := Fr.new (M := []) (o := .tup [.ref q, .ref j]) n_t
      have f3 : Fr [] H H3 := I.fr.t0 ev_q
      exact k (.ref t) _ (.tup upd_same (.cons (.tup (f.k0 h_q) ((I.t.mono (ev_q (M := [])).t).mono f.t)) (.cons (.tup (f.k0 (f3.k0 hj)) ((hws.mono f3.t).mono f.t)) .nil))) (f3.t0 f)
end

end K45

set_option maxHeartbeats 4000000
namespace K45
open PySem PySem.Spec PyProof.Rows L2
/-! ### the plain law -/
def ceC (l : Ce) : Cl := (l.c, l.z, l.f)
theorem pl_C (F : Fcs) : ∀ (box : List Ce) (st : List PL × Int × Option Ce), (box.foldl (plStep F) st).1.map plC = st.1.map plC ++ box.map ceC
  | [], st => by simp
  | l :: box, st => by
    rw [List.foldl_cons, pl_C F box]
    show (st.1 ++ [_]).map plC ++ _ = _
    rw [List.map_append, List.map_cons, List.append_assoc]
    rfl
theorem plF_C (F : Fcs) (box : List Ce) : (plF F box).1.map plC = box.map ceC := by
  unfold plF
  rw [pl_C]
  rfl
theorem plF_len (F : Fcs) (box : List Ce) : (plF F box).1.length = box.length := by
  have := congrArg List.length (plF_C F box)
  rwa [List.length_map, List.length_map] at this
theorem plF_snoc (F : Fcs) (box : List Ce) (l : Ce) : plF F (box ++ [l]) = plStep F (plF F box) l := by
  unfold plF
  rw [List.foldl_append]
  rfl
theorem zip_fst {α β : Type} (g : α → Cl) : True := trivial
theorem cells_eq (rs : List RR) : (cellsF rs).filter (fun x => isL x.1) = (lets rs).map ceC := by
  have key : ∀ (t : List Nat) (z : Int) (f : Str) (p : Nat), (t.map fun c => ((c, z, f) : Cl)).filter (fun x => isL x.1) = (letsT t z f p).map ceC := by
    intro t z f p
    unfold letsT
    rw [List.map_map]
    induction t with
    | nil => rfl
    | cons c t ih =>
      rw [List.map_cons, List.filter_cons, List.filter_cons]
      by_cases h : isL c = true
      · rw [if_pos h, if_pos h, List.map_cons, ih]
        rfl
      · rw [if_neg h, if_neg h, ih]
  have key2 : ∀ (p : Nat) (r : RR), (cellR r).filter (fun x => isL x.1) = (letsR p r).map ceC := by
    intro p r
    cases r with
    | mark n => rfl
    | text t z f => exact key t z f p
    | shown k t z f => exact key t z f p
  have key3 : ∀ (rs : List RR) (n : Nat), (rs.map cellR).flatten.filter (fun x => isL x.1) = (((rs.zipIdx n).map fun x => letsR x.2 x.1).flatten).map ceC := by
    intro rs
    induction rs with
    | nil => intro n; rfl
    | cons r rs ih =>
      intro n
      rw [List.map_cons, List.flatten_cons, List.filter_append, ih (n + 1), key2 n r, List.zipIdx_cons, List.map_cons, List.flatten_cons, List.map_append]
  exact key3 rs 0
theorem told_eq (F : Fcs) (rs : List RR) : toldF (bxs F rs) = (lets rs).map ceC := by
  have h1 : (bxs F rs).map (fun b => b.2.1.map plC) = (boxesF rs).map fun b => b.map ceC := by
    unfold bxs
    rw [List.map_map]
    have h2 : ((fun b : Bx => b.2.1.map plC) ∘ fun x : List Ce × List Dt => ((plF F x.1).2.1, (plF F x.1).1, x.2)) = (fun b : List Ce => b.map ceC) ∘ Prod.fst := by
      funext x
      exact plF_C F x.1
    rw [h2, ← List.map_map, List.map_fst_zip (by rw [marks_len]; exact Nat.le_refl _)]
  unfold toldF
  rw [h1, ← List.map_flatten]
  unfold boxesF
  rw [words_flat]
/-- what the faces keep -/
structure FOk (F : Fcs) : Prop where
  adv : ∀ f c, (F f).adv (mk c) = (F f).adv c
theorem mkFig {c : Nat} (h : fig c = true) : mk c = 48 := by unfold mk; rw [if_pos h]
theorem mk_no {c : Nat} (h : ¬ fig c = true) : mk c = c := by unfold mk; rw [if_neg h]
theorem fig_mk (c : Nat) : fig (mk c) = fig c := by
  by_cases h : fig c = true
  · rw [mkFig h, h]
    rfl
  · rw [mk_no h]
theorem near_mk (D : FaceD) (a b : Nat) : nearF D (mk a) (mk b) = nearF D a b := by
  by_cases h : fig a = true ∨ fig b = true
  · rw [nearF_fig h, nearF_fig (by rw [fig_mk, fig_mk]; exact h)]
  · have ha : ¬ fig a = true := fun z => h (.inl z)
    have hb : ¬ fig b = true := fun z => h (.inr z)
    rw [mk_no ha, mk_no hb]
theorem ov_fig {F : Fcs} {b l : Ce} (h : fig b.c = true ∨ fig l.c = true) : ovF F b l = 0 := by
  unfold ovF
  split
  · rw [nearF_fig h, Int.mul_zero]
  · rfl
/-! offsets -/
theorem lastP_snoc (r : List PL) (x : PL) : lastP (r ++ [x]) = x := by unfold lastP; simp
structure PlI (F : Fcs) (box : List Ce) : Prop where
  off : OffOk F (plF F box).1
  last : box ≠ [] → (plF F box).2.2 = some (lastC box) ∧ (plF F box).1 ≠ [] ∧ plC (lastP (plF F box).1) = ceC (lastC box) ∧ (plF F box).2.1 = (lastP (plF F box).1).off + (lastP (plF F box).1).z * (F (lastP (plF F box).1).f).adv (lastP (plF F box).1).c
theorem plI (F : Fcs) (box : List Ce) : PlI F box := by
  have key : ∀ r : List Ce, PlI F r.reverse := by
    intro r
    induction r with
    | nil => exact ⟨(fun k a b h => by cases h), fun h => (h rfl).elim⟩
    | cons l r ih =>
      rw [List.reverse_cons]
      generalize r.reverse = bx at ih
      have es := plF_snoc F bx l
      refine ⟨?_, fun _ => ?_⟩
      · rw [es]
        show OffOk F ((plF F bx).1 ++ [⟨l.c, offF F (plF F bx).2.1 (plF F bx).2.2 l, l.z, l.f⟩])
        intro k a b h1 h2 hf
        by_cases hk : k + 1 < (plF F bx).1.length
        · rw [List.getElem?_append_left (by omega)] at h1
          rw [List.getElem?_append_left hk] at h2
          exact ih.off k a b h1 h2 hf
        · have hk2 : k + 1 = (plF F bx).1.length := by
            have := (List.getElem?_eq_some_iff.mp h2).1
            rw [List.length_append] at this
            have e : ([⟨l.c, offF F (plF F bx).2.1 (plF F bx).2.2 l, l.z, l.f⟩] : List PL).length = 1 := rfl
            omega
          have hne : bx ≠ [] := fun z => by
            rw [plF_len, z] at hk2
            cases hk2
          obtain ⟨g1, g2, g3, g4⟩ := ih.last hne
          rw [List.getElem?_append_right (by omega)] at h2
          rw [show k + 1 - (plF F bx).1.length = 0 by omega] at h2
          cases h2
          obtain ⟨pr, px, pe⟩ := snoc_ex g2
          rw [pe, lastP_snoc] at g3 g4
          have ha : a = px := by
            rw [List.getElem?_append_left (by omega), pe, List.getElem?_append_right (by rw [pe, List.length_append] at hk2; exact Nat.le_of_eq (by have : [px].length = 1 := rfl; omega))] at h1
            have e0 : k - pr.length = 0 := by
              rw [pe, List.length_append] at hk2
              have : [px].length = 1 := rfl
              omega
            rw [e0] at h1
            cases h1
            rfl
          subst ha
          show offF F (plF F bx).2.1 (plF F bx).2.2 l = _
          rw [g1]
          show (plF F bx).2.1 - ovF F (lastC bx) l = _
          have hc : a.c = (lastC bx).c := congrArg (fun x : Cl => x.1) g3
          rw [ov_fig (by rw [← hc]; exact hf), Int.sub_zero, g4]
      · rw [es]
        refine ⟨by rw [lastC_snoc] <;> rfl, by show (plF F bx).1 ++ [_] ≠ []; simp, ?_, ?_⟩
        · show plC (lastP ((plF F bx).1 ++ [_])) = _
          rw [lastP_snoc, lastC_snoc] <;> rfl
        · show _ = (lastP ((plF F bx).1 ++ [_])).off + (lastP ((plF F bx).1 ++ [_])).z * (F (lastP ((plF F bx).1 ++ [_])).f).adv (lastP ((plF F bx).1 ++ [_])).c
          rw [lastP_snoc] <;> rfl
  have := key box.reverse
  rwa [List.reverse_reverse] at this
/-! joints -/
def Good (F : Fcs) (j : Jt) (a b : List Ce) : Prop := (∃ x, j = gapJ F x) ∨ j = hypJ F (lastC a) (headC b)
theorem wordJ_at {F : Fcs} {w : List (List Ce)} {m : Nat} {j : Jt} {a b : List Ce} (h : (wordJ F w)[m]? = some j) (h1 : w[m]? = some a) (h2 : w[m + 1]? = some b) : Good F j a b := by
  unfold wordJ at h
  rw [List.getElem?_map] at h
  have hm := (List.getElem?_eq_some_iff.mp h2).1
  rw [List.getElem?_range (by omega)] at h
  cases h
  right
  show hypJ F (lastC (w.getD m [])) (headC (w.getD (m + 1) [])) = _
  rw [List.getD_eq_getElem?_getD, List.getD_eq_getElem?_getD, h1, h2]
  rfl
theorem joints_chain (F : Fcs) (ws : List (List (List Ce))) (sp : List Sps) (hne : ∀ w ∈ ws, w ≠ []) : ∀ n : Nat, n ≤ ws.length →
    (1 ≤ n → (((List.range n).map (jAt F ws sp)).flatten).length + 1 = ((ws.take n).flatten).length) ∧ ∀ (k : Nat) (j : Jt) (a b : List Ce), (((List.range n).map (jAt F ws sp)).flatten)[k]? = some j → ((ws.take n).flatten)[k]? = some a → ((ws.take n).flatten)[k + 1]? = some b → Good F j a b
  | 0, _ => ⟨(fun h => absurd h (by decide)), fun k j a b h => by cases h⟩
  | n + 1, hn => by
    obtain ⟨ih1, ih2⟩ := joints_chain F ws sp hne n (by omega)
    obtain ⟨w, ew, hwm⟩ := get_of (l := ws) (j := n) (by omega)
    have hw := hne w hwm
    have hw1 : 1 ≤ w.length := by
      cases w with
      | nil => exact (hw rfl).elim
      | cons _ _ => exact Nat.succ_le_succ (Nat.zero_le _)
    have eJ : ((List.range (n + 1)).map (jAt F ws sp)).flatten = ((List.range n).map (jAt F ws sp)).flatten ++ jAt F ws sp n := by
      rw [List.range_succ, List.map_append, List.flatten_append]
      simp
    have eB : (ws.take (n + 1)).flatten = (ws.take n).flatten ++ w := by
      rw [List.take_add_one, ew]
      show (ws.take n ++ [w]).flatten = _
      simp
    have gw : ws.getD n [] = w := by rw [List.getD_eq_getElem?_getD, ew] <;> rfl
    have ejl : (wordJ F w).length = w.length - 1 := by unfold wordJ; rw [List.length_map, List.length_range]
    rw [eJ, eB]
    generalize hJ : ((List.range n).map (jAt F ws sp)).flatten = J at *
    generalize hB : (ws.take n).flatten = B at *
    have ea : jAt F ws sp n = (if n = 0 then [] else [gapJ F (sp.getD (n - 1) (0, ""))]) ++ wordJ F w := by unfold jAt; rw [gw]
    rw [ea]
    by_cases h0 : n = 0
    · subst h0
      rw [if_pos rfl, List.nil_append]
      have hB0 : B = [] := by rw [← hB]; rfl
      have hJ0 : J = [] := by rw [← hJ]; rfl
      rw [hB0, hJ0, List.nil_append, List.nil_append]
      exact ⟨fun _ => by omega, fun k j a b h h1 h2 => wordJ_at h h1 h2⟩
    · rw [if_neg h0]
      have hl := ih1 (by omega)
      refine ⟨fun _ => ?_, fun k j a b h h1 h2 => ?_⟩
      · rw [List.length_append, List.length_append, List.length_append]
        show J.length + (1 + _) + 1 = _
        omega
      · by_cases hk : k < J.length
        · rw [List.getElem?_append_left hk] at h
          rw [List.getElem?_append_left (by omega)] at h1 h2
          exact ih2 k j a b h h1 h2
        · rw [List.getElem?_append_right (by omega)] at h
          by_cases hk2 : k = J.length
          · rw [hk2, Nat.sub_self] at h
            cases h
            exact .inl ⟨_, rfl⟩
          · obtain ⟨m, rfl⟩ : ∃ m, k = J.length + 1 + m := ⟨k - J.length - 1, by omega⟩
            rw [show J.length + 1 + m - J.length = m + 1 by omega] at h
            have h : (wordJ F w)[m]? = some j := h
            rw [List.getElem?_append_right (by omega)] at h1 h2
            rw [show J.length + 1 + m - B.length = m by omega] at h1
            rw [show J.length + 1 + m + 1 - B.length = m + 1 by omega] at h2
            exact wordJ_at h h1 h2
theorem joints_ok (F : Fcs) (rs : List RR) : (jts F rs).length = (boxesF rs).length - 1 ∧ ∀ (k : Nat) (j : Jt) (a b : List Ce), (jts F rs)[k]? = some j → (boxesF rs)[k]? = some a → (boxesF rs)[k + 1]? = some b → Good F j a b := by
  have hne : ∀ w ∈ (wordsF rs).ws, w ≠ [] := fun w hw => ((words_win rs).c w hw).1
  obtain ⟨h1, h2⟩ := joints_chain F (wordsF rs).ws (wordsF rs).sp hne (wordsF rs).ws.length (Nat.le_refl _)
  rw [List.take_of_length_le (Nat.le_refl _)] at h1 h2
  refine ⟨?_, h2⟩
  show (jointsF F (wordsF rs).ws (wordsF rs).sp).length = (wordsF rs).ws.flatten.length - 1
  by_cases h : 1 ≤ (wordsF rs).ws.length
  · have := h1 h
    unfold jointsF
    omega
  · have e : (wordsF rs).ws = [] := List.length_eq_zero_iff.mp (by omega)
    unfold jointsF
    rw [e]
    rfl
theorem headP_eq (F : Fcs) {box : List Ce} (h : box ≠ []) : plC (headP (plF F box).1) = ceC (headC box) := by
  have e := plF_C F box
  cases box with
  | nil => exact (h rfl).elim
  | cons l r =>
    cases e2 : (plF F (l :: r)).1 with
    | nil => rw [e2] at e; cases e
    | cons x xs =>
      rw [e2] at e
      rw [List.map_cons, List.map_cons] at e
      injection e with e _
theorem bxs_at {F : Fcs} {rs : List RR} {k : Nat} {b : Bx} (h : (bxs F rs)[k]? = some b) : ∃ box, (boxesF rs)[k]? = some box ∧ b.1 = (plF F box).2.1 ∧ b.2.1 = (plF F box).1 := by
  unfold bxs at h
  rw [List.getElem?_map] at h
  cases e : ((boxesF rs).zip (marksF rs (boxesF rs)))[k]? with
  | none => rw [e] at h; cases h
  | some x =>
    rw [e] at h
    cases h
    rw [List.getElem?_zip_eq_some] at e
    exact ⟨x.1, e.1, rfl, rfl⟩
theorem box_ne (rs : List RR) : ∀ b ∈ boxesF rs, b ≠ [] := fun b hb => by
  obtain ⟨w, hw, hb⟩ := List.mem_flatten.mp hb
  exact ((words_win rs).c w hw).2 b hb
theorem pc_ok {F : Fcs} {need : List Nat} {rs : List RR} (h1 : ∀ r ∈ rs, RRok r) (h2 : ∀ r ∈ rs, RRin need r) (hl : (lets rs).length ≤ 10000) : PcOk F need (bxs F rs) (jts F rs) := by
  have hce := lets_ok h1 h2
  have hfl : (boxesF rs).flatten = lets rs := words_flat rs
  have hbl : (bxs F rs).length = (boxesF rs).length := by
    unfold bxs
    rw [List.length_map, List.length_zip, marks_len, Nat.min_self]
  obtain ⟨j1, j2⟩ := joints_ok F rs
  refine ⟨by rw [j1, hbl], fun b hb => ?_, fun k j a b e0 e1 e2 => ?_⟩
  · obtain ⟨k, hk⟩ := List.getElem?_of_mem hb
    obtain ⟨box, eb, g1, g2⟩ := bxs_at hk
    have hbm := List.mem_of_getElem? eb
    have hbn := box_ne rs box hbm
    have pi := plI F box
    unfold BxOk
    rw [g2]
    refine ⟨(pi.last hbn).2.1, pi.off, fun x hx => ?_, ?_⟩
    · have hm : plC x ∈ box.map ceC := by rw [← plF_C F box]; exact List.mem_map.mpr ⟨x, hx, rfl⟩
      obtain ⟨l, hlm, e⟩ := List.mem_map.mp hm
      have := hce l (by rw [← hfl]; exact List.mem_flatten.mpr ⟨box, hbm, hlm⟩)
      have ec : l.c = x.c := congrArg (fun x : Cl => x.1) e
      have ez : l.z = x.z := congrArg (fun x : Cl => x.2.1) e
      have ef : l.f = x.f := congrArg (fun x : Cl => x.2.2) e
      unfold PlOk
      rw [← ec, ← ez, ← ef]
      exact this
    · rw [plF_len]
      have : box.length ≤ (boxesF rs).flatten.length := (List.sublist_flatten_of_mem hbm).length_le
      rw [hfl] at this
      exact Nat.le_trans this hl
  · obtain ⟨ba, ea, _, ga⟩ := bxs_at e1
    obtain ⟨bb, eb, _, gb⟩ := bxs_at e2
    have hna := box_ne rs ba (List.mem_of_getElem? ea)
    have hnb := box_ne rs bb (List.mem_of_getElem? eb)
    have la := ((plI F ba).last hna).2.2.1
    have hb := headP_eq F hnb
    have ec : (lastP a.2.1).c = (lastC ba).c := by rw [ga]; exact congrArg (fun x : Cl => x.1) la
    have ez : (lastP a.2.1).z = (lastC ba).z := by rw [ga]; exact congrArg (fun x : Cl => x.2.1) la
    have ef : (lastP a.2.1).f = (lastC ba).f := by rw [ga]; exact congrArg (fun x : Cl => x.2.2) la
    have eh : (headP b.2.1).c = (headC bb).c := by rw [gb]; exact congrArg (fun x : Cl => x.1) hb
    rcases j2 k j ba bb e0 ea eb with ⟨x, rfl⟩ | rfl
    · trivial
    · refine ⟨fun hf => ?_, fun hf => ?_⟩
      · rw [ec] at hf
        rw [ez, ef, ov_fig (.inl hf), nearF_fig (.inl hf)]
        exact ⟨by rw [Int.sub_zero], rfl, by rw [Int.mul_zero], rfl, rfl⟩
      · rw [eh] at hf
        exact ov_fig (.inr hf)
/-! masks -/
def mkC (l : Ce) : Ce := ⟨mk l.c, l.z, l.f, l.p⟩
def mkRR : RR → RR
  | .mark n => .mark n
  | .text t z f => .text (t.map mk) z f
  | .shown k t z f => .shown k (t.map mk) z f
abbrev mkBx (b : List Ce) : List Ce := b.map mkC
abbrev mkWd (w : List (List Ce)) : List (List Ce) := w.map mkBx
def mkW (s : Wst) : Wst := ⟨s.ws.map mkWd, s.sp, s.ins, s.br, s.spc⟩
theorem modL_map {α β : Type} {g : α → α} {g' : β → β} {f : α → β} (h : ∀ x, g' (f x) = f (g x)) : ∀ xs : List α, modL g' (xs.map f) = (modL g xs).map f
  | [] => rfl
  | [a] => by
    show [g' (f a)] = [f (g a)]
    rw [h]
  | a :: b :: r => by
    show f a :: modL g' ((b :: r).map f) = f a :: (modL g (b :: r)).map f
    rw [modL_map h]
theorem stepL_mk (l : Ce) (s : Wst) : stepL (mkC l) (mkW s) = mkW (stepL l s) := by
  unfold stepL mkW
  have e1 : (if s.ins = true then (if s.br = true then modL (fun w => w ++ [[mkC l]]) (s.ws.map mkWd) else modL (modL fun b => b ++ [mkC l]) (s.ws.map mkWd)) else s.ws.map mkWd ++ [[[mkC l]]]) =
      (if s.ins = true then (if s.br = true then modL (fun w => w ++ [[l]]) s.ws else modL (modL fun b => b ++ [l]) s.ws) else s.ws ++ [[[l]]]).map mkWd := by
    split
    · split
      · refine modL_map (fun w => ?_) _
        simp [mkWd]
      · refine modL_map (fun w => ?_) _
        refine modL_map (fun b => ?_) _
        simp [mkBx]
    · simp [mkWd, mkBx]
  have e2 : (s.ws.map mkWd ≠ []) = (s.ws ≠ []) := by simp
  simp only [e1, e2]
theorem stepW_mk (z : Int) (f : Str) (p : Nat) (s : Wst) (c : Nat) : stepW z f p (mkW s) (mk c) = mkW (stepW z f p s c) := by
  unfold stepW
  have h1 : (mk c = 32) = (c = 32) := by
    by_cases hf : fig c = true
    · rw [mkFig hf]
      have : ¬ c = 32 := fun z => by rw [z] at hf; exact absurd hf (by decide)
      simp [this]
    · rw [mk_no hf]
  have h2 : (mk c = 124) = (c = 124) := by
    by_cases hf : fig c = true
    · rw [mkFig hf]
      have : ¬ c = 124 := fun z => by rw [z] at hf; exact absurd hf (by decide)
      simp [this]
    · rw [mk_no hf]
  simp only [h1, h2]
  split
  · rfl
  · split
    · rfl
    · exact stepL_mk ⟨c, z, f, p⟩ s
theorem text_mk (z : Int) (f : Str) (p : Nat) : ∀ (t : List Nat) (s : Wst), (t.map mk).foldl (stepW z f p) (mkW s) = mkW (t.foldl (stepW z f p) s)
  | [], _ => rfl
  | c :: t, s => by
    rw [List.map_cons, List.foldl_cons, List.foldl_cons, stepW_mk]
    exact text_mk z f p t _
theorem stepR_mk (p : Nat) (s : Wst) (r : RR) : stepR p (mkW s) (mkRR r) = mkW (stepR p s r) := by
  cases r with
  | mark n => rfl
  | text t z f => exact text_mk z f p t s
  | shown k t z f => exact text_mk z f p t s
theorem words_mk (rs : List RR) : wordsF (rs.map mkRR) = mkW (wordsF rs) := by
  have key : ∀ (rs : List RR) (n : Nat) (s : Wst), ((rs.map mkRR).zipIdx n).foldl (fun s x => stepR x.2 s x.1) (mkW s) = mkW ((rs.zipIdx n).foldl (fun s x => stepR x.2 s x.1) s) := by
    intro rs
    induction rs with
    | nil => intro n s; rfl
    | cons r rs ih =>
      intro n s
      rw [List.map_cons, List.zipIdx_cons, List.zipIdx_cons, List.foldl_cons, List.foldl_cons]
      show (List.zipIdx (rs.map mkRR) (n + 1)).foldl _ (stepR n (mkW s) (mkRR r)) = _
      rw [stepR_mk]
      exact ih (n + 1) _
  exact key rs 0 W0
theorem boxes_mk (rs : List RR) : boxesF (rs.map mkRR) = (boxesF rs).map mkBx := by
  unfold boxesF
  rw [words_mk]
  show ((wordsF rs).ws.map mkWd).flatten = _
  rw [List.map_flatten]
theorem fl_mk (boxes : List (List Ce)) : flF (boxes.map mkBx) = flF boxes := by
  have k1 : ∀ (i : Nat) (b : List Ce) (st : FL), (b.map mkC).foldl (flStep i) st = b.foldl (flStep i) st := by
    intro i b
    induction b with
    | nil => intro st; rfl
    | cons l b ih => intro st; rw [List.map_cons, List.foldl_cons, List.foldl_cons]; exact ih _
  have key : ∀ (bs : List (List Ce)) (n : Nat) (st : FL), ((bs.map mkBx).zipIdx n).foldl (fun st x => x.1.foldl (flStep x.2) st) st = (bs.zipIdx n).foldl (fun st x => x.1.foldl (flStep x.2) st) st := by
    intro bs
    induction bs with
    | nil => intro n st; rfl
    | cons b bs ih =>
      intro n st
      rw [List.map_cons, List.zipIdx_cons, List.zipIdx_cons, List.foldl_cons, List.foldl_cons]
      show (List.zipIdx (bs.map mkBx) (n + 1)).foldl _ ((b.map mkC).foldl (flStep n) st) = _
      rw [k1]
      exact ih (n + 1) _
  exact key boxes 0 _
theorem marks_mk (rs : List RR) (boxes : List (List Ce)) : marksF (rs.map mkRR) (boxes.map mkBx) = marksF rs boxes := by
  unfold marksF
  rw [fl_mk, List.length_map]
  have key : ∀ (rs : List RR) (n : Nat) (st : List (List Dt) × Nat), ((rs.map mkRR).zipIdx n).foldl (mkRun (flF boxes)) st = (rs.zipIdx n).foldl (mkRun (flF boxes)) st := by
    intro rs
    induction rs with
    | nil => intro n st; rfl
    | cons r rs ih =>
      intro n st
      rw [List.map_cons, List.zipIdx_cons, List.zipIdx_cons, List.foldl_cons, List.foldl_cons]
      have : mkRun (flF boxes) st (mkRR r, n) = mkRun (flF boxes) st (r, n) := by cases r <;> rfl
      rw [this]
      exact ih (n + 1) _
  rw [key]
theorem ov_mk {F : Fcs} (b l : Ce) : ovF F (mkC b) (mkC l) = ovF F b l := by
  unfold ovF mkC
  simp only [near_mk]
theorem plF_mk {F : Fcs} (hF : FOk F) (box : List Ce) : plF F (box.map mkC) = ((plF F box).1.map mkP, (plF F box).2.1, (plF F box).2.2.map mkC) := by
  have key : ∀ (box : List Ce) (st : List PL × Int × Option Ce), (box.map mkC).foldl (plStep F) (st.1.map mkP, st.2.1, st.2.2.map mkC) = ((box.foldl (plStep F) st).1.map mkP, (box.foldl (plStep F) st).2.1, (box.foldl (plStep F) st).2.2.map mkC) := by
    intro box
    induction box with
    | nil => intro st; rfl
    | cons l box ih =>
      intro st
      rw [List.map_cons, List.foldl_cons, List.foldl_cons, ← ih]
      congr 1
      have eo : offF F st.2.1 (st.2.2.map mkC) (mkC l) = offF F st.2.1 st.2.2 l := by
        cases e : st.2.2 with
        | none => rfl
        | some b =>
          show st.2.1 - ovF F (mkC b) (mkC l) = st.2.1 - ovF F b l
          rw [ov_mk]
      unfold plStep
      simp only [eo]
      refine Prod.ext ?_ (Prod.ext ?_ rfl)
      · show st.1.map mkP ++ [_] = (st.1 ++ [_]).map mkP
        rw [List.map_append]
        rfl
      · show _ + l.z * (F l.f).adv (mk l.c) = _ + l.z * (F l.f).adv l.c
        rw [hF.adv]
  exact key box ([], 0, none)
theorem bxs_mk {F : Fcs} (hF : FOk F) (rs : List RR) : bxs F (rs.map mkRR) = (bxs F rs).map mkB := by
  unfold bxs
  rw [boxes_mk, marks_mk, List.map_map, List.zip_map_left, List.map_map]
  refine List.map_congr_left fun x _ => ?_
  show ((plF F (x.1.map mkC)).2.1, (plF F (x.1.map mkC)).1, x.2) = ((plF F x.1).2.1, (plF F x.1).1.map mkP, x.2)
  rw [plF_mk hF]
theorem lastC_mk {b : List Ce} (h : b ≠ []) : lastC (b.map mkC) = mkC (lastC b) := by
  obtain ⟨r, x, e⟩ := snoc_ex h
  rw [e, List.map_append, List.map_cons, List.map_nil, lastC_snoc, lastC_snoc]
theorem headC_mk {b : List Ce} (h : b ≠ []) : headC (b.map mkC) = mkC (headC b) := by
  cases b with
  | nil => exact (h rfl).elim
  | cons _ _ => rfl
theorem hypJ_mk {F : Fcs} (hF : FOk F) (b l : Ce) : hypJ F (mkC b) (mkC l) = hypJ F b l := by
  unfold hypJ
  rw [ov_mk]
  have e : nearF (F (mkC b).f) (mkC b).c 45 = nearF (F b.f) b.c 45 := near_mk (F b.f) b.c 45
  rw [e]
  rfl
theorem jts_mk {F : Fcs} (hF : FOk F) (rs : List RR) : jts F (rs.map mkRR) = jts F rs := by
  unfold jts
  rw [words_mk]
  show jointsF F ((wordsF rs).ws.map mkWd) (wordsF rs).sp = _
  have hne := (words_win rs).c
  generalize (wordsF rs).ws = ws at *
  unfold jointsF
  rw [List.length_map]
  congr 1
  refine List.map_congr_left fun i hi => ?_
  have hi := List.mem_range.mp hi
  obtain ⟨w, ew, hwm⟩ := get_of hi
  unfold jAt
  have g1 : (ws.map mkWd).getD i [] = mkWd w := by rw [List.getD_eq_getElem?_getD, List.getElem?_map, ew] <;> rfl
  have g2 : ws.getD i [] = w := by rw [List.getD_eq_getElem?_getD, ew] <;> rfl
  rw [g1, g2]
  congr 1
  unfold wordJ
  rw [List.length_map]
  refine List.map_congr_left fun k hk => ?_
  have hk := List.mem_range.mp hk
  obtain ⟨a, ea, ham⟩ := get_of (l := w) (j := k) (by omega)
  obtain ⟨b, eb, hbm⟩ := get_of (l := w) (j := k + 1) (by omega)
  have q1 : (mkWd w).getD k [] = mkBx a := by rw [List.getD_eq_getElem?_getD, List.getElem?_map, ea] <;> rfl
  have q2 : (mkWd w).getD (k + 1) [] = mkBx b := by rw [List.getD_eq_getElem?_getD, List.getElem?_map, eb] <;> rfl
  have q3 : w.getD k [] = a := by rw [List.getD_eq_getElem?_getD, ea] <;> rfl
  have q4 : w.getD (k + 1) [] = b := by rw [List.getD_eq_getElem?_getD, eb] <;> rfl
  rw [q1, q2, q3, q4, lastC_mk ((hne w hwm).2 a ham), headC_mk ((hne w hwm).2 b hbm), hypJ_mk hF]
/-- two texts of one mask -/
theorem masks {F : Fcs} (hF : FOk F) {rs1 rs2 : List RR} (h : rs1.map mkRR = rs2.map mkRR) : (bxs F rs1).map mkB = (bxs F rs2).map mkB ∧ jts F rs1 = jts F rs2 := by
  constructor
  · rw [← bxs_mk hF, ← bxs_mk hF, h]
  · rw [← jts_mk hF rs1, ← jts_mk hF rs2, h]
theorem resol_mk (ts : List (List Nat)) (r : Run) : mkRR (resol1 ts r) = mkRR (resol1 (ts.map (List.map mk)) r) := by
  have idem : ∀ c, mk (mk c) = mk c := fun c => by
    by_cases h : fig c = true
    · rw [mkFig h]
      rfl
    · rw [mk_no h, mk_no h]
  cases r with
  | text t z f => rfl
  | mark n => rfl
  | ref k z f =>
    show RR.shown k ((ts.getD k.toNat []).map mk) z f = RR.shown k (((ts.map (List.map mk)).getD k.toNat []).map mk) z f
    congr 1
    rw [List.getD_eq_getElem?_getD, List.getD_eq_getElem?_getD, List.getElem?_map]
    cases ts[k.toNat]? with
    | none => rfl
    | some t =>
      show t.map mk = (t.map mk).map mk
      rw [List.map_map]
      exact List.map_congr_left fun c _ => (idem c).symm
theorem resol_masks {ns ms : List (List Nat)} (h : ns.map (List.map mk) = ms.map (List.map mk)) (rs : List Run) : (rs.map (resol1 ns)).map mkRR = (rs.map (resol1 ms)).map mkRR := by
  rw [List.map_map, List.map_map]
  refine List.map_congr_left fun r _ => ?_
  show mkRR (resol1 ns r) = mkRR (resol1 ms r)
  rw [resol_mk ns, resol_mk ms, h]

end K45

set_option maxHeartbeats 4000000
namespace K45
open PySem PySem.Spec PyProof.Rows L2
theorem rr_facts {signs need : List Nat} {ts : List (List Nat)} {rs0 : List Run} (hs : ∀ c ∈ signs, c ∈ need ∧ isL c = true) (hfig : ∀ c ∈ figL, c ∈ need) (hr : ∀ r ∈ rs0, RunOk signs r) (ht : ∀ t ∈ ts, WordOk signs t) (h3 : ts.length = 3) :
    (∀ r ∈ rs0.map (resol1 ts), RRok r) ∧ (∀ r ∈ rs0.map (resol1 ts), RRin need r) ∧ Shown (rs0.map (resol1 ts)) := by
  have al : ∀ c, Al signs c → isL c = true → c ∈ need := fun c h hl => by
    rcases h with rfl | rfl | h
    · exact absurd hl (by decide)
    · exact absurd hl (by decide)
    · exact (hs c h).1
  have tm : ∀ k : Int, 0 ≤ k → k ≤ 2 → ts.getD k.toNat [] ∈ ts := fun k h0 h2 => by
    rw [List.getD_eq_getElem?_getD, List.getElem?_eq_getElem (by omega)]
    exact List.getElem_mem _
  refine ⟨fun r hrm => ?_, fun r hrm => ?_, fun k t z f hm => ?_⟩
  · obtain ⟨x, hx, rfl⟩ := List.mem_map.mp hrm
    have h := hr x hx
    cases x with
    | text t z f => exact ⟨h.2.1, h.2.2⟩
    | mark n => trivial
    | ref k z f =>
      have hw := ht _ (tm k h.1 h.2.1)
      exact ⟨Nat.le_trans hw.2.1 (by decide), h.2.2⟩
  · obtain ⟨x, hx, rfl⟩ := List.mem_map.mp hrm
    have h := hr x hx
    cases x with
    | text t z f => exact fun c hc hl => al c (h.1 c hc) hl
    | mark n => trivial
    | ref k z f =>
      have hw := ht _ (tm k h.1 h.2.1)
      intro c hc hl
      rcases hw.1 c hc with h | h
      · exact al c h hl
      · exact hfig c h
  · obtain ⟨x, hx, e⟩ := List.mem_map.mp hm
    have h := hr x hx
    cases x with
    | text t z f => cases e
    | mark n => cases e
    | ref k' z' f' =>
      injection e with e1 e2 e3 e4
      have hw := ht _ (tm k' h.1 h.2.1)
      obtain ⟨c, hc1, hc2⟩ := hw.2.2
      rw [e2] at hc1
      exact ⟨c, hc1, (hs c hc2).2⟩
theorem mk_small (fl : FL) : ∀ (xs : List (RR × Nat)) (st : List (List Dt) × Nat) (n : Nat), (∀ m ∈ st.1, m.length ≤ n ∧ ∀ d ∈ m, DN 1 d) → ∀ m ∈ (xs.foldl (mkRun fl) st).1, m.length ≤ n + xs.length ∧ ∀ d ∈ m, DN 1 d
  | [], _, _, h => h
  | x :: xs, st, n, h => by
    have dn : ∀ (s : Str) (i : Int), DN 1 (.tup [.str s, .int i]) := fun s i => .tup (by show (2 : Nat) ≤ 1000000; decide) fun d hd => by
      rcases List.mem_cons.mp hd with rfl | hd
      · exact .str _ _
      · rw [List.mem_singleton.mp hd]; exact .int _ _
    have add : ∀ (ms : List (List Dt)) (j : Nat) (d : Dt), DN 1 d → (∀ m ∈ ms, m.length ≤ n ∧ ∀ d ∈ m, DN 1 d) → ∀ m ∈ addAt ms j d, m.length ≤ n + 1 ∧ ∀ d ∈ m, DN 1 d := by
      intro ms j d hd h m hm
      obtain ⟨i, hi⟩ := List.getElem?_of_mem hm
      unfold addAt at hi
      rw [List.getElem?_modify] at hi
      cases e : ms[i]? with
      | none => rw [e] at hi; simp at hi
      | some y =>
        rw [e] at hi
        obtain ⟨hy1, hy2⟩ := h y (List.mem_of_getElem? e)
        by_cases z : j = i
        · simp [z] at hi
          rw [← hi]
          refine ⟨by rw [List.length_append]; exact Nat.succ_le_succ hy1, fun x hx => ?_⟩
          rcases List.mem_append.mp hx with m | m
          · exact hy2 x m
          · rw [List.mem_singleton.mp m]; exact hd
        · simp [z] at hi
          rw [← hi]
          exact ⟨Nat.le_succ_of_le hy1, hy2⟩
    rw [List.foldl_cons, List.length_cons, show n + (xs.length + 1) = (n + 1) + xs.length by omega]
    refine mk_small fl xs _ (n + 1) ?_
    obtain ⟨r, i⟩ := x
    cases r with
    | text t z f => exact fun m hm => ⟨Nat.le_succ_of_le (h m hm).1, (h m hm).2⟩
    | mark k => exact add _ _ _ (dn _ _) h
    | shown k t z f => exact add _ _ _ (dn _ _) h
theorem marks_small (rs : List RR) (boxes : List (List Ce)) : ∀ m ∈ marksF rs boxes, m.length ≤ rs.length ∧ ∀ d ∈ m, DN 1 d := by
  intro m hm
  have := mk_small (flF boxes) rs.zipIdx (List.replicate boxes.length [], 0) 0 (fun m hm => by
    rw [(List.mem_replicate.mp hm).2]
    exact ⟨Nat.le_refl _, fun d hd => by cases hd⟩) m hm
  rwa [List.length_zipIdx, Nat.zero_add] at this
theorem dn_pl (x : PL) : DN 1 (plD x) := .tup (by show (4 : Nat) ≤ 1000000; decide) fun d hd => by
  rcases List.mem_cons.mp hd with rfl | hd
  · exact .str _ _
  rcases List.mem_cons.mp hd with rfl | hd
  · exact .int _ _
  rcases List.mem_cons.mp hd with rfl | hd
  · exact .int _ _
  rw [List.mem_singleton.mp hd]; exact .str _ _
theorem dn_jt2 (j : Jt) : DN 3 (jtD j) := by
  cases j with
  | gap a b c =>
    refine .tup (by show (4 : Nat) ≤ 1000000; decide) fun d hd => ?_
    rcases List.mem_cons.mp hd with rfl | hd
    · exact .str _ _
    rcases List.mem_cons.mp hd with rfl | hd
    · exact .int _ _
    rcases List.mem_cons.mp hd with rfl | hd
    · exact .int _ _
    rw [List.mem_singleton.mp hd]; exact .int _ _
  | hyp a b c d f =>
    refine .tup (by show (4 : Nat) ≤ 1000000; decide) fun d hd => ?_
    rcases List.mem_cons.mp hd with rfl | hd
    · exact .str _ _
    rcases List.mem_cons.mp hd with rfl | hd
    · exact .int _ _
    rcases List.mem_cons.mp hd with rfl | hd
    · exact .int _ _
    rw [List.mem_singleton.mp hd]
    refine .tup (by show (4 : Nat) ≤ 1000000; decide) fun d hd => ?_
    rcases List.mem_cons.mp hd with rfl | hd
    · exact .str _ _
    rcases List.mem_cons.mp hd with rfl | hd
    · exact .int _ _
    rcases List.mem_cons.mp hd with rfl | hd
    · exact .int _ _
    rw [List.mem_singleton.mp hd]; exact .str _ _
theorem dn_bare (j : Jt) : DN 3 (bareJ j) := by
  cases j with
  | gap a b c => exact dn_jt2 (.gap a b c)
  | hyp a b c d f =>
    refine .tup (by show (3 : Nat) ≤ 1000000; decide) fun d hd => ?_
    rcases List.mem_cons.mp hd with rfl | hd
    · exact .str _ _
    rcases List.mem_cons.mp hd with rfl | hd
    · exact .int _ _
    rw [List.mem_singleton.mp hd]; exact .int _ _
def BxS (b : Bx) : Prop := b.2.1.length ≤ 10000 ∧ b.2.2.length ≤ 10000 ∧ ∀ d ∈ b.2.2, DN 1 d
theorem dn_piece {bx : List Bx} {js : List Jt} (h1 : bx.length ≤ 10000) (h2 : js.length ≤ 10000) (h3 : ∀ b ∈ bx, BxS b) : DN 7 (pieceT bx js) := by
  refine .tup (by show (2 : Nat) ≤ 1000000; decide) fun d hd => ?_
  rcases List.mem_cons.mp hd with rfl | hd
  · refine .tup (by rw [List.length_map]; omega) fun d hd => ?_
    obtain ⟨b, hb, rfl⟩ := List.mem_map.mp hd
    obtain ⟨g1, g2, g3⟩ := h3 b hb
    refine .tup (by show (3 : Nat) ≤ 1000000; decide) fun d hd => ?_
    rcases List.mem_cons.mp hd with rfl | hd
    · exact .int _ _
    rcases List.mem_cons.mp hd with rfl | hd
    · refine .tup (by rw [List.length_map]; omega) fun d hd => ?_
      obtain ⟨x, _, rfl⟩ := List.mem_map.mp hd
      exact (dn_pl x).up (by decide)
    · rw [List.mem_singleton.mp hd]
      exact .tup (by omega) fun d hd => (g3 d hd).up (by decide)
  · rw [List.mem_singleton.mp hd]
    refine .tup (by rw [List.length_map]; omega) fun d hd => ?_
    obtain ⟨j, _, rfl⟩ := List.mem_map.mp hd
    exact (dn_jt2 j).up (by decide)
theorem dn_row {bx : List Bx} (h1 : bx.length ≤ 10000) {n : Nat} : DN (n + 1) (.tup (bx.map fun b => .int b.1)) := .tup (by rw [List.length_map]; omega) fun d hd => by
  obtain ⟨b, _, rfl⟩ := List.mem_map.mp hd
  exact .int _ _
theorem dn_bareD {bx : List Bx} {js : List Jt} (h1 : bx.length ≤ 10000) (h2 : js.length ≤ 10000) : DN 7 (bareD bx js) := by
  refine .tup (by show (2 : Nat) ≤ 1000000; decide) fun d hd => ?_
  rcases List.mem_cons.mp hd with rfl | hd
  · exact dn_row h1
  · rw [List.mem_singleton.mp hd]
    refine .tup (by rw [List.length_map]; omega) fun d hd => ?_
    obtain ⟨j, _, rfl⟩ := List.mem_map.mp hd
    exact (dn_bare j).up (by decide)
theorem wid_mk {b1 b2 : List Bx} (h : b1.map mkB = b2.map mkB) : b1.map (fun b => Dt.int b.1) = b2.map (fun b => Dt.int b.1) := by
  have e : ∀ l : List Bx, l.map (fun b => Dt.int b.1) = (l.map mkB).map fun b => Dt.int b.1 := fun l => by rw [List.map_map] <;> rfl
  rw [e b1, e b2, h]
/-- all of one text's pieces -/
structure All1 (F : Fcs) (need : List Nat) (rs : List RR) : Prop where
  l : rs.length ≤ 100
  ok : ∀ r ∈ rs, RRok r
  inn : ∀ r ∈ rs, RRin need r
  sh : Shown rs
theorem All1.lets {F : Fcs} {need : List Nat} {rs : List RR} (h : All1 F need rs) : (K45.lets rs).length ≤ 10000 := by
  have := lets_len rs.zipIdx (fun x hx => h.ok _ (mem_zip hx))
  rw [List.length_zipIdx] at this
  exact Nat.le_trans this (by have := h.l; omega)
theorem All1.bl {F : Fcs} {need : List Nat} {rs : List RR} (h : All1 F need rs) : (bxs F rs).length ≤ 10000 := by
  unfold bxs
  rw [List.length_map, List.length_zip, marks_len, Nat.min_self]
  have h1 : (wordsF rs).ws.flatten.length ≤ (wordsF rs).ws.flatten.flatten.length := boxes_le (words_win rs).c
  rw [words_flat] at h1
  exact Nat.le_trans h1 h.lets
theorem All1.jl {F : Fcs} {need : List Nat} {rs : List RR} (h : All1 F need rs) : (jts F rs).length ≤ 10000 := by
  have h1 := (pc_ok (F := F) h.ok h.inn h.lets).1
  have h2 := h.bl
  omega
theorem All1.small {F : Fcs} {need : List Nat} {rs : List RR} (h : All1 F need rs) : ∀ b ∈ bxs F rs, BxS b := by
  intro b hb
  have h1 := ((pc_ok (F := F) h.ok h.inn h.lets).2.1 b hb).2.2.2
  unfold bxs at hb
  obtain ⟨x, hx, rfl⟩ := List.mem_map.mp hb
  have hm := marks_small rs (boxesF rs) x.2 (List.of_mem_zip hx).2
  exact ⟨h1, Nat.le_trans hm.1 (by have := h.l; omega), hm.2⟩
theorem All1.told {F : Fcs} {need : List Nat} {rs : List RR} (h : All1 F need rs) : toldF (bxs F rs) = (cellsF rs).filter (fun x => isL x.1) ∧ (toldF (bxs F rs)).length ≤ 10000 := by
  rw [told_eq, cells_eq]
  exact ⟨rfl, by rw [List.length_map]; exact h.lets⟩
def spLaw (K : PySem.W.Frag) : Sp := fun vs H Q _ => ∃ (a : Addr) (ns : List Int), vs = [.ref a] ∧ SqL K H a (ns.map V.int) ∧ ns.length ≤ 63 ∧ ∀ H' : Hp, Q (.bl true) H'
theorem lawok_by {P : Program} {w : World} {K : PySem.W.Frag} {mg : Str → Option Value} {base : Heap} {x : Str} {st : Stmt} {N ps : List Str} {k : Nat} {sp : Sp} (F : Df K mg x st) (S : FnScope N ps (defScope st))
    (len : ∀ vs H Q E, sp vs H Q E → vs.length = ps.length)
    (hbody : ∀ (f : Addr) (cdv : Value) (A : Around) (outer : List Env) (s : Shared) (H : Hp) (vs : List V) (Q : VK) (E : XK), Room k (A.deeper (envOfC x (defScope st) s.heap.objs.size f cdv)) → sp vs H Q E →
      ∃ t, PSs (cxOf C8.CX0 P w K mg base N x (defScope st) f cdv A outer s H E).nox (defBody st) t ∧ t { nx := fun _ H' => Q .non H', rt := Q } (start N vs) H) : ∃ (f : Addr) (fd : FuncData), FunD K x x (defArgs st) (defBody st) (defScope st) [] [] f fd ∧ mg x = some (.ref f) ∧ FnOk P w K mg base C8.CX0 (k + 1) f fd ps sp := by
  obtain ⟨f, fd, F, hm⟩ := F.ex
  refine ⟨f, fd, F, hm, F.ok S len (fun cdv A outer s H vs Q E hr hsp => ?_)⟩
  obtain ⟨t, h, q⟩ := hbody f cdv A outer s H vs Q E hr hsp
  exact ⟨t, h.nox, q⟩

end K45

set_option maxHeartbeats 4000000
namespace K45
open PySem PySem.Spec PyProof.Rows L2
section
variable {P : Program} {w : World} {K : PySem.W.Frag} {mg : Str → Option Value} {base : Heap}
abbrev s_law : Stmt := top 61
abbrev N_law : List Str := ["_law_script", "_law_pool_here", "_law_used", "_law_one", "_law_figs", "_law_signs", "_law_upright", "_law_heavy", "_law_runs", "_law_shown", "_law_houses", "_law_faces", "_law_told", "_law_texts", "_law_resolved_here", "_law_pieces", "_law_row", "_law_box"]
theorem sc_law : FnScope ["_law_script", "_law_pool_here", "_law_used", "_law_one", "_law_figs", "_law_signs", "_law_upright", "_law_heavy", "_law_runs", "_law_shown", "_law_houses", "_law_faces", "_law_told", "_law_texts", "_law_resolved_here", "_law_pieces", "_law_row", "_law_box"] ["_law_script"] (defScope s_law) := ⟨rfl, rfl, rfl, by decide +kernel, rfl, by decide +kernel, by decide +kernel⟩
theorem c_law (F : Df K mg "law" s_law) (G : Gn mg) {CS CI CF : Addr} (c__law_pool : C8.Cal P w K mg base 1 "_law_pool" (spPool K) []) (c__law_known : C8.Cal P w K mg base 3 "_law_known" spKnown []) (c__law_take : C8.Cal P w K mg base 1 "_law_take" spTake []) (c__law_figure_house : C8.Cal P w K mg base 4 "_law_figure_house" spFHouse []) (c__law_ref_runs : C8.Cal P w K mg base 4 "_law_ref_runs" spRruns []) (c__law_two_shown : C8.Cal P w K mg base 4 "_law_two_shown" spTwo []) (c__law_face : C8.Cal P w K mg base 10 "_law_face" (spFace K CF) []) (c__law_resolved : C8.Cal P w K mg base 1 "_law_resolved" spResol []) (c_shape : C8.Cal P w K mg base 4 "shape" spShape []) (c_measures_of : C8.Cal P w K mg base 6 "measures_of" (spMeas K CF) []) (c__law_letters_once : C8.Cal P w K mg base 9 "_law_letters_once" spLonce []) (c__law_figures_stand : C8.Cal P w K mg base 10 "_law_figures_stand" spFst []) (c__law_same : C8.Cal P w K mg base 8 "_law_same" spSame []) (c__law_masked : C8.Cal P w K mg base 1 "_law_masked" spMasked []) (c_bare : C8.Cal P w K mg base 1 "bare" spBare []) : ∃ (f : Addr) (fd : FuncData), FunD K "law" "law" (defArgs s_law) (defBody s_law) (defScope s_law) [] [] f fd ∧ mg "law" = some (.ref f) ∧ FnOk P w K mg base C8.CX0 11 f fd ["_law_script"] (spLaw K) := by
  refine lawok_by F sc_law (fun vs H Q E h => ?_) (fun f cdv A outer s H vs Q E hr h => ?_)
  · obtain ⟨a, ns, rfl, _⟩ := h
    rfl
  · obtain ⟨a, ns, rfl, hS, hnl, k⟩ := h
    have sc := sc_law
    refine ⟨_, (pss_cons (ps_set (i := 1) sc.nd rfl (Or.inl rfl) (C8.pe_c c__law_pool hr (by decide) rfl (pa_cons (pv 0) (pa_cons pe_int pa_nil))))
      (pss_cons (ps_set (i := 2) sc.nd rfl (Or.inl rfl) (C8.pe_c c__law_known hr (by decide) rfl (pa_cons (pv 1) pa_nil)))
      (pss_cons (ps_set (i := 3) sc.nd rfl (Or.inl rfl) (pe_ix ix_str pe_str (C8.pe_c c__law_take hr (by decide) rfl (pa_cons (pv 1) (pa_cons pe_int pa_nil))) (fun _ _ => rfl)))
      (pss_cons (ps_set (i := 4) sc.nd rfl (Or.inl rfl) (pe_op op_add_str (pv 3) (pe_ix ix_str pe_str (C8.pe_c c__law_take hr (by decide) rfl (pa_cons (pv 1) (pa_cons pe_int pa_nil))) (fun _ _ => rfl))))
      (pss_cons (ps_set (i := 5) sc.nd rfl (Or.inl rfl) (pe_op op_add_str (pe_op op_mul_str (pe_op op_add_str (pe_op op_mul_str (pv 2) pe_int) (pv 3)) pe_int) pe_str))
      (pss_cons (ps_set (i := 6) sc.nd rfl (Or.inl rfl) (C8.pe_c c__law_figure_house hr (by decide) rfl (pa_cons (pv 1) (pa_cons (pv 2) (pa_cons (pv 4) pa_nil)))))
      (pss_cons (ps_set (i := 7) sc.nd rfl (Or.inl rfl) (C8.pe_c c__law_figure_house hr (by decide) rfl (pa_cons (C8.pe_c c__law_pool hr (by decide) rfl (pa_cons (pv 0) (pa_cons pe_int pa_nil))) (pa_cons (pv 2) (pa_cons (pv 4) pa_nil)))))
      (pss_cons (ps_set (i := 8) sc.nd rfl (Or.inl rfl) (C8.pe_c c__law_ref_runs hr (by decide) rfl (pa_cons (C8.pe_c c__law_pool hr (by decide) rfl (pa_cons (pv 0) (pa_cons pe_int pa_nil))) (pa_cons (pv 5) pa_nil))))
      (pss_cons (ps_set (i := 9) sc.nd rfl (Or.inl rfl) (C8.pe_c c__law_two_shown hr (by decide) rfl (pa_cons (C8.pe_c c__law_pool hr (by decide) rfl (pa_cons (pv 0) (pa_cons pe_int pa_nil))) (pa_cons (pv 5) (pa_cons (pv 4) pa_nil)))))
      (pss_cons (ps_set (i := 10) sc.nd rfl (Or.inl rfl) (pe_disp (pps_cons pe_str (pv 6) (pps_cons pe_str (pv 7) pps_nil)) (by rfl) (by rfl) (fun z => by cases z) (by decide)))
      (pss_cons (ps_set (i := 11) sc.nd rfl (Or.inl rfl) (pe_disp (pps_cons pe_str (C8.pe_c c__law_face hr (by decide) rfl (pa_cons (pv 6) pa_nil)) (pps_cons pe_str (C8.pe_c c__law_face hr (by decide) rfl (pa_cons (pv 7) pa_nil)) pps_nil)) (by rfl) (by rfl) (fun z => by cases z) (by decide)))
      (pss_cons (ps_set (i := 12) sc.nd rfl (Or.inl rfl) (pe_lst pa_nil))
      (pss_cons (ps_for PassesOwn.never rfl (pi_list (pv 9)) (pg_name (i := 13) sc.nd rfl (Or.inl rfl))
        (pss_cons (ps_set (i := 14) sc.nd rfl (Or.inl rfl) (C8.pe_c c__law_resolved hr (by decide) rfl (pa_cons (pv 8) (pa_cons (pv 13) pa_nil))))
        (pss_cons (ps_set (i := 15) sc.nd rfl (Or.inl rfl) (C8.pe_c c_shape hr (by decide) rfl (pa_cons (pv 14) (pa_cons (C8.pe_c c_measures_of hr (by decide) rfl (pa_cons (pv 14) (pa_cons (pv 11) pa_nil))) pa_nil))))
        (pss_cons (ps_if (PW.pt (pw_or (pt_not (pt_val (C8.pe_c c__law_letters_once hr (by decide) rfl (pa_cons (pv 15) (pa_cons (pv 14) pa_nil))))) (pw_or1 (pt_not (pt_val (C8.pe_c c__law_figures_stand hr (by decide) rfl (pa_cons (pv 10) (pa_cons (pv 15) pa_nil))))))))
          (pss_one (ps_ret pe_bl))
          pss_nil)
        (pss_one (ps_expr (pe_bm PySem.F.plainAttrs_list PySem.F.slot_list_append PySem.F.type_list_append mt_append (pv 12) (pa_cons (pv 15) pa_nil))))))))
      (pss_cons (ps_if (pt_not (pt_val (C8.pe_c c__law_same hr (by decide) rfl (pa_cons (C8.pe_c c__law_masked hr (by decide) rfl (pa_cons (pe_ix ix_list (pv 12) pe_int (fun _ _ => rfl)) pa_nil)) (pa_cons (C8.pe_c c__law_masked hr (by decide) rfl (pa_cons (pe_ix ix_list (pv 12) pe_int (fun _ _ => rfl)) pa_nil)) pa_nil)))))
        (pss_one (ps_ret pe_bl))
        pss_nil)
      (pss_cons (ps_set (i := 16) sc.nd rfl (Or.inl rfl) (C8.pe_c c_bare hr (by decide) rfl (pa_cons (pe_ix ix_list (pv 12) pe_int (fun _ _ => rfl)) pa_nil)))
      (pss_cons (ps_if (PW.pt (pw_or (pt_not (pt_val (pe_callB call_isi rfl G.n_isinstance (by decide +kernel) (pa_cons (pv 16) (pa_cons (pe_bltn (v := .ty "tuple") rfl G.n_tuple (by decide +kernel) rfl) pa_nil))))) (pw_or (pt_cmpR op_ne (pe_callB call_len_seq rfl G.n_len (by decide +kernel) (pa_cons (pv 16) pa_nil)) pe_int (nomark _)) (pw_or1 (pt_not (pt_val (C8.pe_c c__law_same hr (by decide) rfl (pa_cons (C8.pe_c c_bare hr (by decide) rfl (pa_cons (pe_ix ix_list (pv 12) pe_int (fun _ _ => rfl)) pa_nil)) (pa_cons (pv 16) pa_nil)))))))))
        (pss_one (ps_ret pe_bl))
        pss_nil)
      (pss_one (ps_ret (C8.pe_c c__law_same hr (by decide) rfl (pa_cons (pe_ix ix_tup (pv 16) pe_int (fun _ _ => rfl)) (pa_cons (pe_callTy call_tuple_of rfl G.n_tuple (by decide +kernel) (pa_cons (pe_lc (own := [("_law_box", 17)])  rfl sc.nd (pi_tup (pe_ix ix_tup (pe_ix ix_list (pv 12) pe_int (fun _ _ => rfl)) pe_int (fun _ _ => rfl))) (blkOk_by (N := N_law) (sc := defScope s_law) (by decide +kernel)) (fun _ _ _ _ _ => (pg_name (i := 17) sc.nd rfl (Or.inl rfl))) (fun _ _ _ _ _ => pts_nil) (fun _ _ _ _ _ => (pe_ix ix_tupB (pv 17) pe_int (fun _ _ => rfl)))) pa_nil)) pa_nil))))))))))))))))))))), ?_⟩
    have hz := big
    have eF : Str.ofString "0123456789" = SX.S figL := by decide +kernel
    have hFl : figL.length = 10 := rfl
    have eFc : (Str.ofString "0123456789").cps.toList = figL := by decide +kernel
    -- the first pool
    refine ⟨_, rfl, a, ns, 0, rfl, hS, hnl, by decide, by decide, fun p H1 n_p f1 hp => ?_⟩
    have hS1 := f1.seq hS (by simp)
    refine ⟨_, rfl, p, _, rfl, hp, by omega, fun cs H2 hc1 hc2 hcs f2 hp => ?_⟩
    have fr : Fr [] H H2 := f1.t1 f2 (.inr n_p)
    refine ⟨_, rfl, _, _, _, rfl, hp, (by omega), (by omega), (by omega), fun r0 H3 r00 r01 f3 hp => ?_⟩
    have fr := fr.t1 f3 (.inr n_p)
    obtain ⟨j0, rfl⟩ := nat_of r00
    obtain ⟨c0, e0, m0⟩ := get_of (l := figL) (j := j0) (by omega)
    refine ⟨_, _, c0, rfl, rfl, (by show 10 ≤ sizeLine; omega), (by rw [eFc]; exact atI_nat e0), ?_⟩
    refine ⟨_, rfl, _, rfl, _, _, _, rfl, hp, (by omega), (by omega), (by omega), fun r1 H4 r10 r11 f4 hp => ?_⟩
    have fr := fr.t1 f4 (.inr n_p)
    obtain ⟨j1, rfl⟩ := nat_of r10
    obtain ⟨c1, e1, m1⟩ := get_of (l := figL) (j := j1) (by omega)
    refine ⟨_, _, c1, rfl, rfl, (by show 10 ≤ sizeLine; omega), (by rw [eFc]; exact atI_nat e1), _, _, rfl, rfl, (by show 1 + 1 ≤ sizeLine; omega), ?_⟩
    have ef : ch c0 ++ ch c1 = SX.S [c0, c1] := SX.S_cat [c0] [c1]
    rw [show (⟨#[c0]⟩ : Str) ++ ⟨#[c1]⟩ = SX.S [c0, c1] from ef]
    -- the signs
    have hcl : (SX.S cs).length = cs.length := SX.S_len cs
    have em1 : Txt.mul (SX.S cs) 3 = SX.S (List.replicate 3 cs).flatten := mul_S cs 3
    have l1 : (List.replicate 3 cs).flatten.length = 3 * cs.length := by simp [List.length_flatten]; omega
    refine ⟨_, rfl, _, _, rfl, rfl, mulOk_small (n := 3) (by omega) (by decide), ?_⟩
    rw [em1]
    have ec1 : SX.S (List.replicate 3 cs).flatten ++ ch c0 = SX.S ((List.replicate 3 cs).flatten ++ [c0]) := SX.S_cat _ [c0]
    refine ⟨_, rfl, _, _, rfl, rfl, (by show (SX.S _).length + 1 ≤ sizeLine; rw [SX.S_len]; omega), ?_⟩
    rw [show SX.S (List.replicate 3 cs).flatten ++ (⟨#[c0]⟩ : Str) = SX.S ((List.replicate 3 cs).flatten ++ [c0]) from ec1]
    generalize eR1 : (List.replicate 3 cs).flatten ++ [c0] = R1
    have l2 : R1.length = 3 * cs.length + 1 := by rw [← eR1, List.length_append, l1] <;> rfl
    have em2 : Txt.mul (SX.S R1) 3 = SX.S (List.replicate 3 R1).flatten := mul_S R1 3
    have l3 : (List.replicate 3 R1).flatten.length = 3 * R1.length := by simp [List.length_flatten]; omega
    refine ⟨_, _, rfl, rfl, mulOk_small (n := 3) (by rw [SX.S_len]; omega) (by decide), ?_⟩
    rw [em2]
    refine ⟨_, _, rfl, rfl, (by show (SX.S _).length + 10 ≤ sizeLine; rw [SX.S_len]; omega), ?_⟩
    have ec2 : SX.S (List.replicate 3 R1).flatten ++ Str.ofString "0123456789" = SX.S ((List.replicate 3 R1).flatten ++ figL) := by rw [eF, SX.S_cat]
    rw [ec2]
    generalize eSg : (List.replicate 3 R1).flatten ++ figL = Sg
    have lSg : Sg.length = 3 * R1.length + 10 := by rw [← eSg, List.length_append, l3] <;> rfl
    have hR1 : ∀ c ∈ R1, c ∈ cs ∨ c ∈ figL := fun c hc => by
      rw [← eR1] at hc
      rcases List.mem_append.mp hc with h | h
      · obtain ⟨l, hl, hcl⟩ := List.mem_flatten.mp h
        rw [(List.mem_replicate.mp hl).2] at hcl
        exact .inl hcl
      · rw [List.mem_singleton.mp h]; exact .inr m0
    have hSg0 : ∀ c ∈ Sg, c ∈ cs ∨ c ∈ figL := fun c hc => by
      rw [← eSg] at hc
      rcases List.mem_append.mp hc with h | h
      · obtain ⟨l, hl, hcl⟩ := List.mem_flatten.mp h
        rw [(List.mem_replicate.mp hl).2] at hcl
        exact hR1 c hcl
      · exact .inr h
    have hSg : ∀ c ∈ Sg, c ∈ figL ++ 45 :: cs ∧ isL c = true := fun c hc => by
      rcases hSg0 c hc with h | h
      · obtain ⟨_, g2, g3, _⟩ := rest_plain c (hcs c h)
        exact ⟨List.mem_append_right _ (List.mem_cons_of_mem _ h), by simp [isL, g2, g3]⟩
      · have key : ∀ c ∈ figL, isL c = true := by decide
        exact ⟨List.mem_append_left _ h, key c h⟩
    have hneed : ∀ c ∈ figL, c ∈ figL ++ 45 :: cs := fun c h => List.mem_append_left _ h
    have hneed2 : ∀ c ∈ figL ++ [45], c ∈ figL ++ 45 :: cs := fun c h => by
      rcases List.mem_append.mp h with h | h
      · exact hneed c h
      · rw [List.mem_singleton.mp h]; simp
    have h45 : 45 ∈ figL ++ 45 :: cs := by simp
    -- the upright house
    have hfs : ∀ c ∈ [c0, c1], c ∈ figL := fun c h => by
      rcases List.mem_cons.mp h with rfl | h
      · exact m0
      · rw [List.mem_singleton.mp h]; exact m1
    refine ⟨_, rfl, _, rfl, _, rfl, p, cs, [c0, c1], _, rfl, hp, by omega, hcs, hc2, hc1, rfl, hfs, fun hu' DU AU H5 hHU hTU _ f5 hp => ?_⟩
    have fr := fr.t1 f5 (.inr n_p)
    -- the heavy house
    refine ⟨_, rfl, a, ns, 1, rfl, fr.seq hS (by simp), hnl, by decide, by decide, fun p2 H6 n_p2 f6 hp2 => ?_⟩
    refine ⟨_, rfl, _, rfl, p2, cs, [c0, c1], _, rfl, hp2, by omega, hcs, hc2, hc1, rfl, hfs, fun hv' DV AV H7 hHV hTV _ f7 hp2 => ?_⟩
    have f57 : Fr [] H5 H7 := f6.t1 f7 (.inr n_p2)
    have hHU := hHU.k0 f57
    have hTU := hTU.mono f57.t
    have fr := fr.t0 f57
    -- the runs
    refine ⟨_, rfl, a, ns, 2, rfl, fr.seq hS (by simp), hnl, by decide, by decide, fun p3 H8 n_p3 f8 hp3 => ?_⟩
    refine ⟨_, rfl, p3, Sg, _, rfl, hp3, by omega, by omega, by omega, fun rv rs0 H9 hrv hrok hrl hrref f9 hp3 => ?_⟩
    have f79 : Fr [] H7 H9 := f8.t1 f9 (.inr n_p3)
    have hHU := hHU.k0 f79
    have hTU := hTU.mono f79.t
    have hHV := hHV.k0 f79
    have hTV := hTV.mono f79.t
    have fr := fr.t0 f79
    -- the texts shown
    refine ⟨_, rfl, a, ns, 3, rfl, fr.seq hS (by simp), hnl, by decide, by decide, fun p4 H10 n_p4 f10 hp4 => ?_⟩
    refine ⟨_, rfl, _, rfl, p4, Sg, [c0, c1], _, rfl, hp4, by omega, by omega, by omega, rfl, hfs, fun sl t1 t2 ns1 ms1 H11 n_sl h_sl h_t1 h_t2 hn3 hm3 hnw hmw hnm f11 hp4 => ?_⟩
    have f911 : Fr [] H9 H11 := f10.t1 f11 (.inr n_p4)
    have hHU := hHU.k0 f911
    have hTU := hTU.mono f911.t
    have hHV := hHV.k0 f911
    have hTV := hTV.mono f911.t
    have hrv := hrv.mono f911.t
    -- houses
    intro hd n_hd
    generalize eH_hd : upd H11 hd _ = H12
    have ev_hd : ∀ {M : List Addr}, Fr M H11 H12 := by intro M; rw [← eH_hd]; exact Fr.new n_hd
    have h_hd : H12 hd = some (.dK []) := by rw [← eH_hd]; exact upd_same
    clear eH_hd
    refine ⟨_, rfl, _, rfl, h_hd, [(Sum.inr "plain", .ref hu'), (Sum.inr "bold", .ref hv')], rfl, (by show (2 : Nat) ≤ 15; decide), ?_⟩
    have ph := Fr.put (o := .dK (mergeK [] [(Sum.inr "plain", .ref hu'), (Sum.inr "bold", .ref hv')])) h_hd
    have f1113 : Fr [] H11 _ := (ev_hd (M := [])).t1 ph (.inr n_hd)
    have h_hd13 : (upd H12 hd (.dK (mergeK [] [(Sum.inr "plain", .ref hu'), (Sum.inr "bold", .ref hv')]))) hd = some (.dK (mergeK [] [(Sum.inr "plain", .ref hu'), (Sum.inr "bold", .ref hv')])) := upd_same
    generalize upd H12 hd (.dK (mergeK [] [(Sum.inr "plain", .ref hu'), (Sum.inr "bold", .ref hv')])) = H13 at *
    have hHU := hHU.k0 f1113
    have hTU := hTU.mono f1113.t
    have hHV := hHV.k0 f1113
    have hTV := hTV.mono f1113.t
    have hrv := hrv.mono f1113.t
    have h_sl := f1113.k0 h_sl
    have h_t1 := f1113.k0 h_t1
    have h_t2 := f1113.k0 h_t2
    -- faces
    intro fd n_fd
    generalize eH_fd : upd H13 fd _ = H14
    have ev_fd : ∀ {M : List Addr}, Fr M H13 H14 := by intro M; rw [← eH_fd]; exact Fr.new n_fd
    have h_fd : H14 fd = some (.dK []) := by rw [← eH_fd]; exact upd_same
    clear eH_fd
    refine ⟨_, rfl, hu', DU, _, AU, rfl, hHU.k0 ev_fd, hTU.mono (ev_fd (M := [])).t, hneed2, fun ou FU XU H15 hFU n_ou eAU enU f15 => ?_⟩
    have f1315 : Fr [] H13 H15 := (ev_fd (M := [])).t0 f15
    refine ⟨_, rfl, hv', DV, _, AV, rfl, hHV.k0 f1315, hTV.mono f1315.t, hneed2, fun ov FV XV H16 hFV n_ov eAV enV f16 => ?_⟩
    have f1316 : Fr [] H13 H16 := f1315.t0 f16
    have h_fd16 := f16.k0 (f15.k0 h_fd)
    refine ⟨h_fd16, [(Sum.inr "plain", .ref ou), (Sum.inr "bold", .ref ov)], rfl, (by show (2 : Nat) ≤ 15; decide), ?_⟩
    have pf := Fr.put (o := .dK (mergeK [] [(Sum.inr "plain", .ref ou), (Sum.inr "bold", .ref ov)])) h_fd16
    have hFU := (hFU.k0 f16).k1 pf h_fd (ne_of_none h_fd n_ou).symm
    have hFV := hFV.k1 pf (f15.k0 h_fd) (ne_of_none (f15.k0 h_fd) n_ov).symm
    have f1317 : Fr [] H13 _ := f1316.t1 pf (.inr n_fd)
    have h_fd17 : (upd H16 fd (.dK (mergeK [] [(Sum.inr "plain", .ref ou), (Sum.inr "bold", .ref ov)]))) fd = some (.dK (mergeK [] [(Sum.inr "plain", .ref ou), (Sum.inr "bold", .ref ov)])) := upd_same
    generalize upd H16 fd (.dK (mergeK [] [(Sum.inr "plain", .ref ou), (Sum.inr "bold", .ref ov)])) = H17 at *
    have hHU := hHU.k0 f1317
    have hTU := hTU.mono f1317.t
    have hHV := hHV.k0 f1317
    have hTV := hTV.mono f1317.t
    have hrv := hrv.mono f1317.t
    have h_sl := f1317.k0 h_sl
    have h_t1 := f1317.k0 h_t1
    have h_t2 := f1317.k0 h_t2
    have h_hd17 := f1317.k0 h_hd13
    -- both faces as one function
    have enp : ¬ (Str.ofString "plain" = Str.ofString "bold") := by decide +kernel
    have enpk : ¬ ((Sum.inr (Str.ofString "plain") : L2.Key) = Sum.inr (Str.ofString "bold")) := fun z => enp (Sum.inr.inj z)
    obtain ⟨F, hFp, hFb, hFo⟩ : ∃ F : Fcs, F "plain" = FU ∧ F "bold" = FV ∧ FOk F := by
      refine ⟨fun f => if f = "bold" then FV else FU, if_neg enp, if_pos rfl, ⟨fun f c => ?_⟩⟩
      have key : ∀ (D : FaceD) (A : Nat → Int) (H : Hp) (kvs : List (L2.Key × V)) (need : List Nat), D.adv = A → TabOk H kvs need A → D.adv (mk c) = D.adv c := fun D A H kvs need e T => by
        rw [e]
        by_cases h : fig c = true
        · rw [mkFig h, T.fig c h]
        · rw [mk_no h]
      show (if f = "bold" then FV else FU).adv (mk c) = (if f = "bold" then FV else FU).adv c
      split
      · exact key FV AV _ _ _ eAV hTV
      · exact key FU AU _ _ _ eAU hTU
    have lk : ∀ (x y : Addr), valV (mergeK [] [(Sum.inr "plain", V.ref x), (Sum.inr "bold", V.ref y)]) (Sum.inr "plain") = some (.ref x) ∧ valV (mergeK [] [(Sum.inr "plain", V.ref x), (Sum.inr "bold", V.ref y)]) (Sum.inr "bold") = some (.ref y) := fun x y => by
      have e : mergeK [] [(Sum.inr "plain", V.ref x), (Sum.inr "bold", V.ref y)] = putK (putK ([] : List (L2.Key × V)) (Sum.inr "plain" : L2.Key) (V.ref x)) (Sum.inr "bold" : L2.Key) (V.ref y) := rfl
      rw [e]
      refine ⟨?_, by rw [valV_put, if_pos rfl]⟩
      rw [valV_put, if_neg enpk, valV_put, if_pos rfl]
    have hHs : HsAt H17 hd F (figL ++ 45 :: cs) := ⟨_, h_hd17, fun f hf => by
      rcases hf with rfl | rfl
      · exact ⟨hu', DU, (lk hu' hv').1, hHU, by rw [hFp, eAU]; exact hTU⟩
      · exact ⟨hv', DV, (lk hu' hv').2, hHV, by rw [hFb, eAV]; exact hTV⟩⟩
    have hFs : FacesAt H17 fd CF F (figL ++ 45 :: cs) := ⟨_, h_fd17, fun f hf => by
      rcases hf with rfl | rfl
      · exact ⟨ou, (lk ou ov).1, by rw [hFp]; exact ⟨_, _, hFU⟩, by rw [hFp, enU]; exact fun c h => h⟩
      · exact ⟨ov, (lk ou ov).2, by rw [hFb]; exact ⟨_, _, hFV⟩, by rw [hFb, enV]; exact fun c h => h⟩⟩
    clear hHU hTU hHV hTV hFU hFV
    -- the two texts
    have hrf : ∀ r z f, Run.ref r z f ∈ rs0 → 0 ≤ r ∧ r ≤ 2 := fun r z f h => ⟨(hrok _ h).1, (hrok _ h).2.1⟩
    have a1 : All1 F (figL ++ 45 :: cs) (rs0.map (resol1 ns1)) := by
      obtain ⟨g1, g2, g3⟩ := rr_facts hSg hneed hrok hnw hn3
      exact ⟨by rw [List.length_map]; omega, g1, g2, g3⟩
    have a2 : All1 F (figL ++ 45 :: cs) (rs0.map (resol1 ms1)) := by
      obtain ⟨g1, g2, g3⟩ := rr_facts hSg hneed hrok hmw hm3
      exact ⟨by rw [List.length_map]; omega, g1, g2, g3⟩
    have hmask := resol_masks hnm rs0
    have hfc : FOk F := hFo
    obtain ⟨mk1, mk2⟩ := masks hFo hmask
    refine ⟨(by show 0 ≤ sizeLine; omega), fun l n_l => ?_⟩
    have sll := ne_of_none h_sl n_l
    generalize eH_l : upd H17 l _ = H18
    have ev_l : ∀ {M : List Addr}, Fr M H17 H18 := by intro M; rw [← eH_l]; exact Fr.new n_l
    have h_l : H18 l = some (.lst []) := by rw [← eH_l]; exact upd_same
    clear eH_l
    have h_sl := (ev_l (M := [])).k0 h_sl
    -- one text
    have turn : ∀ (ts : List (List Nat)), True := fun _ => trivial
    refine ⟨_, rfl, sl, rfl, ⟨_, SqL.of h_sl⟩, for_list (xs := [V.ref t1, V.ref t2]) (fun i σ H' => ∃ (us : List V) (v13 v14 v15 : Option V), σ = [some (.ref a), some (.ref p), some (.str (SX.S cs)), some (.str ⟨#[c0]⟩), some (.str (SX.S [c0, c1])), some (.str (SX.S Sg)), some (.ref hu'), some (.ref hv'), some rv, some (.ref sl), some (.ref hd), some (.ref fd), some (.ref l), v13, v14, v15, none, none] ∧
      GrI l H17 H' (([rs0.map (resol1 ns1), rs0.map (resol1 ms1)].take i).map fun rs => pieceT (bxs F rs) (jts F rs)) us ∧ H' sl = some (.lst [.ref t1, .ref t2])) ?_ ?_ ?_ ?_⟩
    · exact ⟨[], _, _, _, rfl, ⟨h_l, .nil, ev_l, n_l⟩, h_sl⟩
    · rintro i σ H' _ ⟨us, v13, v14, v15, rfl, I, h_sl⟩
      exact SqL.of h_sl
    · rintro i x σ H19 hi ⟨us, v13, v14, v15, rfl, I, h_sl⟩
      have hc : ∃ (t : Addr) (ts : List (List Nat)), x = .ref t ∧ H17 t = some (.tup (ts.map SV)) ∧ ts.length = 3 ∧ [rs0.map (resol1 ns1), rs0.map (resol1 ms1)][i]? = some (rs0.map (resol1 ts)) ∧ All1 F (figL ++ 45 :: cs) (rs0.map (resol1 ts)) ∧ i ≤ 1 := by
        rcases i with _ | _ | i
        · cases hi
          exact ⟨t1, ns1, rfl, h_t1, hn3, rfl, a1, by decide⟩
        · cases hi
          exact ⟨t2, ms1, rfl, h_t2, hm3, rfl, a2, by decide⟩
        · simp at hi
      obtain ⟨t, ts, rfl, h_t, ht3, ers, aa, hi1⟩ := hc
      refine ⟨_, rfl, _, rfl, rv, t, rs0, ts, rfl, hrv.mono I.fr.t, I.fr.k0 h_t, ht3, by omega, hrf, fun u H20 hu20 f20 => ?_⟩
      have fr20 : Fr [] H17 H20 := I.fr.t0 f20
      generalize hRS : rs0.map (resol1 ts) = RS at *
      refine ⟨_, rfl, _, rfl, _, rfl, u, fd, RS, F, figL ++ 45 :: cs, rfl, hu20, aa.l, aa.ok, aa.inn, h45, hFs.k0 fr20, fun mv ds H21 hmv hds hm1 hm2 hdl f21 => ?_⟩
      refine ⟨u, mv, RS, ds, F, figL ++ 45 :: cs, rfl, hu20.mono f21.t, aa.l, aa.ok, aa.inn, aa.sh, hmv, hds, hm1, hm2, hdl, fun pv H22 hpv f22 => ?_⟩
      rw [pieces_eq] at hpv
      obtain ⟨g1, g2⟩ := aa.told
      have fr22 : Fr [] H20 H22 := f21.t0 f22
      refine ⟨_, rfl, _, rfl, pv, u, _, _, RS, rfl, hpv, hu20.mono fr22.t, aa.l, aa.ok, g1, g2, fun H23 f23 => ⟨_, rfl, _, rfl, _, rfl, hd, pv, _, _, F, figL ++ 45 :: cs, rfl, hHs.k0 ((fr20.t0 fr22).t0 f23), h45, hpv.mono f23.t, pc_ok aa.ok aa.inn aa.lets, aa.bl, fun H24 f24 => ⟨_, rfl, ?_⟩⟩⟩
      have f1924 : Fr [] H19 H24 := ((f20.t0 fr22).t0 f23).t0 f24
      have I := I.k0 f1924
      have h_sl := f1924.k0 h_sl
      have hul := I.len
      rw [List.length_map, List.length_take] at hul
      refine ⟨_, rfl, Or.inl ⟨rfl, _, SqL.of I.hl⟩, _, rfl, _, _, _, rfl, rfl, I.hl, by omega, us ++ [pv], _, _, _, rfl, ?_, (Fr.put I.hl).k1 h_sl sll⟩
      have e : ([rs0.map (resol1 ns1), rs0.map (resol1 ms1)].take (i + 1)).map (fun rs => pieceT (bxs F rs) (jts F rs)) = ([rs0.map (resol1 ns1), rs0.map (resol1 ms1)].take i).map (fun rs => pieceT (bxs F rs) (jts F rs)) ++ [pieceT (bxs F RS) (jts F RS)] := by
        rw [List.take_add_one, ers, List.map_append] <;> rfl
      rw [e]
      exact I.app (hpv.mono (f23.t0 f24).t)
    · rintro σ H19 ⟨us, v13, v14, v15, rfl, I, h_sl⟩
      have hT := I.t
      obtain ⟨x1, us', rfl, hx1, hT⟩ := hT.inv
      obtain ⟨x2, us'', rfl, hx2, hT⟩ := hT.inv
      cases hT.inv0
      have h_l := I.hl
      have s1 : ∀ b ∈ bxs F (rs0.map (resol1 ns1)), b.2.1.length ≤ 10000 := fun b hb => (a1.small b hb).1
      have s2 : ∀ b ∈ bxs F (rs0.map (resol1 ms1)), b.2.1.length ≤ 10000 := fun b hb => (a2.small b hb).1
      refine ⟨_, rfl, l, _, _, x1, rfl, rfl, SqL.of h_l, rfl, x1, _, _, rfl, hx1, a1.bl, s1, fun m1 H20 hm1 f20 => ?_⟩
      refine ⟨_, rfl, l, _, _, x2, rfl, rfl, SqL.of (f20.k0 h_l), rfl, x2, _, _, rfl, hx2.mono f20.t, a2.bl, s2, fun m2 H21 hm2 f21 => ?_⟩
      rw [← mk1, ← mk2] at hm2
      have dn1 : DN 7 (pieceT ((bxs F (rs0.map (resol1 ns1))).map mkB) (jts F (rs0.map (resol1 ns1)))) := dn_piece (by rw [List.length_map]; exact a1.bl) a1.jl fun b hb => by
        obtain ⟨c, hc, rfl⟩ := List.mem_map.mp hb
        obtain ⟨q1, q2, q3⟩ := a1.small c hc
        exact ⟨by show (c.2.1.map mkP).length ≤ 10000; rw [List.length_map]; exact q1, q2, q3⟩
      refine ⟨m1, m2, rfl, .inl ⟨_, hm1.mono f21.t, hm2, dn1, _, rfl, ?_⟩⟩
      have f2 : Fr [] H19 H21 := f20.t0 f21
      refine ⟨_, rfl, l, _, _, x1, rfl, rfl, SqL.of (f2.k0 h_l), rfl, x1, _, _, rfl, hx1.mono f2.t, a1.bl, a1.jl, fun b1 H22 hb1 f22 => ?_⟩
      have f3 : Fr [] H19 H22 := f2.t0 f22
      obtain ⟨q, vs, rfl, h_q, hvs⟩ := id hb1.inv
      obtain ⟨w1, r1', rfl, g1, hvs⟩ := hvs.inv
      obtain ⟨w2, r2', rfl, g2, hvs⟩ := hvs.inv
      cases hvs.inv0
      refine ⟨_, rfl, _, _, _, _, true, rfl, .ty "tuple", .base (.tup h_q), kit_ty (by decide +kernel), _, rfl, _, rfl, q, _, rfl, .inr (SqT.of h_q), rfl, _, rfl, ite2 (fun hc => absurd hc (by show ¬ (!decide (V.int ((2 : Nat) : Int) = V.int 2)) = true; decide)) (fun _ => ?_)⟩
      refine ⟨_, rfl, l, _, _, x2, rfl, rfl, SqL.of (f3.k0 h_l), rfl, x2, _, _, rfl, hx2.mono f3.t, a2.bl, a2.jl, fun b2 H23 hb2 f23 => ?_⟩
      have eb : bareD (bxs F (rs0.map (resol1 ms1))) (jts F (rs0.map (resol1 ms1))) = bareD (bxs F (rs0.map (resol1 ns1))) (jts F (rs0.map (resol1 ns1))) := by
        unfold bareD
        rw [wid_mk mk1, mk2]
      rw [eb] at hb2
      refine ⟨_, rfl, b2, .ref q, rfl, .inl ⟨_, hb2, hb1.mono f23.t, dn_bareD a1.bl a1.jl, _, rfl, ?_⟩⟩
      have f4 : Fr [] H19 H23 := f3.t0 f23
      obtain ⟨pp, pb, pj, us1, ws1, rfl, h_pp, h_pb, hus1, _⟩ := pc_inv (hx1.mono f4.t)
      refine ⟨_, rfl, q, _, _, _, rfl, rfl, SqT.of (f23.k0 h_q), rfl, _, rfl, l, _, _, V.ref pp, rfl, rfl, SqL.of (f4.k0 h_l), rfl, pp, _, _, _, rfl, rfl, SqT.of h_pp, rfl, pb, rfl, ⟨_, SqT.of h_pb⟩, fun D n_D => ?_⟩
      have hul : us1.length = (bxs F (rs0.map (resol1 ns1))).length := by rw [hus1.length, List.length_map]
      have hbl1 := a1.bl
      refine lc_tup (xs := us1) (fun i H' => ∃ ys : List V, GrI D H23 H' (((bxs F (rs0.map (resol1 ns1))).take i).map fun b => .int b.1) ys ∧ ys.length = i) ?_ ?_ ?_ ?_
      · exact ⟨[], ⟨upd_same, .nil, Fr.new n_D, n_D⟩, rfl⟩
      · rintro i H24 _ ⟨ys, J, hyl⟩
        exact SqT.of (J.fr.k0 h_pb)
      · rintro i x H24 hi ⟨ys, J, hyl⟩
        obtain ⟨d, hd, hx⟩ := hus1.get' hi
        rw [List.getElem?_map] at hd
        cases ebx : (bxs F (rs0.map (resol1 ns1)))[i]? with
        | none => rw [ebx] at hd; cases hd
        | some y =>
          rw [ebx] at hd
          cases hd
          have hil := (List.getElem?_eq_some_iff.mp ebx).1
          obtain ⟨qq, l2, m2', us2, ns2, rfl, hq, _⟩ := bx_inv (hx.mono J.fr.t)
          refine ⟨rfl, _, rfl, qq, _, _, _, rfl, rfl, SqT.of hq, rfl, _, J.hl, by omega, ys ++ [.int y.1], ?_, by rw [List.length_append, hyl] <;> rfl⟩
          have e : ((bxs F (rs0.map (resol1 ns1))).take (i + 1)).map (fun b => Dt.int b.1) = ((bxs F (rs0.map (resol1 ns1))).take i).map (fun b => Dt.int b.1) ++ [.int y.1] := by
            rw [List.take_add_one, ebx, List.map_append] <;> rfl
          rw [e]
          exact J.app (.int _)
      · rintro H24 ⟨ys, J, hyl⟩
        rw [List.take_of_length_le (by omega)] at J
        refine ⟨D, _, rfl, Or.inl ⟨SqL.of J.hl, fun q9 n_q9 => ?_⟩⟩
        have f := Fr.new (M := []) (o := .tup ys) n_q9
        exact ⟨w1, .ref q9, rfl, .inl ⟨.tup ((bxs F (rs0.map (resol1 ns1))).map fun b => .int b.1), ((g1.mono f23.t).mono J.fr.t).mono f.t, .tup upd_same (J.t.mono f.t), dn_row hbl1, k _⟩⟩
end

end K45

set_option maxHeartbeats 4000000
namespace K45
open PySem PySem.Spec PyProof.Rows L2
theorem getter {K : PySem.W.Frag} {d : He.DefD} {a : Addr} (e : atW K a = d.val) (c : atB K a d.qual = true) (hd : d.dfl = []) (hk : d.kwd = []) : ∃ fd, FunD K d.name d.qual d.params d.body d.scope [] [] a fd := by
  obtain ⟨kp, c2⟩ := He.ba c
  unfold atW at e
  cases q : K.lookup a with
  | none => rw [q] at c2; cases c2
  | some o =>
    obtain ⟨oc, od, dt, osl⟩ := o
    rw [q] at c2 e
    cases dt with
    | func fd =>
      obtain ⟨n1, n2, n3, n4, n5, n6, n7, n8, n9, n10, n11, n12, n13, n14, n15⟩ := fd
      have e2 : (some (n1, n2, n3, n4, n5, n6, n7, n15) : He.FnW) = some (d.name, d.qual, d.params, .stmts d.body, d.scope, mainGlobals, [], builtinsNs) := e
      simp only [Option.some.injEq, Prod.mk.injEq] at e2
      obtain ⟨h1, h2, h3, h4, h5, h6, h7, h8⟩ := e2
      subst h1 h2 h3 h4 h5 h6 h7 h8
      obtain ⟨k1, k2⟩ := He.ba (show (PySem.W.codeIn K n13 d.qual && (He.dflB K n8 [] && He.kwdB K n9 [])) = true from c2)
      obtain ⟨k3, k4⟩ := He.ba k2
      exact ⟨_, ⟨oc, od, n8, n9, n10, n11, n12, n13, n14, osl, rfl, q, k1, He.dflB_ok k3, He.kwdB_ok k4⟩, kp⟩
    | _ => cases c2
theorem prop_ok {K : PySem.W.Frag} (h : prB K = true) : PropOf K (He.ga K "Face") "space" (prA K) (gtA K) := by
  obtain ⟨h1, h⟩ := He.ba h
  obtain ⟨h2, h⟩ := He.ba h
  obtain ⟨h3, h4⟩ := He.ba h
  refine ⟨He.eqO_ok h1, He.eqO_ok h2, of_decide_eq_true h3, ?_⟩
  unfold gtA
  split at h4
  · rename_i g r e
    exact ⟨r, by rw [e]⟩
  · cases h4
theorem lawS {P : Program} {w : World} {K : PySem.W.Frag} {h : Heap} {mg : Str → Option Value} {base : Heap} (X : K.In h) (G : h.Ns mainGlobals mg) (c : obsS K = valS) :
    ∃ (f : Addr) (fd : FuncData), FunD K "law" "law" (defArgs s_law) (defBody s_law) (defScope s_law) [] [] f fd ∧ mg "law" = some (.ref f) ∧ FnOk P w K mg base C8.CX0 11 f fd ["_law_script"] (spLaw K) := by
  have cD : He.SaysD hfa hfn K := congrArg (fun z : AlS => z.1) c
  have c2 : (He.conB K "Face" "REQUIRED" (.str "0123456789-") && (prB K && atB K (gtA K) "Face.space")) = true := congrArg (fun z : AlS => z.2.1) c
  have c3 : atW K (gtA K) = dSp.val := congrArg (fun z : AlS => z.2.2) c
  obtain ⟨hcon, c4⟩ := He.ba c2
  obtain ⟨hpr, hat⟩ := He.ba c4
  obtain ⟨fd0, F0⟩ := cD.def_ 0 (d := dd_0) rfl
  obtain ⟨fd1, F1⟩ := cD.def_ 1 (d := dd_1) rfl
  obtain ⟨fd2, F2⟩ := cD.def_ 2 (d := dd_2) rfl
  obtain ⟨fd3, F3⟩ := cD.def_ 3 (d := dd_3) rfl
  obtain ⟨fd4, F4⟩ := cD.def_ 4 (d := dd_4) rfl
  obtain ⟨fd5, F5⟩ := cD.def_ 5 (d := dd_5) rfl
  obtain ⟨fd6, F6⟩ := cD.def_ 6 (d := dd_6) rfl
  obtain ⟨fd7, F7⟩ := cD.def_ 7 (d := dd_7) rfl
  obtain ⟨fd8, F8⟩ := cD.def_ 8 (d := dd_8) rfl
  obtain ⟨fd9, F9⟩ := cD.def_ 9 (d := dd_9) rfl
  obtain ⟨fd10, F10⟩ := cD.def_ 10 (d := dd_10) rfl
  obtain ⟨fd11, F11⟩ := cD.def_ 11 (d := dd_11) rfl
  obtain ⟨fd12, F12⟩ := cD.def_ 12 (d := dd_12) rfl
  obtain ⟨fd13, F13⟩ := cD.def_ 13 (d := dd_13) rfl
  obtain ⟨fd14, F14⟩ := cD.def_ 14 (d := dd_14) rfl
  obtain ⟨fd15, F15⟩ := cD.def_ 15 (d := dd_15) rfl
  obtain ⟨fd16, F16⟩ := cD.def_ 16 (d := dd_16) rfl
  obtain ⟨fd17, F17⟩ := cD.def_ 17 (d := dd_17) rfl
  obtain ⟨fd18, F18⟩ := cD.def_ 18 (d := dd_18) rfl
  obtain ⟨fd19, F19⟩ := cD.def_ 19 (d := dd_19) rfl
  obtain ⟨fd20, F20⟩ := cD.def_ 20 (d := dd_20) rfl
  obtain ⟨fd21, F21⟩ := cD.def_ 21 (d := dd_21) rfl
  obtain ⟨fd22, F22⟩ := cD.def_ 22 (d := dd_22) rfl
  obtain ⟨fd23, F23⟩ := cD.def_ 23 (d := dd_23) rfl
  obtain ⟨fd24, F24⟩ := cD.def_ 24 (d := dd_24) rfl
  obtain ⟨fd25, F25⟩ := cD.def_ 25 (d := dd_25) rfl
  obtain ⟨fd26, F26⟩ := cD.def_ 26 (d := dd_26) rfl
  obtain ⟨fd27, F27⟩ := cD.def_ 27 (d := dd_27) rfl
  obtain ⟨fd28, F28⟩ := cD.def_ 28 (d := dd_28) rfl
  obtain ⟨fd29, F29⟩ := cD.def_ 29 (d := dd_29) rfl
  obtain ⟨fd30, F30⟩ := cD.def_ 30 (d := dd_30) rfl
  obtain ⟨fd31, F31⟩ := cD.def_ 31 (d := dd_31) rfl
  obtain ⟨fd32, F32⟩ := cD.def_ 32 (d := dd_32) rfl
  obtain ⟨fd33, F33⟩ := cD.def_ 33 (d := dd_33) rfl
  obtain ⟨fd34, F34⟩ := cD.def_ 34 (d := dd_34) rfl
  obtain ⟨fd35, F35⟩ := cD.def_ 35 (d := dd_35) rfl
  obtain ⟨fd36, F36⟩ := cD.def_ 36 (d := dd_36) rfl
  obtain ⟨fd37, F37⟩ := cD.def_ 37 (d := dd_37) rfl
  obtain ⟨fd38, F38⟩ := cD.def_ 38 (d := dd_38) rfl
  obtain ⟨fd39, F39⟩ := cD.def_ 39 (d := dd_39) rfl
  obtain ⟨fd40, F40⟩ := cD.def_ 40 (d := dd_40) rfl
  obtain ⟨fd41, F41⟩ := cD.def_ 41 (d := dd_41) rfl
  obtain ⟨fd42, F42⟩ := cD.def_ 42 (d := dd_42) rfl
  obtain ⟨fd43, F43⟩ := cD.def_ 43 (d := dd_43) rfl
  obtain ⟨fd44, F44⟩ := cD.def_ 44 (d := dd_44) rfl
  obtain ⟨fd45, F45⟩ := cD.def_ 45 (d := dd_45) rfl
  obtain ⟨fd46, F46⟩ := cD.def_ 46 (d := dd_46) rfl
  obtain ⟨fd47, F47⟩ := cD.def_ 47 (d := dd_47) rfl
  obtain ⟨fd48, F48⟩ := cD.def_ 48 (d := dd_48) rfl
  obtain ⟨fd49, F49⟩ := cD.def_ 49 (d := dd_49) rfl
  obtain ⟨fd50, F50⟩ := cD.def_ 50 (d := dd_50) rfl
  obtain ⟨fd51, F51⟩ := cD.def_ 51 (d := dd_51) rfl
  obtain ⟨fd52, F52⟩ := cD.def_ 52 (d := dd_52) rfl
  obtain ⟨tF, eF⟩ := He.str_ok X G (cD.fact 59 (f := .str "FIGURES" "0123456789") rfl)
  have Gx : Gn mg := ⟨(He.free_ok X G (cD.fact 44 rfl)), (He.free_ok X G (cD.fact 45 rfl)), (He.free_ok X G (cD.fact 46 rfl)), (He.free_ok X G (cD.fact 47 rfl)), (He.free_ok X G (cD.fact 48 rfl)), (He.free_ok X G (cD.fact 49 rfl)), (He.free_ok X G (cD.fact 50 rfl)), (He.free_ok X G (cD.fact 51 rfl)), (He.free_ok X G (cD.fact 52 rfl)), (He.free_ok X G (cD.fact 53 rfl)), (He.free_ok X G (cD.fact 54 rfl)), (He.free_ok X G (cD.fact 55 rfl)), (He.free_ok X G (cD.fact 56 rfl)), (He.free_ok X G (cD.fact 57 rfl)), (He.free_ok X G (cD.fact 58 rfl)), ⟨_, eF, ⟨tF, rfl⟩⟩⟩
  have Tx : Ct K mg (He.ga K "Scale") (He.ga K "Ink") (He.ga K "Face") := ⟨(He.cls_ok (cD.fact 60 rfl)), (He.cls_ok (cD.fact 61 rfl)), (He.cls_ok (cD.fact 62 rfl)), (He.noat_ok (cD.fact 75 rfl)), (He.noat_ok (cD.fact 76 rfl)), (He.noat_ok (cD.fact 77 rfl)), (He.noat_ok (cD.fact 78 rfl)), (He.noat_ok (cD.fact 79 rfl)), (He.noat_ok (cD.fact 80 rfl)), (He.noat_ok (cD.fact 81 rfl)), (He.noat_ok (cD.fact 82 rfl)), (He.noat_ok (cD.fact 83 rfl)), (He.noat_ok (cD.fact 84 rfl)), (He.noat_ok (cD.fact 85 rfl)), (He.noat_ok (cD.fact 86 rfl)), (He.noat_ok (cD.fact 87 rfl)), (He.noat_ok (cD.fact 88 rfl)), (He.noat_ok (cD.fact 89 rfl)), (He.noat_ok (cD.fact 90 rfl)), (He.noat_ok (cD.fact 91 rfl)), He.conB_ok hcon⟩
  obtain ⟨fdS, FS⟩ := getter (d := dSp) c3 hat rfl rfl
  have Dsp : Dp1 K (He.ga K "Face") "space" "Face.space" s_fspace := ⟨_, _, _, FS, Tx.cF, prop_ok hpr⟩
  have h_Face_advance := m_adv (P := P) (w := w) (base := base) (⟨_, _, F49, (He.cls_ok (cD.fact 62 rfl)), (He.meth_ok (cD.fact 71 rfl))⟩ : Dm K (He.ga K "Face") "advance" "Face.advance" s_adv) Gx Tx 
  have h_Face_space := pp_face (P := P) (w := w) (base := base) Dsp Gx Tx
  have h_Ink___init__ := m_ink (P := P) (w := w) (base := base) (⟨_, _, F46, (He.mkr_ok (cD.fact 64 rfl)), (He.glo_ok X G (cD.fact 42 rfl))⟩ : Di K mg "Ink" "Ink.__init__" (He.ga K "Ink") s_ink) Gx Tx 
  have h_Ink_spans := m_spans (P := P) (w := w) (base := base) (⟨_, _, F47, (He.cls_ok (cD.fact 61 rfl)), (He.meth_ok (cD.fact 70 rfl))⟩ : Dm K (He.ga K "Ink") "spans" "Ink.spans" s_spans) Gx Tx 
  have h_Scale___init__ := m_scale (P := P) (w := w) (base := base) (⟨_, _, F41, (He.mkr_ok (cD.fact 63 rfl)), (He.glo_ok X G (cD.fact 41 rfl))⟩ : Di K mg "Scale" "Scale.__init__" (He.ga K "Scale") s_scale) Gx Tx 
  have h_Scale_gap_joint := m_gjoint (P := P) (w := w) (base := base) (⟨_, _, F45, (He.cls_ok (cD.fact 60 rfl)), (He.meth_ok (cD.fact 69 rfl))⟩ : Dm K (He.ga K "Scale") "gap_joint" "Scale.gap_joint" s_gjoint) Gx Tx 
  have h_Scale_letter_width := m_lwidth (P := P) (w := w) (base := base) (⟨_, _, F42, (He.cls_ok (cD.fact 60 rfl)), (He.meth_ok (cD.fact 66 rfl))⟩ : Dm K (He.ga K "Scale") "letter_width" "Scale.letter_width" s_lwidth) Gx Tx 
  have h_Scale_overlap := m_overlap (P := P) (w := w) (base := base) (⟨_, _, F43, (He.cls_ok (cD.fact 60 rfl)), (He.meth_ok (cD.fact 67 rfl))⟩ : Dm K (He.ga K "Scale") "overlap" "Scale.overlap" s_overlap) Gx Tx 
  have h__law_cells := c_cells (P := P) (w := w) (base := base) ⟨_, _, F15, (He.glo_ok X G (cD.fact 15 rfl))⟩ Gx 
  have h__law_masked := c_masked (P := P) (w := w) (base := base) ⟨_, _, F21, (He.glo_ok X G (cD.fact 21 rfl))⟩ Gx 
  have h__law_pool := c_pool (P := P) (w := w) (base := base) ⟨_, _, F1, (He.glo_ok X G (cD.fact 1 rfl))⟩ Gx 
  have h__law_resolved := c_resol (P := P) (w := w) (base := base) ⟨_, _, F14, (He.glo_ok X G (cD.fact 14 rfl))⟩ Gx 
  have h__law_take := c_take (P := P) (w := w) (base := base) ⟨_, _, F0, (He.glo_ok X G (cD.fact 0 rfl))⟩ Gx 
  have h__law_whole := c_whole (P := P) (w := w) (base := base) ⟨_, _, F16, (He.glo_ok X G (cD.fact 16 rfl))⟩ Gx 
  have h_bare := c_bare (P := P) (w := w) (base := base) ⟨_, _, F31, (He.glo_ok X G (cD.fact 31 rfl))⟩ Gx 
  have h_check_letters := c_check (P := P) (w := w) (base := base) ⟨_, _, F38, (He.glo_ok X G (cD.fact 38 rfl))⟩ Gx 
  have h_marks_of := c_marks (P := P) (w := w) (base := base) ⟨_, _, F29, (He.glo_ok X G (cD.fact 29 rfl))⟩ Gx 
  have h_sign := c_sign (P := P) (w := w) (base := base) ⟨_, _, F32, (He.glo_ok X G (cD.fact 32 rfl))⟩ Gx 
  have h_words_of := c_words (P := P) (w := w) (base := base) ⟨_, _, F24, (He.glo_ok X G (cD.fact 24 rfl))⟩ Gx 
  have h_Face_closest_gap := m_cgap (P := P) (w := w) (base := base) (⟨_, _, F50, (He.cls_ok (cD.fact 62 rfl)), (He.meth_ok (cD.fact 72 rfl))⟩ : Dm K (He.ga K "Face") "closest_gap" "Face.closest_gap" s_cgap) Gx Tx h_Face_advance
  have h_Scale_hyphen_joint := m_hjoint (P := P) (w := w) (base := base) (⟨_, _, F44, (He.cls_ok (cD.fact 60 rfl)), (He.meth_ok (cD.fact 68 rfl))⟩ : Dm K (He.ga K "Scale") "hyphen_joint" "Scale.hyphen_joint" s_hjoint) Gx Tx h_Scale_overlap
  have h__law_box_stands := c_bst (P := P) (w := w) (base := base) ⟨_, _, F19, (He.glo_ok X G (cD.fact 19 rfl))⟩ Gx h__law_whole
  have h__law_chars := c_chars (P := P) (w := w) (base := base) ⟨_, _, F2, (He.glo_ok X G (cD.fact 2 rfl))⟩ Gx h__law_take
  have h__law_glyph := c_glyph (P := P) (w := w) (base := base) ⟨_, _, F9, (He.glo_ok X G (cD.fact 9 rfl))⟩ Gx h__law_take
  have h__law_letter := c_letter (P := P) (w := w) (base := base) ⟨_, _, F3, (He.glo_ok X G (cD.fact 3 rfl))⟩ Gx h__law_take
  have h__law_pairs := c_pairs (P := P) (w := w) (base := base) ⟨_, _, F4, (He.glo_ok X G (cD.fact 4 rfl))⟩ Gx h__law_take
  have h_line_steps := c_lsteps (P := P) (w := w) (base := base) ⟨_, _, F33, (He.glo_ok X G (cD.fact 33 rfl))⟩ Gx h_sign
  have h_placed_letters := c_placed (P := P) (w := w) (base := base) (CS := He.ga K "Scale") (CI := He.ga K "Ink") (CF := He.ga K "Face") ⟨_, _, F27, (He.glo_ok X G (cD.fact 27 rfl))⟩ Gx h_Scale_overlap h_Scale_letter_width
  have h_row_ends := c_rends (P := P) (w := w) (base := base) (CS := He.ga K "Scale") (CI := He.ga K "Ink") (CF := He.ga K "Face") ⟨_, _, F40, (He.glo_ok X G (cD.fact 40 rfl))⟩ Gx h_Ink_spans
  have h_Face_wanted_amount := m_wanted (P := P) (w := w) (base := base) (⟨_, _, F51, (He.cls_ok (cD.fact 62 rfl)), (He.meth_ok (cD.fact 73 rfl))⟩ : Dm K (He.ga K "Face") "wanted_amount" "Face.wanted_amount" s_wanted) Gx Tx h_Face_closest_gap
  have h__law_house := c_house (P := P) (w := w) (base := base) ⟨_, _, F5, (He.glo_ok X G (cD.fact 5 rfl))⟩ Gx h__law_letter h__law_take h__law_pairs
  have h__law_known := c_known (P := P) (w := w) (base := base) ⟨_, _, F8, (He.glo_ok X G (cD.fact 8 rfl))⟩ Gx h__law_take h__law_chars
  have h__law_text_run := c_trun (P := P) (w := w) (base := base) ⟨_, _, F10, (He.glo_ok X G (cD.fact 10 rfl))⟩ Gx h__law_take h__law_glyph
  have h__law_word_text := c_wtext (P := P) (w := w) (base := base) ⟨_, _, F12, (He.glo_ok X G (cD.fact 12 rfl))⟩ Gx h__law_take h__law_glyph
  have h_joints_of := c_joints (P := P) (w := w) (base := base) (CS := He.ga K "Scale") (CI := He.ga K "Ink") (CF := He.ga K "Face") ⟨_, _, F28, (He.glo_ok X G (cD.fact 28 rfl))⟩ Gx h_Scale_gap_joint h_Scale_hyphen_joint
  have h_unit_steps := c_usteps (P := P) (w := w) (base := base) ⟨_, _, F34, (He.glo_ok X G (cD.fact 34 rfl))⟩ Gx h_line_steps h_sign
  have h_Face_nearer := m_near (P := P) (w := w) (base := base) (⟨_, _, F52, (He.cls_ok (cD.fact 62 rfl)), (He.meth_ok (cD.fact 74 rfl))⟩ : Dm K (He.ga K "Face") "nearer" "Face.nearer" s_near) Gx Tx h_Face_advance h_Face_wanted_amount
  have h__law_figure_house := c_fhouse (P := P) (w := w) (base := base) ⟨_, _, F6, (He.glo_ok X G (cD.fact 6 rfl))⟩ Gx h__law_house h__law_letter h__law_take
  have h__law_ref_runs := c_rruns (P := P) (w := w) (base := base) ⟨_, _, F11, (He.glo_ok X G (cD.fact 11 rfl))⟩ Gx h__law_take h__law_text_run
  have h__law_two_shown := c_two (P := P) (w := w) (base := base) ⟨_, _, F13, (He.glo_ok X G (cD.fact 13 rfl))⟩ Gx h__law_word_text h__law_take
  have h_corners := c_corners (P := P) (w := w) (base := base) ⟨_, _, F35, (He.glo_ok X G (cD.fact 35 rfl))⟩ Gx h_unit_steps
  have h_shape := c_shape (P := P) (w := w) (base := base) (CS := He.ga K "Scale") (CI := He.ga K "Ink") (CF := He.ga K "Face") ⟨_, _, F30, (He.glo_ok X G (cD.fact 30 rfl))⟩ Gx h_words_of h_Scale___init__ h_marks_of h_placed_letters h_joints_of
  have h_crossings_of := c_cross (P := P) (w := w) (base := base) ⟨_, _, F36, (He.glo_ok X G (cD.fact 36 rfl))⟩ Gx h_corners
  have h_word_measures := c_wmeas (P := P) (w := w) (base := base) (CS := He.ga K "Scale") (CI := He.ga K "Ink") (CF := He.ga K "Face") ⟨_, _, F25, (He.glo_ok X G (cD.fact 25 rfl))⟩ Gx h_Face_advance h_Face_nearer
  have h_ink_of := c_inkof (P := P) (w := w) (base := base) (CS := He.ga K "Scale") (CI := He.ga K "Ink") (CF := He.ga K "Face") ⟨_, _, F37, (He.glo_ok X G (cD.fact 37 rfl))⟩ Gx h_crossings_of h_Ink___init__
  have h_measures_of := c_meas (P := P) (w := w) (base := base) (CS := He.ga K "Scale") (CI := He.ga K "Ink") (CF := He.ga K "Face") ⟨_, _, F26, (He.glo_ok X G (cD.fact 26 rfl))⟩ Gx h_Face_space h_words_of h_word_measures
  have h_inks_of := c_inks (P := P) (w := w) (base := base) (CS := He.ga K "Scale") (CI := He.ga K "Ink") (CF := He.ga K "Face") ⟨_, _, F39, (He.glo_ok X G (cD.fact 39 rfl))⟩ Gx h_ink_of
  have h_MF := mF_face (P := P) (w := w) (base := base) (⟨_, _, F48, (He.mkr_ok (cD.fact 65 rfl)), (He.glo_ok X G (cD.fact 43 rfl))⟩ : DiF K mg (He.ga K "Face") s_finit) Gx Tx h_check_letters h_inks_of h_row_ends
  have h__law_same := c_same (P := P) (w := w) (base := base) ⟨_, _, F22, (He.glo_ok X G (cD.fact 22 rfl))⟩ Gx
  have h__law_joint_stands := c_jst (P := P) (w := w) (base := base) ⟨_, _, F18, (He.glo_ok X G (cD.fact 18 rfl))⟩ Gx h__law_same
  have h__law_letters_once := c_lonce (P := P) (w := w) (base := base) ⟨_, _, F17, (He.glo_ok X G (cD.fact 17 rfl))⟩ Gx h__law_same h__law_cells
  have h__law_face := c_face (P := P) (w := w) (base := base) (CS := He.ga K "Scale") (CI := He.ga K "Ink") (CF := He.ga K "Face") ⟨_, _, F7, (He.glo_ok X G (cD.fact 7 rfl))⟩ Gx h_MF 
  have h__law_figures_stand := c_fst (P := P) (w := w) (base := base) ⟨_, _, F20, (He.glo_ok X G (cD.fact 20 rfl))⟩ Gx h__law_box_stands h__law_joint_stands
  exact c_law (P := P) (w := w) (base := base) (CS := He.ga K "Scale") (CI := He.ga K "Ink") (CF := He.ga K "Face") ⟨_, _, F23, (He.glo_ok X G (cD.fact 23 rfl))⟩ Gx h__law_pool h__law_known h__law_take h__law_figure_house h__law_ref_runs h__law_two_shown h__law_face h__law_resolved h_shape h_measures_of h__law_letters_once h__law_figures_stand h__law_same h__law_masked h_bare

end K45

set_option maxHeartbeats 4000000
namespace K45
open PySem PySem.Spec PyProof.Rows L2
theorem map3 {α A B C : Type} {x : Option α} {a : α → A} {b : α → B} {c : α → C} {u : A} {v : B} {z : C} (h1 : x.map a = some u) (h2 : x.map b = some v) (h3 : x.map c = some z) : x.map (fun s => (a s, b s, c s)) = some (u, v, z) := by
  cases x with
  | none => cases h1
  | some s =>
    injection h1 with h1
    injection h2 with h2
    injection h3 with h3
    show some (a s, b s, c s) = _
    rw [h1, h2, h3]
theorem runS (w : World) : HandSHeadRun.RunEq RR45 (PySem.W.view RR45.prog [61]) hkS obS 9000 loose w := fun os => map3 (run1 w os) (run2 w os) (run3 w os)
end K45
open PySem PySem.W PySem.Calls PyProof.Rows
theorem PySem.Challenge.cw_stylepages_k45_whole_figures_do_not_move_holds : PySem.Challenge.rw_stylepages_k45_whole_figures_do_not_move.Holds := by
  w_on; o_law
  refine HandSHeadRun.head_any (r := OpenLaw.row PySem.Challenge.rw_stylepages_k45_whole_figures_do_not_move) (q := view (OpenLaw.row PySem.Challenge.rw_stylepages_k45_whole_figures_do_not_move).prog [61]) (H := K45.hkS) (ob := K45.obS) (M := 9000) (loose := K45.loose) (d := HandSHeadRun.topDef (OpenLaw.row PySem.Challenge.rw_stylepages_k45_whole_figures_do_not_move).prog 61) (kwd := []) K45.obS_eq
    (by kernel_rfl) (fun s => by kernel_rfl) K45.runS (by kernel_rfl) (by kernel_rfl) (by kernel_rfl) (by rfl) (by first | assumption | decide +kernel) (by decide +kernel) ⟨rfl, rfl, rfl, rfl, rfl, by decide +kernel⟩ ?hw ?hc
  case hw => w_witness2
  case hc =>
    refine L2.walk_ofE (l := PySem.Challenge.rw_stylepages_k45_whole_figures_do_not_move) (n := 63) (k := 11) (x := "_law_script") (CX := C8.CX0) rfl (by decide) (by kernel_rfl) ⟨rfl, by decide, by decide⟩ ?F (fun _ _ _ _ z => z)
    intro w mg fa h Y G hmg0
    obtain ⟨K, KX, c⟩ := Y
    have hmg : mg ("law" : PySem.Str) = some (.ref fa) := by
      have e : (HandSHeadRun.topDef (OpenLaw.row PySem.Challenge.rw_stylepages_k45_whole_figures_do_not_move).prog 61).name = ("law" : PySem.Str) := by kernel_rfl
      rw [← e]
      exact hmg0
    obtain ⟨f, fd, F, hm, _⟩ := K45.lawS (P := (PySem.Challenge.rw_stylepages_k45_whole_figures_do_not_move).prog) (w := w) (base := h) KX G c
    have ef := hmg.symm.trans hm
    cases ef
    have b := L2.FunD.bindsA (ps := ["_law_script"]) F fun _ _ _ _ _ _ us hl => match us, hl with | [_], _ => rfl
    refine ⟨K, fd, K45.spLaw K, KX, fun s v => b s [v] rfl, fun H a ns hl _ hS => ⟨a, ns, rfl, hS, hl, fun _ => rfl⟩, fun base hb hg => ?_⟩
    obtain ⟨f2, fd2, F2, hm2, ok2⟩ := K45.lawS (P := (PySem.Challenge.rw_stylepages_k45_whole_figures_do_not_move).prog) (w := w) (base := base) KX G c
    have ef2 := hmg.symm.trans hm2
    cases ef2
    obtain ⟨oc, od, dV, kV, doc, pm, an, cdv, ct, osl, _, lk, _⟩ := F.ex
    obtain ⟨oc2, od2, dV2, kV2, doc2, pm2, an2, cdv2, ct2, osl2, _, lk2, _⟩ := F2.ex
    have eo := Option.some.inj (lk.symm.trans lk2)
    injection eo with _ _ e3 _
    injection e3 with e3
    rw [e3]
    exact ok2
namespace K45

end K45

