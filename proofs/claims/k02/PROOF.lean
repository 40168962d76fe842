import PyProof.Rows.All
import Wide.All
import OpenK.AllK
import Wide.FinOn
import HandS.ForMost
import HandS.Codes
import HandS.Strs
import HandS.Walk
import HandS.Zip
import HandS.Star
import KE.GoesEnum
import PySem.Challenge.RW_drawnwhole_k02_whole_expressions_put_in
set_option Elab.async false
set_option linter.all false
set_option maxRecDepth 100000
set_option maxHeartbeats 4000000
/-! The plain law: expressions, their values, putting in, the words in another order. No program here. -/
namespace K2
open PySem

/-- expressions [3] -/
inductive Ex where
  | word (w : Str)
  | name (n : Str)
  | map (r : List Str) (e : Ex)
  | pair (t : List (List Str)) (e f : Ex)

/-- the first place of a word -/
def ix (w : Str) : List Str → Nat
  | [] => 0
  | x :: r => if x = w then 0 else ix w r + 1
theorem ix_get : ∀ {ws : List Str} {w : Str}, w ∈ ws → ws[ix w ws]? = some w
  | [], _, h => by simp at h
  | x :: r, w, h => by
    unfold ix
    by_cases e : x = w
    · rw [if_pos e, e]; rfl
    · rw [if_neg e, List.getElem?_cons_succ]
      exact ix_get ((List.mem_cons.mp h).resolve_left fun z => e z.symm)
theorem ix_lt {ws : List Str} {w : Str} (h : w ∈ ws) : ix w ws < ws.length := (List.getElem?_eq_some_iff.mp (ix_get h)).1
theorem ix_first : ∀ {ws : List Str} {w : Str} {m : Nat}, m < ix w ws → ws[m]? ≠ some w
  | [], _, _, h => by simp [ix] at h
  | x :: r, w, m, h => by
    unfold ix at h
    by_cases e : x = w
    · rw [if_pos e] at h; omega
    · rw [if_neg e] at h
      cases m with
      | zero => intro z; exact e (Option.some.inj z)
      | succ m => rw [List.getElem?_cons_succ]; exact ix_first (by omega)

/-- a row's word at a word -/
def at1 (ws : List Str) (r : List Str) (w : Str) : Str := r.getD (ix w ws) Str.empty
def at2 (ws : List Str) (t : List (List Str)) (w : Str) : List Str := t.getD (ix w ws) []
def RowOk (ws r : List Str) : Prop := r.length = ws.length ∧ ∀ x ∈ r, x ∈ ws
def TabOk (ws : List Str) (t : List (List Str)) : Prop := t.length = ws.length ∧ ∀ r ∈ t, RowOk ws r
theorem at1_get {ws r : List Str} {w : Str} (h : r.length = ws.length) (hw : w ∈ ws) : r[ix w ws]? = some (at1 ws r w) := by
  have hl := ix_lt hw
  have hl' : ix w ws < r.length := by omega
  unfold at1
  rw [List.getD_eq_getElem?_getD, List.getElem?_eq_getElem hl']
  rfl
theorem at2_get {ws : List Str} {t : List (List Str)} {w : Str} (h : t.length = ws.length) (hw : w ∈ ws) : t[ix w ws]? = some (at2 ws t w) := by
  have hl := ix_lt hw
  have hl' : ix w ws < t.length := by omega
  unfold at2
  rw [List.getD_eq_getElem?_getD, List.getElem?_eq_getElem hl']
  rfl
theorem at1_mem {ws r : List Str} {w : Str} (h : RowOk ws r) (hw : w ∈ ws) : at1 ws r w ∈ ws := h.2 _ (List.mem_of_getElem? (at1_get h.1 hw))
theorem at2_ok {ws : List Str} {t : List (List Str)} {w : Str} (h : TabOk ws t) (hw : w ∈ ws) : RowOk ws (at2 ws t w) := h.2 _ (List.mem_of_getElem? (at2_get h.1 hw))

def Ex.ev (ws : List Str) (s : Str → Str) : Ex → Str
  | .word w => w
  | .name n => s n
  | .map r e => at1 ws r (e.ev ws s)
  | .pair t e f => at1 ws (at2 ws t (e.ev ws s)) (f.ev ws s)
def Ex.Ok (ws ns : List Str) : Ex → Prop
  | .word w => w ∈ ws
  | .name n => n ∈ ns
  | .map r e => RowOk ws r ∧ e.Ok ws ns
  | .pair t e f => TabOk ws t ∧ e.Ok ws ns ∧ f.Ok ws ns
def Ex.deep : Ex → Nat
  | .word _ => 1
  | .name _ => 1
  | .map _ e => 1 + e.deep
  | .pair _ e f => 1 + max e.deep f.deep
def Ex.used : Ex → List Str
  | .word _ => []
  | .name n => [n]
  | .map _ e => e.used
  | .pair _ e f => e.used ++ f.used
def Ex.put (n : Str) (o : Ex) : Ex → Ex
  | .word w => .word w
  | .name m => if m = n then o else .name m
  | .map r e => .map r (Ex.put n o e)
  | .pair t e f => .pair t (Ex.put n o e) (Ex.put n o f)
theorem deep_pos : ∀ e : Ex, 1 ≤ e.deep
  | .word _ => Nat.le_refl _
  | .name _ => Nat.le_refl _
  | .map _ e => Nat.le_add_right _ _
  | .pair _ e f => Nat.le_add_right _ _
theorem ev_mem {ws ns : List Str} {s : Str → Str} (hs : ∀ n ∈ ns, s n ∈ ws) : ∀ {e : Ex}, e.Ok ws ns → e.ev ws s ∈ ws
  | .word _, h => h
  | .name _, h => hs _ h
  | .map _ _, h => at1_mem h.1 (ev_mem hs h.2)
  | .pair _ _ _, h => at1_mem (at2_ok h.1 (ev_mem hs h.2.1)) (ev_mem hs h.2.2)
theorem ev_put {ws : List Str} {s : Str → Str} {n : Str} {o : Ex} : ∀ e : Ex, (Ex.put n o e).ev ws s = e.ev ws (fun m => if m = n then o.ev ws s else s m)
  | .word _ => rfl
  | .name m => by
    show (if m = n then o else Ex.name m).ev ws s = (if m = n then o.ev ws s else s m)
    by_cases h : m = n
    · rw [if_pos h, if_pos h]
    · rw [if_neg h, if_neg h]; rfl
  | .map r e => by
    show at1 ws r _ = at1 ws r _
    rw [ev_put e]
  | .pair t e f => by
    show at1 ws (at2 ws t _) _ = at1 ws (at2 ws t _) _
    rw [ev_put e, ev_put f]
theorem put_ok {ws ns : List Str} {n : Str} {o : Ex} (ho : o.Ok ws ns) : ∀ {e : Ex}, e.Ok ws ns → (Ex.put n o e).Ok ws ns
  | .word _, h => h
  | .name m, h => by
    show (if m = n then o else Ex.name m).Ok ws ns
    by_cases q : m = n
    · rw [if_pos q]; exact ho
    · rw [if_neg q]; exact h
  | .map _ _, h => ⟨h.1, put_ok ho h.2⟩
  | .pair _ _ _, h => ⟨h.1, put_ok ho h.2.1, put_ok ho h.2.2⟩
theorem put_deep {n : Str} {o : Ex} {k : Nat} (hk : o.deep ≤ k + 1) : ∀ e : Ex, (Ex.put n o e).deep ≤ e.deep + k
  | .word _ => Nat.le_add_right _ _
  | .name m => by
    show (if m = n then o else Ex.name m).deep ≤ 1 + k
    by_cases q : m = n
    · rw [if_pos q]; omega
    · rw [if_neg q]; exact Nat.le_add_right _ _
  | .map r e => by
    have := put_deep (n := n) hk e
    show 1 + (Ex.put n o e).deep ≤ 1 + e.deep + k
    omega
  | .pair t e f => by
    have := put_deep (n := n) hk e
    have := put_deep (n := n) hk f
    show 1 + max (Ex.put n o e).deep (Ex.put n o f).deep ≤ 1 + max e.deep f.deep + k
    omega
theorem used_ok {ws ns : List Str} : ∀ {e : Ex}, e.Ok ws ns → ∀ u ∈ e.used, u ∈ ns
  | .word _, _, u, hu => by simp [Ex.used] at hu
  | .name n, h, u, hu => by
    have : u = n := by simpa [Ex.used] using hu
    rw [this]; exact h
  | .map _ _, h, u, hu => used_ok h.2 u hu
  | .pair _ _ _, h, u, hu => (List.mem_append.mp hu).elim (used_ok h.2.1 u) (used_ok h.2.2 u)
theorem used_len : ∀ e : Ex, e.used.length ≤ 2 ^ e.deep
  | .word _ => Nat.zero_le _
  | .name n => by show 1 ≤ 2 ^ 1; decide
  | .map _ e => by
    have := used_len e
    show e.used.length ≤ 2 ^ (1 + e.deep)
    rw [Nat.pow_add]
    omega
  | .pair _ e f => by
    have h1 := used_len e
    have h2 := used_len f
    have h3 : 2 ^ e.deep ≤ 2 ^ (max e.deep f.deep) := Nat.pow_le_pow_right (by decide) (Nat.le_max_left _ _)
    have h4 : 2 ^ f.deep ≤ 2 ^ (max e.deep f.deep) := Nat.pow_le_pow_right (by decide) (Nat.le_max_right _ _)
    show (e.used ++ f.used).length ≤ 2 ^ (1 + max e.deep f.deep)
    rw [Nat.pow_add, List.length_append]
    omega

/-! ### the words in another order -/
def mrow (ws os r : List Str) : List Str := os.map (at1 ws r)
def mtab (ws os : List Str) (t : List (List Str)) : List (List Str) := os.map (at2 ws (t.map (mrow ws os)))
def Ex.mv (ws os : List Str) : Ex → Ex
  | .word w => .word w
  | .name n => .name n
  | .map r e => .map (mrow ws os r) (e.mv ws os)
  | .pair t e f => .pair (mtab ws os t) (e.mv ws os) (f.mv ws os)
theorem mv_deep {ws os : List Str} : ∀ e : Ex, (e.mv ws os).deep = e.deep
  | .word _ => rfl
  | .name _ => rfl
  | .map r e => by show 1 + (e.mv ws os).deep = _; rw [mv_deep e]; rfl
  | .pair t e f => by show 1 + max (e.mv ws os).deep (f.mv ws os).deep = _; rw [mv_deep e, mv_deep f]; rfl
theorem at1_map {os : List Str} {g : Str → Str} {w : Str} (h : w ∈ os) : at1 os (os.map g) w = g w := by
  unfold at1
  rw [List.getD_eq_getElem?_getD, List.getElem?_map, ix_get h]
  rfl
theorem at2_map {os : List Str} {g : Str → List Str} {w : Str} (h : w ∈ os) : at2 os (os.map g) w = g w := by
  unfold at2
  rw [List.getD_eq_getElem?_getD, List.getElem?_map, ix_get h]
  rfl
theorem at2_mapl {ws : List Str} {t : List (List Str)} {g : List Str → List Str} {w : Str} (h : t.length = ws.length) (hw : w ∈ ws) : at2 ws (t.map g) w = g (at2 ws t w) := by
  have q := at2_get h hw
  unfold at2
  rw [List.getD_eq_getElem?_getD, List.getElem?_map, q]
  rfl
/-- the words in another order: the same words -/
def Turned (ws os : List Str) : Prop := os.length = ws.length ∧ os.Nodup ∧ ∀ w, w ∈ os ↔ w ∈ ws
theorem mrow_ok {ws os r : List Str} (T : Turned ws os) (h : RowOk ws r) : RowOk os (mrow ws os r) := by
  refine ⟨by unfold mrow; rw [List.length_map], fun x hx => ?_⟩
  obtain ⟨w, hw, rfl⟩ := List.mem_map.mp hx
  exact (T.2.2 _).mpr (at1_mem h ((T.2.2 _).mp hw))
theorem mtab_ok {ws os : List Str} {t : List (List Str)} (T : Turned ws os) (h : TabOk ws t) : TabOk os (mtab ws os t) := by
  refine ⟨by unfold mtab; rw [List.length_map], fun x hx => ?_⟩
  obtain ⟨w, hw, rfl⟩ := List.mem_map.mp hx
  rw [at2_mapl h.1 ((T.2.2 _).mp hw)]
  exact mrow_ok T (at2_ok h ((T.2.2 _).mp hw))
theorem mv_ok {ws os ns : List Str} (T : Turned ws os) : ∀ {e : Ex}, e.Ok ws ns → (e.mv ws os).Ok os ns
  | .word _, h => (T.2.2 _).mpr h
  | .name _, h => h
  | .map _ _, h => ⟨mrow_ok T h.1, mv_ok T h.2⟩
  | .pair _ _ _, h => ⟨mtab_ok T h.1, mv_ok T h.2.1, mv_ok T h.2.2⟩
theorem ev_mv {ws os ns : List Str} {s : Str → Str} (T : Turned ws os) (hs : ∀ n ∈ ns, s n ∈ ws) : ∀ {e : Ex}, e.Ok ws ns → (e.mv ws os).ev os s = e.ev ws s
  | .word _, _ => rfl
  | .name _, _ => rfl
  | .map r e, h => by
    show at1 os (mrow ws os r) ((e.mv ws os).ev os s) = at1 ws r (e.ev ws s)
    rw [ev_mv T hs h.2]
    exact at1_map ((T.2.2 _).mpr (ev_mem hs h.2))
  | .pair t e f, h => by
    show at1 os (at2 os (mtab ws os t) ((e.mv ws os).ev os s)) ((f.mv ws os).ev os s) = at1 ws (at2 ws t (e.ev ws s)) (f.ev ws s)
    rw [ev_mv T hs h.2.1, ev_mv T hs h.2.2]
    unfold mtab
    rw [at2_map ((T.2.2 _).mpr (ev_mem hs h.2.1)), at2_mapl h.1.1 (ev_mem hs h.2.1)]
    exact at1_map ((T.2.2 _).mpr (ev_mem hs h.2.2))
end K2
namespace K2
open PySem PySem.Spec PyProof.Rows L2
def top (i : Nat) : Stmt := PySem.Challenge.pw_drawnwhole_k02_whole_expressions_put_in.main.body.getD i (.Pass ⟨0, 0, 0, 0⟩)

/-! ### defs of the text, and what they promise -/
structure TD (K : PySem.W.Frag) (mg : Str → Option Value) (x : Str) (st : Stmt) (ps : List Str) : Prop where
  ex : ∃ (f : Addr) (fd : FuncData), Fun K x x st f fd ∧ mg x = some (.ref f) ∧ Binds K fd ps []
structure Has (P : Program) (w : World) (K : PySem.W.Frag) (mg : Str → Option Value) (base : Heap) (x : Str) (k : Nat) (ps : List Str) (sp : Sp) : Prop where
  ex : ∃ (f : Addr) (fd : FuncData), FnOk P w K mg base CX0 k f fd ps sp ∧ PySem.W.keepIn K (.ref f) = true ∧ Binds K fd ps [] ∧ mg x = some (.ref f)
section
variable {P : Program} {w : World} {K : PySem.W.Frag} {mg : Str → Option Value} {base : Heap}
theorem TD.has {x : Str} {st : Stmt} {ps N : List Str} {k : Nat} {sp : Sp} (D : TD K mg x st ps) (S : FnScope N ps (defScope st)) (len : ∀ vs H Q E, sp vs H Q E → vs.length = ps.length)
    (hbody : ∀ (f : Addr) (cdv : Value) (A : Around) (outer : List Env) (s : Shared) (H : Hp) (vs : List V) (Q : VK) (E : XK), Room k (A.deeper (envOfC x (defScope st) s.heap.objs.size f cdv)) → sp vs H Q E →
      ∃ t, PSs (cxOf CX0 P w K mg base N x (defScope st) f cdv A outer s H E).nox (defBody st) t ∧ t { nx := fun _ H' => Q .non H', rt := Q } (start N vs) H) : Has P w K mg base x (k + 1) ps sp := by
  obtain ⟨f, fd, F, m, b⟩ := D.ex
  exact ⟨f, fd, F.ok S len (hbody f), F.kp, b, m⟩
theorem Has.mono {x : Str} {j k : Nat} {ps : List Str} {sp : Sp} (h : Has P w K mg base x j ps sp) (hk : j ≤ k) : Has P w K mg base x k ps sp := by
  obtain ⟨f, fd, F, a, b, c⟩ := h.ex
  exact ⟨f, fd, F.mono hk, a, b, c⟩
theorem Has.none {x : Str} {st : Stmt} {ps : List Str} {sp : Sp} (D : TD K mg x st ps) (no : ∀ vs H Q E, ¬ sp vs H Q E) : Has P w K mg base x 0 ps sp := by
  obtain ⟨f, fd, F, m, b⟩ := D.ex
  exact ⟨f, fd, ⟨fun vs H Q E h => absurd h (no vs H Q E), fun A outer s H args us vs Q E _ _ _ _ h => absurd h (no vs H Q E)⟩, F.kp, b, m⟩
end
theorem pcall {X : Cx} {x : Str} {j k : Nat} {ps : List Str} {sp : Sp} {p pos : Pos} {e : Expr} {es : List Expr} {t : TA} (h : Has X.prog X.w X.K X.mg X.base x k ps sp) (hr : Room j X.A) (hkj : k ≤ j) (ha : PA X (e :: es) t) (hg : Gl X x := by rfl)
    (hdb : (x == ("__debug__" : Str)) = false := by decide) (he : starEach (e :: es) X.env = (false, eval e X.env) :: starEach es X.env := by rfl) (hpl : (backTo pos (starEach es X.env)).any (·.1) = false := by rfl) :
    PE X (.Call (.Name x p) (e :: es) [] pos) (tCall sp [] E0 t) := by
  obtain ⟨f, fd, F, kp, b, m⟩ := h.ex
  exact pe_call (F.mono hkj) hr hg m kp b .nil pass0 ha hdb he hpl
/-- an expression, a test, that is never reached -/
def tNo : TE := fun _ _ _ => False
theorem pe_no {X : Cx} {e : Expr} : PE X e tNo := ⟨fun _ _ _ _ _ _ h => h.elim⟩
def tNoT : TT := fun _ _ _ => False
theorem pt_no {X : Cx} {e : Expr} : PT X e tNoT := ⟨fun _ _ _ _ _ _ h => h.elim⟩
theorem pw_no {X : Cx} {e : Expr} : PW X e tNoT := ⟨fun _ _ _ _ _ _ _ h => h.elim⟩

/-! ### rules that name K (for blocks of comprehensions) -/
def rLenK (K : PySem.W.Frag) : List V → Hp → VK → Prop := fun xs H Q => ∃ p ys, xs = [.ref p] ∧ (SqL K H p ys ∨ SqT K H p ys) ∧ Q (.int ys.length) H
theorem call_lenK (K : PySem.W.Frag) {X : Cx} (h : X.K = K := by rfl) : CallR X (.builtin "len") (rLenK K) := by
  subst h
  exact call_len_seq
theorem ix_tupK (K : PySem.W.Frag) {X : Cx} (h : X.K = K := by rfl) : IxR X (rIxT K) := by
  subst h
  exact ix_tup
theorem ix_listK (K : PySem.W.Frag) {X : Cx} (h : X.K = K := by rfl) : IxR X (rIxL K) := by
  subst h
  exact ix_list

theorem szl {n : Nat} (h : n ≤ 100) : n ≤ sizeLine := Nat.le_trans h (by decide)
/-! ### heaps -/
/-- all but the objects at l is as it was -/
def But (l : List Addr) (H H' : Hp) : Prop := ∀ a o, H a = some o → a ∉ l → H' a = some o
theorem But.refl {l : List Addr} (H : Hp) : But l H H := fun _ _ h _ => h
theorem But.trans {l : List Addr} {H H1 H2 : Hp} (a : But l H H1) (b : But l H1 H2) : But l H H2 := fun c o h n => b c o (a c o h n) n
theorem But.mono {l l' : List Addr} {H H1 : Hp} (a : But l H H1) (s : ∀ x ∈ l, x ∈ l') : But l' H H1 := fun c o h n => a c o h fun z => n (s c z)
theorem But.same {l : List Addr} {H H1 : Hp} (a : Same H H1) : But l H H1 := fun c o h _ => a c o h
theorem But.new {l : List Addr} {H : Hp} {p : Addr} {o : HO} (h : H p = none) : But l H (upd H p o) := fun a u e _ => by
  rw [upd_ne (ne_of_none e h)]; exact e
theorem But.put {l : List Addr} {H H1 : Hp} {p : Addr} {o : HO} (a : But l H H1) (h : p ∈ l ∨ H p = none) : But l H (upd H1 p o) := fun b u e n => by
  have : b ≠ p := by
    rcases h with h | h
    · intro z; exact n (z ▸ h)
    · exact ne_of_none e h
  rw [upd_ne this]; exact a b u e n
theorem same_new {H : Hp} {p : Addr} {o : HO} (h : H p = none) : Same H (upd H p o) := fun b u q => by rw [upd_ne (ne_of_none q h)]; exact q
/-- the tuples stay -/
def Tups (H H' : Hp) : Prop := ∀ a xs, H a = some (.tup xs) → H' a = some (.tup xs)
theorem Tups.refl (H : Hp) : Tups H H := fun _ _ h => h
theorem Tups.trans {H H1 H2 : Hp} (a : Tups H H1) (b : Tups H1 H2) : Tups H H2 := fun c o h => b c o (a c o h)
theorem Tups.same {H H' : Hp} (s : Same H H') : Tups H H' := fun a _ h => s a _ h
theorem But.tups {l : List Addr} {H H' : Hp} (b : But l H H') (h : ∀ a ∈ l, ∀ xs, H a ≠ some (.tup xs)) : Tups H H' := fun a xs e => b a _ e fun z => h a z xs e
theorem But.tups1 {p : Addr} {H H' : Hp} {ys : List V} (b : But [p] H H') (h : H p = some (.lst ys)) : Tups H H' := b.tups fun a z xs e => by
  rw [List.mem_singleton.mp z, h] at e; cases e
theorem But.tups2 {p q : Addr} {H H' : Hp} {ys zs : List V} (b : But [p, q] H H') (h : H p = some (.lst ys)) (h2 : H q = some (.lst zs)) : Tups H H' := b.tups fun a z xs e => by
  rcases List.mem_cons.mp z with z | z
  · rw [z, h] at e; cases e
  · rw [List.mem_singleton.mp z, h2] at e; cases e
theorem Tups.upd_lst {H : Hp} {p : Addr} {ys zs : List V} (h : H p = some (.lst ys)) : Tups H (upd H p (.lst zs)) := fun a xs e => by
  have : a ≠ p := ne_of e h (by intro z; cases z)
  rw [upd_ne this]; exact e

/-- a tuple that is known to its object: it has no own dict (so its methods are the type's) -/
def WT (H : Hp) (a : Addr) (xs : List V) : Prop := ∃ o : Obj, H a = some (.frz o (.tup xs)) ∧ o.dict = none
theorem WT.sq {K : PySem.W.Frag} {H : Hp} {a : Addr} {xs : List V} (h : WT H a xs) : SqT K H a xs := by
  obtain ⟨o, h, _⟩ := h
  exact .inl (.inr ⟨o, h⟩)
theorem WT.but {l : List Addr} {H H' : Hp} {a : Addr} {xs : List V} (h : WT H a xs) (b : But l H H') (n : a ∉ l) : WT H' a xs := by
  obtain ⟨o, h, d⟩ := h
  exact ⟨o, b _ _ h n, d⟩
theorem WT.but1 {p : Addr} {H H' : Hp} {a : Addr} {xs ys : List V} (h : WT H a xs) (b : But [p] H H') (hp : H p = some (.lst ys)) : WT H' a xs := by
  obtain ⟨o, h, d⟩ := h
  exact ⟨o, b _ _ h (fun z => ne_of h hp (by intro z; cases z) (List.mem_singleton.mp z)), d⟩
theorem WT.same {H H' : Hp} {a : Addr} {xs : List V} (h : WT H a xs) (b : Same H H') : WT H' a xs := by
  obtain ⟨o, h, d⟩ := h
  exact ⟨o, b _ _ h, d⟩
theorem WT.updl {H : Hp} {a p : Addr} {xs ys : List V} {o : HO} (h : WT H a xs) (hp : H p = some (.lst ys)) : WT (upd H p o) a xs := by
  obtain ⟨u, h, d⟩ := h
  exact ⟨u, by rw [upd_ne (ne_of h hp (by intro z; cases z))]; exact h, d⟩
theorem WT.ne {H : Hp} {a p : Addr} {xs : List V} (h : WT H a xs) (hp : H p = none) : a ≠ p := by
  obtain ⟨u, h, d⟩ := h
  exact ne_of_none h hp
/-- tuple(a list) -/
def rTupW (K : PySem.W.Frag) : List V → Hp → VK → Prop := fun xs H Q => ∃ p ys, xs = [.ref p] ∧ SqL K H p ys ∧ ∀ (l : Addr) (o : Obj), H l = none → o.dict = none → Q (.ref l) (upd H l (.frz o (.tup ys)))
theorem call_tupW {X : Cx} : CallR X (.type "tuple") (rTupW X.K) := by
  intro pins s σ H xs us Q I r h
  obtain ⟨p, ys, rfl, hq, q⟩ := h
  obtain ⟨u, rfl, rx⟩ := vals1 r
  cases rx
  obtain ⟨its, r', pl, hz⟩ := I.list hq
  have hlen := r'.length
  refine call_tuple_list pl.isList (fun h' kp => ?_) (by simp only [List.size_toArray] <;> omega)
  have I1 : Inv X pins σ H { s with heap := h' } := I.kept (t' := s.toks) kp
  have I2 : Inv X pins σ (upd H h'.objs.size (.frz { cls := .type "tuple", data := .seq its.toArray } (.tup ys))) { s with heap := h'.push { cls := .type "tuple", data := .seq its.toArray } } :=
    I1.laid (t' := s.toks) (fun b o e => Heap.get?_push_of_some _ e) (Nat.le_refl _) (show ObjOk X.prog X.w _ _ _ (.frz { cls := .type "tuple", data := .seq its.toArray } (.tup ys)) from ⟨Heap.get?_push_size _ rfl, hz, its, r', IsTup.new _ _⟩)
  exact ⟨.ref h'.objs.size, _, I2, rfl, q _ _ (I1.hok.fresh (Nat.le_refl _)) rfl⟩
/-- t.index(x) of such a tuple, the first place -/
def tTix (to te : TE) : TE := fun σ H Q => to σ H fun x H1 => ∃ p, x = .ref p ∧ ∃ ys : List Str, WT H1 p (ys.map V.str) ∧ te σ H1 fun y H2 => ∃ z j, [y] = [V.str z] ∧ WT H2 p (ys.map V.str) ∧ ys[j]? = some z ∧ (∀ m, m < j → ys[m]? ≠ some z) ∧ Q (.int (j : Nat)) H2
theorem pe_tix {X : Cx} {o e : Expr} {to te : TE} {apos cpos : Pos} (ho : PE X o to) (he : PE X e te) (hbase : attributeBase o "index" X.env (eval o X.env) = eval o X.env := by rfl)
    (hfew : ((backTo cpos (starEach [e] X.env)).all (fun x => !x.1) && (backToKw cpos (keywordEach [] X.env)).all (fun x => x.1.isSome)
      && decide ([e].length + ([] : List Keyword).length + (if ([] : List Keyword).isEmpty then 0 else 1) < 30)) = true := by rfl)
    (hline : (apos.endLine == cpos.line) = true := by rfl) (hs : starEach [e] X.env = (false, eval e X.env) :: starEach [] X.env := by rfl) :
    PE X (.Call (.Attribute o "index" apos) [e] [] cpos) (tTix to te) := by
  refine ⟨fun pins s σ H Q I h => ?_⟩
  refine wpAny_Call_method_late hbase hfew hline rfl (thn (ho.run pins s σ H _ I h) fun v s1 ⟨x, H1, I1, r1, p, hx, ys, hp, q1⟩ => ?_)
  subst hx
  cases r1
  obtain ⟨ob, hob, hdn⟩ := hp
  obtain ⟨g, z, its, rv, ob', g', hc, n, hd⟩ := I1.hok p _ hob
  rw [g] at g'; cases g'
  refine ⟨"tuple", "tuple.index", PySem.F.plainAttrs_tuple, PySem.F.slot_tuple_index, PySem.F.type_tuple_index, ⟨ob, g, hc⟩, fun a e => by cases e; exact ⟨ob, g, hdn⟩, ?_⟩
  have hA := (pa_cons he pa_nil hs).run cpos pins s1 σ H1 (fun xs H2 => ∃ z j, xs = [V.str z] ∧ WT H2 p (ys.map V.str) ∧ ys[j]? = some z ∧ (∀ m, m < j → ys[m]? ≠ some z) ∧ Q (.int (j : Nat)) H2) I1 q1
  rw [hs] at hA ⊢
  refine Calls.callWith_builtin rfl (Calls.evalArgs_plain ?_)
  refine thn hA fun us s2 ⟨vs, H2, I2, r2, z, j, ev, hw, hj, hno, q2⟩ => ?_
  subst ev
  exact mt_tup_index pins s2 σ H2 (.ref p) [.str z] (.ref p) us Q I2 rfl r2 ⟨p, ys, z, j, rfl, rfl, hw.sq, hj, hno, q2⟩

/-! ### expressions on the heap -/
def RowsAt (H : Hp) : List V → List (List Str) → Prop
  | [], [] => True
  | v :: vs, r :: t => (∃ a, v = .ref a ∧ H a = some (.tup (r.map V.str))) ∧ RowsAt H vs t
  | _, _ => False
def ExAt (H : Hp) : V → Ex → Prop
  | v, .word w => ∃ a, v = .ref a ∧ H a = some (.tup [.str "word", .str w])
  | v, .name n => ∃ a, v = .ref a ∧ H a = some (.tup [.str "name", .str n])
  | v, .map r e => ∃ a b x, v = .ref a ∧ H a = some (.tup [.str "map", .ref b, x]) ∧ H b = some (.tup (r.map V.str)) ∧ ExAt H x e
  | v, .pair t e f => ∃ a b x y rs, v = .ref a ∧ H a = some (.tup [.str "pair", .ref b, x, y]) ∧ H b = some (.tup rs) ∧ RowsAt H rs t ∧ ExAt H x e ∧ ExAt H y f
theorem RowsAt.mono {H H' : Hp} (T : Tups H H') : ∀ {vs : List V} {t : List (List Str)}, RowsAt H vs t → RowsAt H' vs t
  | [], [], _ => trivial
  | v :: vs, r :: t, ⟨⟨a, e, h⟩, q⟩ => ⟨⟨a, e, T _ _ h⟩, RowsAt.mono T q⟩
  | [], _ :: _, h => h.elim
  | _ :: _, [], h => h.elim
theorem RowsAt.snoc {H : Hp} {a : Addr} {r : List Str} (h : H a = some (.tup (r.map V.str))) : ∀ {vs : List V} {t : List (List Str)}, RowsAt H vs t → RowsAt H (vs ++ [.ref a]) (t ++ [r])
  | [], [], _ => ⟨⟨a, rfl, h⟩, trivial⟩
  | v :: vs, r :: t, ⟨c, q⟩ => ⟨c, RowsAt.snoc h q⟩
  | [], _ :: _, h => h.elim
  | _ :: _, [], h => h.elim
theorem RowsAt.len {H : Hp} : ∀ {vs : List V} {t : List (List Str)}, RowsAt H vs t → vs.length = t.length
  | [], [], _ => rfl
  | v :: vs, r :: t, ⟨_, q⟩ => congrArg (· + 1) (RowsAt.len q)
  | [], _ :: _, h => h.elim
  | _ :: _, [], h => h.elim
theorem RowsAt.get {H : Hp} : ∀ {vs : List V} {t : List (List Str)} {i : Nat} {r : List Str}, RowsAt H vs t → t[i]? = some r → ∃ a, vs[i]? = some (.ref a) ∧ H a = some (.tup (r.map V.str))
  | [], [], _, _, _, h => by simp at h
  | v :: vs, r :: t, 0, r', ⟨⟨a, e, h⟩, _⟩, q => by
    have : r = r' := Option.some.inj q
    subst this
    exact ⟨a, by rw [e]; rfl, h⟩
  | v :: vs, r :: t, i + 1, r', ⟨_, q⟩, h => by
    rw [List.getElem?_cons_succ] at h ⊢
    exact RowsAt.get q h
  | [], _ :: _, _, _, h, _ => h.elim
  | _ :: _, [], _, _, h, _ => h.elim
theorem ExAt.mono {H H' : Hp} (T : Tups H H') : ∀ {e : Ex} {v : V}, ExAt H v e → ExAt H' v e
  | .word _, _, ⟨a, h1, h2⟩ => ⟨a, h1, T _ _ h2⟩
  | .name _, _, ⟨a, h1, h2⟩ => ⟨a, h1, T _ _ h2⟩
  | .map _ _, _, ⟨a, b, x, h1, h2, h3, h4⟩ => ⟨a, b, x, h1, T _ _ h2, T _ _ h3, ExAt.mono T h4⟩
  | .pair _ _ _, _, ⟨a, b, x, y, rs, h1, h2, h3, h4, h5, h6⟩ => ⟨a, b, x, y, rs, h1, T _ _ h2, T _ _ h3, RowsAt.mono T h4, ExAt.mono T h5, ExAt.mono T h6⟩

/-! ### the pool of draws -/
structure Pool (H : Hp) (pp sc : Addr) (ns : List Int) (xy : V) (i b c d : Int) : Prop where
  pl : H pp = some (.lst [.ref sc, .int i, .int b, .int c, .int d, xy])
  ne : sc ≠ pp
  sl : H sc = some (.lst (ns.map V.int))
theorem Pool.set {H : Hp} {pp sc : Addr} {ns : List Int} {xy : V} {i b c d i' b' c' d' : Int} (h : Pool H pp sc ns xy i b c d) : Pool (upd H pp (.lst [.ref sc, .int i', .int b', .int c', .int d', xy])) pp sc ns xy i' b' c' d' :=
  ⟨upd_same, h.ne, by rw [upd_ne h.ne]; exact h.sl⟩
def PoolAt (H : Hp) (pp sc : Addr) : Prop := ∃ ns xy i b c d, Pool H pp sc ns xy i b c d ∧ 0 ≤ i
theorem PoolAt.but {l : List Addr} {H H' : Hp} {pp sc : Addr} (h : PoolAt H pp sc) (b : But l H H') (h1 : pp ∉ l) (h2 : sc ∉ l) : PoolAt H' pp sc := by
  obtain ⟨ns, xy, i, b', c, d, p, hi⟩ := h
  exact ⟨ns, xy, i, b', c, d, ⟨b _ _ p.pl h1, p.ne, b _ _ p.sl h2⟩, hi⟩
theorem PoolAt.same {H H' : Hp} {pp sc : Addr} (h : PoolAt H pp sc) (b : Same H H') : PoolAt H' pp sc := h.but (But.same (l := []) b) (by simp) (by simp)
theorem PoolAt.lst {H : Hp} {pp sc : Addr} (h : PoolAt H pp sc) : ∃ xs, H pp = some (.lst xs) := by
  obtain ⟨ns, xy, i, b', c, d, p, hi⟩ := h
  exact ⟨_, p.pl⟩
theorem PoolAt.fresh {H : Hp} {pp sc D : Addr} (h : PoolAt H pp sc) (hD : H D = none) : D ≠ pp ∧ D ≠ sc := by
  obtain ⟨ns, xy, i, b', c, d, p, hi⟩ := h
  exact ⟨(ne_of_none p.pl hD).symm, (ne_of_none p.sl hD).symm⟩
theorem But.free {l : List Addr} {H H' : Hp} {p : Addr} (b : But l H H') (h : H' p = none) (hp : p ∉ l) : H p = none := by
  cases q : H p with
  | none => rfl
  | some o =>
    rw [b p o q hp] at h
    cases h
theorem nin1 {a b : Addr} (h : a ≠ b) : a ∉ [b] := fun z => h (List.mem_singleton.mp z)
theorem nin2 {a b c : Addr} (h : a ≠ b) (h2 : a ≠ c) : a ∉ [b, c] := fun z => (List.mem_cons.mp z).elim h fun z => h2 (List.mem_singleton.mp z)
theorem But.at1 {p a : Addr} {H H' : Hp} {o : HO} (b : But [p] H H') (h : H a = some o) (n : a ≠ p) : H' a = some o := b a o h (nin1 n)
/-- a change at an object apart from the pool -/
theorem PoolAt.upd {H : Hp} {pp sc D : Addr} {o : HO} (h : PoolAt H pp sc) (n : D ≠ pp) (n2 : D ≠ sc) : PoolAt (upd H D o) pp sc :=
  h.but (l := [D]) ((But.refl H).put (.inl (List.mem_singleton.mpr rfl))) (nin1 n.symm) (nin1 n2.symm)
/-- the built-ins that the text calls -/
structure Bi (mg : Str → Option Value) : Prop where
  len : mg "len" = none
  tuple : mg "tuple" = none
  list : mg "list" = none
  int : mg "int" = none
  str : mg "str" = none
  abs : mg "abs" = none
  max : mg "max" = none
  sum : mg "sum" = none
  all : mg "all" = none
  range : mg "range" = none
  enum : mg "enumerate" = none
  isi : mg "isinstance" = none
end K2
namespace K2
open PySem PySem.Spec PyProof.Rows L2
abbrev sDraw : Stmt := top 64
abbrev nDraw : List Str := ["_law_pool_here", "_law_many", "_law_cell", "_law_digit", "_law_mixed"]
theorem scDraw : FnScope nDraw ["_law_pool_here", "_law_many"] (defScope sDraw) := ⟨rfl, rfl, rfl, by decide +kernel, rfl, by decide +kernel, by decide +kernel⟩
def spDraw : Sp := fun vs H Q _ => ∃ (pp sc : Addr) (m : Int), vs = [.ref pp, .int m] ∧ PoolAt H pp sc ∧ 0 < m ∧ m < 1073741824 ∧
  ∀ (d : Int) (H' : Hp), 0 ≤ d → d < m → PoolAt H' pp sc → But [pp] H H' → Q (.int d) H'
theorem mod_in (z : Int) {n : Int} (h : 0 < n) (h2 : n < 2 ^ 64) : -(2 ^ 64) < z % n ∧ z % n < 2 ^ 64 := by
  have h3 := Int.emod_nonneg z (show n ≠ 0 by omega)
  have h4 := Int.emod_lt_of_pos z h
  omega
section
variable {P : Program} {w : World} {K : PySem.W.Frag} {mg : Str → Option Value} {base : Heap}
theorem has_draw (D : TD K mg "_law_draw" sDraw ["_law_pool_here", "_law_many"]) (B : Bi mg) : Has P w K mg base "_law_draw" 1 ["_law_pool_here", "_law_many"] spDraw := by
  refine D.has scDraw (fun vs H Q E h => ?_) (fun f cdv A outer s H vs Q E hr h => ?_)
  · obtain ⟨pp, sc, m, rfl, _⟩ := h
    rfl
  obtain ⟨pp, sc, m, rfl, ⟨ns, xy, i, b, c, d, hP, hi⟩, hm0, hm1, k⟩ := h
  refine ⟨_, pss_cons (ps_asg (pe_op op_add (pe_ix ix_list (pv 0) pe_int (fun _ _ => rfl)) pe_int) (pg_sub (pv 0) pe_int set_list))
    (C8.pss_cut (ps_if (PW.pt (pw_and (pt_cmpR op_eq (pe_ix ix_list (pv 0) pe_int (fun _ _ => rfl)) pe_int (nomark _)) (pw_and1 (pt_cmpR op_lt (pe_ix ix_list (pv 0) pe_int (fun _ _ => rfl))
        (pe_callB call_len_seq (by rfl) B.len PySem.boot_len (pa_cons (pe_ix ix_list (pv 0) pe_int (fun _ _ => rfl)) pa_nil)) (nomark _)))))
      (pss_cons (ps_set (i := 2) scDraw.nd rfl (Or.inl rfl) (pe_ix ix_list (pe_ix ix_list (pv 0) pe_int (fun _ _ => rfl)) (pe_ix ix_list (pv 0) pe_int (fun _ _ => rfl)) (fun _ _ => rfl)))
      (pss_cons (ps_asg (pe_op op_add (pe_ix ix_list (pv 0) pe_int (fun _ _ => rfl)) pe_int) (pg_sub (pv 0) pe_int set_list))
      (pss_one (ps_if (PW.pt (pw_or (pt_cmpR op_ge (pv 2) (pe_op op_pow pe_int pe_int) (nomark _)) (pw_or1 (pt_cmpR op_le (pv 2) (pe_un un_neg (pe_op op_pow pe_int pe_int)) (nomark _)))))
        (pss_one (ps_asg (pe_callB call_abs (by rfl) B.abs PyProof.Rows.boot_abs (pa_cons (pv 2) pa_nil)) (pg_sub (pv 0) pe_int set_list)))
        (pss_one (ps_asg (pe_op op_mod (pe_callTy call_int1 (by rfl) B.int (by decide +kernel) (pa_cons (pe_op op_add (pe_op op_mul (pe_ix ix_list (pv 0) pe_int (fun _ _ => rfl)) pe_int)
          (pe_op op_mul (pe_op op_mod (pe_callTy call_int1 (by rfl) B.int (by decide +kernel) (pa_cons (pv 2) pa_nil)) pe_int) pe_int)) pa_nil)) pe_int) (pg_sub (pv 0) pe_int set_list))))))) pss_nil)
    (pss_cons (ps_if (pt_cmpR op_gt (pe_ix ix_list (pv 0) pe_int (fun _ _ => rfl)) pe_int (nomark _))
      (pss_cons (ps_set (i := 3) scDraw.nd rfl (Or.inl rfl) (pe_op op_mod (pe_callTy call_int1 (by rfl) B.int (by decide +kernel) (pa_cons (pe_ix ix_list (pv 0) pe_int (fun _ _ => rfl)) pa_nil)) (pv 1)))
      (pss_cons (ps_asg (pe_op op_fdiv (pe_callTy call_int1 (by rfl) B.int (by decide +kernel) (pa_cons (pe_ix ix_list (pv 0) pe_int (fun _ _ => rfl)) pa_nil)) (pv 1)) (pg_sub (pv 0) pe_int set_list))
      (pss_one (ps_ret (pv 3))))) pss_nil)
    (pss_cons (ps_asg (pe_op op_mod (pe_callTy call_int1 (by rfl) B.int (by decide +kernel) (pa_cons (pe_op op_add (pe_op op_add (pe_op op_mul (pe_ix ix_list (pv 0) pe_int (fun _ _ => rfl)) pe_int)
          (pe_op op_mul pe_int (pe_ix ix_list (pv 0) pe_int (fun _ _ => rfl)))) pe_int) pa_nil)) pe_int) (pg_sub (pv 0) pe_int set_list))
    (pss_cons (ps_set (i := 4) scDraw.nd rfl (Or.inl rfl) (pe_op op_mod (pe_callTy call_int1 (by rfl) B.int (by decide +kernel) (pa_cons (pe_op op_mul (pe_ix ix_list (pv 0) pe_int (fun _ _ => rfl))
          (pe_op op_add (pe_op op_fdiv (pe_ix ix_list (pv 0) pe_int (fun _ _ => rfl)) pe_int) pe_int)) pa_nil)) pe_int))
    (pss_cons (ps_set (i := 4) scDraw.nd rfl (Or.inl rfl) (pe_op op_mod (pe_callTy call_int1 (by rfl) B.int (by decide +kernel) (pa_cons (pe_op op_mul (pv 4)
          (pe_op op_add (pe_op op_fdiv (pv 4) pe_int) pe_int)) pa_nil)) pe_int))
    (pss_one (ps_ret (pe_op op_mod (pe_callTy call_int1 (by rfl) B.int (by decide +kernel) (pa_cons (pe_op op_fdiv (pv 4) pe_int) pa_nil)) (pv 1))))))))), ?_⟩
  -- pool[3] = pool[3] + 1
  refine ⟨_, rfl, pp, _, 3, _, rfl, rfl, SqL.of hP.pl, rfl, _, _, rfl, rfl, _, rfl, pp, _, 3, 3, rfl, rfl, hP.pl, rfl, ?_⟩
  have hP1 := hP.set (i' := i) (b' := b) (c' := c + 1) (d' := d)
  have b1 : But [pp] H (upd H pp (.lst [.ref sc, .int i, .int b, .int (c + 1), .int d, xy])) := (But.refl H).put (.inl (by simp))
  refine ⟨fun σ' H' => ∃ (v : Option V) (i' b' c' d' : Int), σ' = [some (.ref pp), some (.int m), v, none, none] ∧ Pool H' pp sc ns xy i' b' c' d' ∧ 0 ≤ i' ∧ But [pp] H H', ?_, ?_⟩
  · -- the next cell of the script
    refine ⟨_, rfl, pp, _, 2, _, rfl, rfl, SqL.of hP1.pl, rfl, rfl, _, rfl, ?_⟩
    have skip : ∃ (v : Option V) (i' b' c' d' : Int), [some (V.ref pp), some (V.int m), none, none, none] = [some (V.ref pp), some (V.int m), v, none, none] ∧ Pool (upd H pp (.lst [.ref sc, .int i, .int b, .int (c + 1), .int d, xy])) pp sc ns xy i' b' c' d' ∧ 0 ≤ i' ∧ But [pp] H (upd H pp (.lst [.ref sc, .int i, .int b, .int (c + 1), .int d, xy])) := ⟨none, i, b, c + 1, d, rfl, hP1, hi, b1⟩
    refine ite2 (fun _ => ?_) (fun _ => ?_)
    · refine ⟨_, rfl, pp, _, 1, _, rfl, rfl, SqL.of hP1.pl, rfl, _, rfl, pp, _, 0, _, rfl, rfl, SqL.of hP1.pl, rfl, sc, _, rfl, .inl (SqL.of hP1.sl), _, _, rfl, rfl, _, rfl, ?_⟩
      refine ite2 (fun c1 => ?_) (fun _ => skip)
      have hlt : i < ((ns.map V.int).length : Int) := of_decide_eq_true c1
      rw [List.length_map] at hlt
      have hn : i.toNat < ns.length := by omega
      have ez : i = ((i.toNat : Nat) : Int) := by omega
      have hget : atI (ns.map V.int) i = some (.int ns[i.toNat]) := at_of ez (by rw [List.getElem?_map, List.getElem?_eq_getElem hn]; rfl)
      refine ⟨_, rfl, pp, _, 0, _, rfl, rfl, SqL.of hP1.pl, rfl, _, rfl, pp, _, 1, _, rfl, rfl, SqL.of hP1.pl, rfl, sc, _, i, .int ns[i.toNat], rfl, rfl, SqL.of hP1.sl, hget, ?_⟩
      generalize ns[i.toNat] = z
      -- pool[1] = pool[1] + 1
      refine ⟨_, rfl, pp, _, 1, _, rfl, rfl, SqL.of hP1.pl, rfl, _, _, rfl, rfl, _, rfl, pp, _, 1, 1, rfl, rfl, hP1.pl, rfl, ?_⟩
      have hP2 := hP1.set (i' := i + 1) (b' := b) (c' := c + 1) (d' := d)
      have b2 := b1.put (p := pp) (o := .lst [.ref sc, .int (i + 1), .int b, .int (c + 1), .int d, xy]) (.inl (by simp))
      have fin : ∀ b' d' : Int, ∃ (v : Option V) (i' b'' c' d'' : Int), [some (V.ref pp), some (V.int m), some (V.int z), none, none] = [some (V.ref pp), some (V.int m), v, none, none] ∧ Pool (upd (upd (upd H pp (.lst [.ref sc, .int i, .int b, .int (c + 1), .int d, xy])) pp (.lst [.ref sc, .int (i + 1), .int b, .int (c + 1), .int d, xy])) pp (.lst [.ref sc, .int (i + 1), .int b', .int (c + 1), .int d', xy])) pp sc ns xy i' b'' c' d'' ∧ 0 ≤ i' ∧ But [pp] H (upd (upd (upd H pp (.lst [.ref sc, .int i, .int b, .int (c + 1), .int d, xy])) pp (.lst [.ref sc, .int (i + 1), .int b, .int (c + 1), .int d, xy])) pp (.lst [.ref sc, .int (i + 1), .int b', .int (c + 1), .int d', xy])) :=
        fun b' d' => ⟨_, i + 1, b', c + 1, d', rfl, hP2.set, by omega, b2.put (.inl (by simp))⟩
      refine ⟨_, rfl, _, _, rfl, rfl, ⟨by decide, by decide, by decide⟩, _, _, rfl, rfl, _, rfl, ?_⟩
      refine ite2 (fun _ => ?_) (fun _ => ?_)
      · refine ⟨_, rfl, _, rfl, _, rfl, pp, _, 2, 2, rfl, rfl, hP2.pl, rfl, ?_⟩
        exact fin _ d
      · refine ⟨_, rfl, _, _, rfl, rfl, ⟨by decide, by decide, by decide⟩, _, rfl, _, _, rfl, rfl, _, rfl, ?_⟩
        refine ite2 (fun _ => ?_) (fun _ => ?_)
        · refine ⟨_, rfl, _, rfl, _, rfl, pp, _, 2, 2, rfl, rfl, hP2.pl, rfl, ?_⟩
          exact fin _ d
        · refine ⟨_, rfl, pp, _, 4, _, rfl, rfl, SqL.of hP2.pl, rfl, _, _, rfl, rfl, .inr ⟨by decide, by decide⟩, _, rfl, .inl ⟨_, rfl, _, _, rfl, rfl, (show (0 : Int) < 2147483629 by decide), _, _, rfl, rfl, .inr ⟨by decide, by decide⟩, _, _, rfl, rfl, .inl ⟨_, rfl, _, _, rfl, rfl, (show (0 : Int) < 2147483647 by decide), _, rfl, pp, _, 4, 4, rfl, rfl, hP2.pl, rfl, ?_⟩⟩⟩
          exact fin b _
    · exact skip
  · rintro σ' H' ⟨v, i', b', c', d', rfl, hP2, hi', b2⟩
    have fin : ∀ (z : Int) (i3 b3 c3 d3 : Int), 0 ≤ i3 → 0 ≤ z → z < m → Q (.int z) (upd H' pp (.lst [.ref sc, .int i3, .int b3, .int c3, .int d3, xy])) := fun z i3 b3 c3 d3 h1 h2 h3 =>
      k z _ h2 h3 ⟨ns, xy, i3, b3, c3, d3, hP2.set, h1⟩ (b2.put (.inl (by simp)))
    refine ⟨_, rfl, pp, _, 2, _, rfl, rfl, SqL.of hP2.pl, rfl, _, _, rfl, rfl, _, rfl, ?_⟩
    refine ite2 (fun _ => ?_) (fun _ => ?_)
    · refine ⟨_, rfl, pp, _, 2, _, rfl, rfl, SqL.of hP2.pl, rfl, .inl ⟨_, rfl, _, rfl, _, _, rfl, rfl, hm0, ?_⟩⟩
      refine ⟨_, rfl, pp, _, 2, _, rfl, rfl, SqL.of hP2.pl, rfl, .inl ⟨_, rfl, _, rfl, _, _, rfl, rfl, ⟨hm0, hm1⟩, _, rfl, pp, _, 2, 2, rfl, rfl, hP2.pl, rfl, ?_⟩⟩
      exact ⟨_, rfl, fin _ _ _ _ _ hi' (Int.emod_nonneg _ (by omega)) (Int.emod_lt_of_pos _ hm0)⟩
    · refine ⟨_, rfl, pp, _, 4, _, rfl, rfl, SqL.of hP2.pl, rfl, _, _, rfl, rfl, .inr ⟨by decide, by decide⟩, _, rfl, pp, _, 3, _, rfl, rfl, SqL.of hP2.pl, rfl, _, _, rfl, rfl, .inl ⟨by decide, by decide⟩, _, _, rfl, rfl, _, _, rfl, rfl, .inl ⟨_, rfl, _, _, rfl, rfl, (show (0 : Int) < 2147483399 by decide), _, rfl, pp, _, 4, 4, rfl, rfl, hP2.pl, rfl, ?_⟩⟩
      have hP3 := hP2.set (i' := i') (b' := b') (c' := c') (d' := (d' * 40692 + 7919 * c' + 30103) % 2147483399)
      have r3 := mod_in (d' * 40692 + 7919 * c' + 30103) (n := 2147483399) (by decide) (by decide)
      -- mixed
      refine ⟨_, rfl, pp, _, 4, _, rfl, rfl, SqL.of hP3.pl, rfl, _, rfl, pp, _, 4, _, rfl, rfl, SqL.of hP3.pl, rfl, _, _, rfl, rfl, ⟨by decide, by decide⟩, _, _, rfl, rfl, _, _, rfl, rfl, .inl r3,
        .inl ⟨_, rfl, _, _, rfl, rfl, (show (0 : Int) < 2147483647 by decide), ?_⟩⟩
      have r4 := fun z => mod_in z (n := 2147483647) (by decide) (by decide)
      refine ⟨_, rfl, _, rfl, _, _, rfl, rfl, ⟨by decide, by decide⟩, _, _, rfl, rfl, _, _, rfl, rfl, .inl (r4 _), .inl ⟨_, rfl, _, _, rfl, rfl, (show (0 : Int) < 2147483629 by decide), ?_⟩⟩
      refine ⟨_, rfl, _, _, rfl, rfl, ⟨by decide, by decide⟩, .inl ⟨_, rfl, _, rfl, _, _, rfl, rfl, hm0, ?_⟩⟩
      exact fin _ _ _ _ _ hi' (Int.emod_nonneg _ (by omega)) (Int.emod_lt_of_pos _ hm0)
end
end K2
/-! Names: what a name is, a free letter is found. -/
namespace K2
open PySem PySem.Spec PyProof.Rows L2
abbrev LET : Str := "abcdefghijklmnopqrstuvwxyz"
def IsNm (z : Str) : Prop := 1 ≤ z.length ∧ z.length ≤ 8 ∧ ∀ c ∈ z.cps.toList, c ∈ LET.cps.toList
def lt1 (n : Nat) : Str := ⟨#[97 + n]⟩
theorem let_nat : ∀ n, n < 26 → LET.cps.toList[n]? = some (97 + n) := by decide +kernel
theorem let_at {i : Int} (h0 : 0 ≤ i) (h1 : i < 26) : atI LET.cps.toList i = some (97 + i.toNat) := by
  have h2 : i.toNat < 26 := by omega
  have h3 := let_nat i.toNat h2
  have h4 : i = ((i.toNat : Nat) : Int) := by omega
  have q := atI_nat h3
  rw [← h4] at q
  exact q
theorem let_len : LET.length ≤ sizeLine := by decide +kernel
theorem nm_lt {n : Nat} (h : n < 26) : IsNm (lt1 n) := by
  refine ⟨by show 1 ≤ 1; decide, by show 1 ≤ 8; decide, fun c hc => ?_⟩
  have e : c = 97 + n := by simpa [lt1] using hc
  rw [e]
  exact List.mem_of_getElem? (let_nat n h)
theorem lt_inj {a b : Nat} (h : lt1 a = lt1 b) : a = b := by
  have : (#[97 + a] : Array Nat) = #[97 + b] := by
    have := congrArg Str.cps h
    exact this
  have h2 : 97 + a = 97 + b := by simpa using this
  omega
theorem join_codes : ∀ ys : List Nat, (Str.join (Str.ofString "") (ys.map lt1)).cps.toList = ys.map (97 + ·)
  | [] => rfl
  | [n] => rfl
  | n :: m :: r => by
    have ih : (Str.join (Str.ofString "") ((m :: r).map lt1)).cps.toList = (m :: r).map (97 + ·) := join_codes (m :: r)
    show ((lt1 n ++ Str.ofString "" ++ Str.join (Str.ofString "") ((m :: r).map lt1)) : Str).cps.toList = (97 + n) :: (m :: r).map (97 + ·)
    have e : ∀ a b : Str, (a ++ b).cps = a.cps ++ b.cps := fun _ _ => rfl
    rw [e, e, Array.toList_append, Array.toList_append, ih]
    rfl
theorem nm_join : ∀ {ys : List Nat}, ys ≠ [] → ys.length ≤ 8 → (∀ n ∈ ys, n < 26) → IsNm (Txt.join (Str.ofString "") (ys.map lt1)) := by
  intro ys h0 h8 hy
  have key := join_codes
  rw [show Txt.join (Str.ofString "") (ys.map lt1) = Str.join (Str.ofString "") (ys.map lt1) from StrLaws.glued_eq_join _ _]
  have hl : (Str.join (Str.ofString "") (ys.map lt1)).length = ys.length := by
    show (Str.join (Str.ofString "") (ys.map lt1)).cps.size = ys.length
    rw [← Array.length_toList, key, List.length_map]
  refine ⟨?_, by rw [hl]; exact h8, fun c hc => ?_⟩
  · rw [hl]
    cases ys with
    | nil => exact absurd rfl h0
    | cons a r => exact Nat.le_add_left _ _
  · rw [key] at hc
    obtain ⟨n, hn, rfl⟩ := List.mem_map.mp hc
    exact List.mem_of_getElem? (let_nat n (hy n hn))
theorem sub_len {α : Type} [DecidableEq α] : ∀ {l ts : List α}, l.Nodup → (∀ x ∈ l, x ∈ ts) → l.length ≤ ts.length
  | [], _, _, _ => Nat.zero_le _
  | a :: l, ts, hn, hs => by
    obtain ⟨h1, h2⟩ := List.nodup_cons.mp hn
    have ha : a ∈ ts := hs a List.mem_cons_self
    have ih : l.length ≤ (ts.erase a).length := sub_len h2 fun x hx => (List.mem_erase_of_ne fun e => h1 (by rw [← e]; exact hx)).mpr (hs x (List.mem_cons_of_mem _ hx))
    rw [List.length_erase_of_mem ha] at ih
    have : 0 < ts.length := List.length_pos_of_mem ha
    rw [List.length_cons]
    omega
theorem free_letter {ts : List Str} {s : Nat} {nm : Str} (hl : ts.length ≤ 3) (h : nm ∈ ts → ∀ j, j < 26 → lt1 ((s + j) % 26) ∈ ts) : nm ∉ ts := by
  intro hm
  have q := h hm
  have hn : [lt1 ((s + 0) % 26), lt1 ((s + 1) % 26), lt1 ((s + 2) % 26), lt1 ((s + 3) % 26)].Nodup := by
    have ne : ∀ a b, a < 4 → b < 4 → a ≠ b → lt1 ((s + a) % 26) ≠ lt1 ((s + b) % 26) := fun a b ha hb hab e => by
      have := lt_inj e
      omega
    simp only [List.nodup_cons, List.mem_cons, List.not_mem_nil, or_false, not_or, List.nodup_nil, and_true, not_false_eq_true]
    exact ⟨⟨ne 0 1 (by decide) (by decide) (by decide), ne 0 2 (by decide) (by decide) (by decide), ne 0 3 (by decide) (by decide) (by decide)⟩, ⟨ne 1 2 (by decide) (by decide) (by decide), ne 1 3 (by decide) (by decide) (by decide)⟩, ne 2 3 (by decide) (by decide) (by decide)⟩
  have := sub_len hn (ts := ts) fun x hx => by
    simp only [List.mem_cons, List.not_mem_nil, or_false] at hx
    rcases hx with rfl | rfl | rfl | rfl
    · exact q 0 (by decide)
    · exact q 1 (by decide)
    · exact q 2 (by decide)
    · exact q 3 (by decide)
  have : 4 ≤ ts.length := this
  omega
abbrev KEPT : List Str := ["word", "key", "with", "map", "pair", "else", "end", "go", "stop", "case", "text", "child", "part", "state"]
def isNmB (z : Str) : Bool := decide (1 ≤ z.length) && decide (z.length ≤ 8) && z.cps.toList.all fun c => decide (c ∈ LET.cps.toList)
theorem isNm_of {z : Str} (h : isNmB z = true) : IsNm z := by
  unfold isNmB at h
  simp only [Bool.and_eq_true, decide_eq_true_eq, List.all_eq_true] at h
  exact ⟨h.1.1, h.1.2, h.2⟩
theorem kept_nm : ∀ z ∈ KEPT, IsNm z := by
  have h : KEPT.all isNmB = true := by decide +kernel
  intro z hz
  exact isNm_of (List.all_eq_true.mp h z hz)
/-- a text among texts -/
theorem inV_str (z : Str) (ts : List Str) : inV (.str z) (ts.map V.str) = decide (z ∈ ts) := by
  unfold inV
  induction ts with
  | nil => rfl
  | cons a r ih =>
    rw [List.map_cons, List.any_cons, ih]
    show ((a == z) || decide (z ∈ r)) = decide (z ∈ a :: r)
    by_cases e : a = z
    · subst e
      simp
    · have e2 : (a == z) = false := beq_eq_false_iff_ne.mpr e
      rw [e2, Bool.false_or]
      by_cases q : z ∈ r
      · rw [decide_eq_true q, decide_eq_true (List.mem_cons_of_mem _ q)]
      · rw [decide_eq_false q, decide_eq_false fun m => (List.mem_cons.mp m).elim (fun w => e w.symm) q]
theorem flat_strs (ts : List Str) : (ts.map V.str).all flatV = true := List.all_eq_true.mpr fun x hx => by
  obtain ⟨z, _, rfl⟩ := List.mem_map.mp hx
  rfl
end K2
namespace K2
open PySem PySem.Spec PyProof.Rows L2
/-! ### the pool -/
abbrev sPool : Stmt := top 65
theorem scPool : FnScope ["_law_script"] ["_law_script"] (defScope sPool) := ⟨rfl, rfl, rfl, by decide +kernel, rfl, by decide +kernel, by decide +kernel⟩
def spPool (K : PySem.W.Frag) : Sp := fun vs H Q _ => ∃ (a : Addr) (ns : List Int), vs = [.ref a] ∧ SqL K H a (ns.map V.int) ∧
  ∀ (pp sc : Addr) (H' : Hp), PoolAt H' pp sc → Same H H' → Q (.ref pp) H'
abbrev sName : Stmt := top 66
abbrev nName : List Str := ["_law_pool_here", "_law_taken", "_law_letters", "_law_kept", "_law_style", "_law_name_here", "_law_k", "_law_start"]
theorem scName : FnScope nName ["_law_pool_here", "_law_taken"] (defScope sName) := ⟨rfl, rfl, rfl, by decide +kernel, rfl, by decide +kernel, by decide +kernel⟩
def spName : Sp := fun vs H Q _ => ∃ (pp sc tk : Addr) (ts : List Str), vs = [.ref pp, .ref tk] ∧ PoolAt H pp sc ∧ H tk = some (.lst (ts.map V.str)) ∧ tk ≠ pp ∧ tk ≠ sc ∧ ts.length ≤ 3 ∧
  ∀ (z : Str) (H' : Hp), IsNm z → z ∉ ts → PoolAt H' pp sc → H' tk = some (.lst ((ts ++ [z]).map V.str)) → But [pp, tk] H H' → Q (.str z) H'
theorem join_small {ys : List Nat} (h : ys.length ≤ 8) : ((ys.map lt1).map (·.length)).sum + (ys.map lt1).length * (Str.ofString "").length ≤ 16777216 := by
  have e : ∀ ys : List Nat, ((ys.map lt1).map (·.length)).sum = ys.length := fun ys => by
    induction ys with
    | nil => rfl
    | cons a r ih =>
      rw [List.map_cons, List.map_cons, List.sum_cons, ih, List.length_cons]
      show 1 + r.length = r.length + 1
      omega
  have e2 : (Str.ofString "").length = 0 := by decide +kernel
  rw [e, e2, Nat.mul_zero]
  omega
section
variable {P : Program} {w : World} {K : PySem.W.Frag} {mg : Str → Option Value} {base : Heap}
theorem has_pool (D : TD K mg "_law_pool" sPool ["_law_script"]) (B : Bi mg) : Has P w K mg base "_law_pool" 1 ["_law_script"] (spPool K) := by
  refine D.has scPool (fun vs H Q E h => ?_) (fun f cdv A outer s H vs Q E hr h => ?_)
  · obtain ⟨a, ns, rfl, _⟩ := h
    rfl
  obtain ⟨a, ns, rfl, hS, k⟩ := h
  refine ⟨_, pss_one (ps_ret (pe_lst (pa_cons (pe_callTy call_list_of (by rfl) B.list (by decide +kernel) (pa_cons (pv 0) pa_nil)) (pa_cons pe_int (pa_cons pe_int (pa_cons pe_int
    (pa_cons (pe_op op_add pe_int (pe_callB call_len_seq (by rfl) B.len PySem.boot_len (pa_cons (pv 0) pa_nil))) (pa_cons (pe_lst (pa_cons pe_str (pa_cons pe_str pa_nil))) pa_nil)))))))), ?_⟩
  refine ⟨_, rfl, a, _, rfl, .inl hS, fun sc hsc => ?_⟩
  have s1 : Same H (upd H sc (.lst (ns.map V.int))) := same_new hsc
  refine ⟨_, rfl, a, _, rfl, .inl (s1.seq hS), _, _, rfl, rfl, by decide, fun xy hxy => ⟨by show 6 ≤ sizeLine; decide, fun pp hpp => ?_⟩⟩
  have s2 := s1.trans (same_new (o := .lst [V.str "x", .str "y"]) hxy)
  refine k pp sc _ ⟨ns, _, _, _, _, _, ⟨upd_same, ?_, ?_⟩, Int.le_refl 0⟩ (s2.trans (same_new hpp))
  · intro z
    subst z
    rw [upd_ne (ne_of_none upd_same hxy), upd_same] at hpp
    cases hpp
  · rw [upd_ne (fun z => ?_), upd_ne (ne_of_none upd_same hxy), upd_same]
    subst z
    rw [upd_ne (ne_of_none upd_same hxy), upd_same] at hpp
    cases hpp
theorem has_name (D : TD K mg "_law_name" sName ["_law_pool_here", "_law_taken"]) (B : Bi mg) (hD : Has P w K mg base "_law_draw" 1 ["_law_pool_here", "_law_many"] spDraw) : Has P w K mg base "_law_name" 2 ["_law_pool_here", "_law_taken"] spName := by
  refine D.has scName (fun vs H Q E h => ?_) (fun f cdv A outer s H vs Q E hr h => ?_)
  · obtain ⟨pp, sc, tk, ts, rfl, _⟩ := h
    rfl
  obtain ⟨pp, sc, tk, ts, rfl, hP, hT, n1, n2, hl, k⟩ := h
  refine ⟨_, pss_cons (ps_set (i := 2) scName.nd rfl (Or.inr rfl) pe_str)
    (pss_cons (ps_set (i := 3) scName.nd rfl (Or.inl rfl) (pe_lst (pa_cons pe_str (pa_cons pe_str (pa_cons pe_str (pa_cons pe_str (pa_cons pe_str (pa_cons pe_str (pa_cons pe_str (pa_cons pe_str (pa_cons pe_str (pa_cons pe_str (pa_cons pe_str (pa_cons pe_str (pa_cons pe_str (pa_cons pe_str pa_nil))))))))))))))))
    (pss_cons (ps_set (i := 4) scName.nd rfl (Or.inl rfl) (pcall hD hr (by decide) (pa_cons (pv 0) (pa_cons pe_int pa_nil))))
    (pss_cons (ps_set (i := 5) scName.nd rfl (Or.inl rfl) (pe_ix ix_str (pv 2) (pcall hD hr (by decide) (pa_cons (pv 0) (pa_cons pe_int pa_nil))) (fun _ _ => rfl)))
    (C8.pss_cut (ps_if (pt_cmpR op_eq (pv 4) pe_int (nomark _))
      (pss_one (ps_set (i := 5) scName.nd rfl (Or.inl rfl) (pe_join pe_str (pe_lc (own := [("_law_k", 6)]) (g := gName 6) (by rfl) scName.nd (pi_range1 rfl B.range (pa_cons (pe_op op_add pe_int (pcall hD hr (by decide) (pa_cons (pv 0) (pa_cons pe_int pa_nil)))) pa_nil))
        (blkOk_by (own := [("_law_k", 6)]) (N := nName) (sc := defScope sName) (by decide +kernel)) (fun _ _ _ _ _ => pg_name (i := 6) scName.nd rfl (Or.inl rfl)) (fun _ _ _ _ _ => pts_nil)
        (fun _ _ _ _ _ => pe_ix ix_str (pv 2) (pcall hD hr (by decide) (pa_cons (pv 0) (pa_cons pe_int pa_nil))) (fun _ _ => rfl))))))
      (pss_one (ps_if (pt_cmpR op_eq (pv 4) pe_int (nomark _)) (pss_one (ps_set (i := 5) scName.nd rfl (Or.inl rfl) (pe_ix ix_list (pv 3) (pcall hD hr (by decide) (pa_cons (pv 0) (pa_cons pe_int pa_nil))) (fun _ _ => rfl)))) pss_nil)))
    (pss_cons (ps_set (i := 7) scName.nd rfl (Or.inl rfl) (pcall hD hr (by decide) (pa_cons (pv 0) (pa_cons pe_int pa_nil))))
    (pss_cons (ps_for PassesOwn.never rfl (pi_range1 rfl B.range (pa_cons pe_int pa_nil)) (pg_name (i := 6) scName.nd rfl (Or.inl rfl))
      (pss_one (ps_if (pt_cmpR op_in_seq (pv 5) (pv 1) (by rfl))
        (pss_one (ps_set (i := 5) scName.nd rfl (Or.inl rfl) (pe_ix ix_str (pv 2) (pe_op op_mod (pe_callTy call_int1 (by rfl) B.int (by decide +kernel) (pa_cons (pe_op op_add (pv 7) (pv 6)) pa_nil)) pe_int) (fun _ _ => rfl)))) pss_nil)))
    (pss_cons (ps_expr (pe_bm PySem.F.plainAttrs_list PySem.F.slot_list_append PySem.F.type_list_append mt_append (pv 1) (pa_cons (pv 5) pa_nil)))
    (pss_one (ps_ret (pv 5)))))))))), ?_⟩
  refine ⟨by show 14 ≤ sizeLine; decide, fun kl hkl => ?_⟩
  have P0 := hP.same (same_new (o := .lst (KEPT.map V.str)) hkl)
  obtain ⟨nkp, nks⟩ := hP.fresh hkl
  have b0 : But [pp] H (upd H kl (.lst (KEPT.map V.str))) := But.new hkl
  refine ⟨_, rfl, pp, sc, 6, rfl, P0, by decide, by decide, fun d1 H1 a1 a2 P1 b1 => ?_⟩
  refine ⟨_, rfl, _, rfl, pp, sc, 5, rfl, P1, by decide, by decide, fun d2 H2 e1 e2 P2 b2 => ?_⟩
  refine ⟨LET, d2, _, rfl, rfl, let_len, let_at e1 (by omega), ?_⟩
  have b02 := (b0.trans b1).trans b2
  have hk2 : H2 kl = some (.lst (KEPT.map V.str)) := b2.at1 (b1.at1 upd_same nkp) nkp
  refine ⟨fun σ' H' => ∃ z : Str, σ' = [some (.ref pp), some (.ref tk), some (.str LET), some (.ref kl), some (.int d1), some (.str z), none, none] ∧ IsNm z ∧ PoolAt H' pp sc ∧ But [pp] H H', ?_, ?_⟩
  · refine ⟨_, rfl, rfl, _, rfl, ?_⟩
    refine ite2 (fun _ => ?_) (fun _ => ?_)
    · refine ⟨⟨_, rfl⟩, ?_⟩
      refine ⟨_, rfl, pp, sc, 8, rfl, P2, by decide, by decide, fun d3 H3 f1 f2 P3 b3 => ?_⟩
      refine ⟨_, _, rfl, rfl, _, rfl, by omega, by omega, fun D hD => ?_⟩
      obtain ⟨nD, nDs⟩ := P3.fresh hD
      have b03 := b02.trans b3
      have hD0 := b03.free hD (nin1 nD)
      refine lc_range (lo := 0) (n := (1 + d3).toNat) (fun i H' => ∃ ys : List Nat, ys.length = i ∧ (∀ n ∈ ys, n < 26) ∧ H' D = some (.lst ((ys.map lt1).map V.str)) ∧ PoolAt H' pp sc ∧ But [pp] H H')
        ⟨[], rfl, by simp, upd_same, P3.same (same_new hD), b03.trans (But.new hD)⟩ ?_ ?_
      · rintro i H4 hi ⟨ys, u1, u2, u3, u4, u5⟩
        refine ⟨rfl, ?_⟩
        refine ⟨_, rfl, _, rfl, pp, sc, 26, rfl, u4, by decide, by decide, fun d4 H5 g1 g2 P5 b5 => ?_⟩
        refine ⟨LET, d4, _, rfl, rfl, let_len, let_at g1 g2, (ys.map lt1).map V.str, b5.at1 u3 nD, ?_, ys ++ [d4.toNat], ?_, ?_, ?_, P5.upd nD nDs, (u5.trans b5).put (.inr hD0)⟩
        · rw [List.length_map, List.length_map]
          exact small1000 (by omega)
        · rw [List.length_append, u1]; rfl
        · intro n hn
          rcases List.mem_append.mp hn with q | q
          · exact u2 n q
          · rw [List.mem_singleton.mp q]; omega
        · rw [upd_same, List.map_append, List.map_append]
          rfl
      · rintro H4 ⟨ys, u1, u2, u3, u4, u5⟩
        refine ⟨_, D, ys.map lt1, rfl, rfl, .inl (SqL.of u3), join_small (by omega), ?_⟩
        refine ⟨_, rfl, nm_join (fun z => ?_) (by omega) u2, u4, u5⟩
        rw [z] at u1
        have : (0 : Nat) = (1 + d3).toNat := u1
        omega
    · refine ⟨_, rfl, rfl, _, rfl, ?_⟩
      refine ite2 (fun _ => ?_) (fun _ => ?_)
      · refine ⟨_, rfl, _, rfl, pp, sc, 14, rfl, P2, by decide, by decide, fun d3 H3 f1 f2 P3 b3 => ?_⟩
        have hlt : d3.toNat < KEPT.length := by show d3.toNat < 14; omega
        have hg : (KEPT.map V.str)[d3.toNat]? = some (.str KEPT[d3.toNat]) := by rw [List.getElem?_map, List.getElem?_eq_getElem hlt]; rfl
        refine ⟨kl, KEPT.map V.str, d3, .str KEPT[d3.toNat], rfl, rfl, SqL.of (b3.at1 hk2 nkp), at_of (by omega) hg, ?_⟩
        exact ⟨_, rfl, kept_nm _ (List.getElem_mem _), P3, b02.trans b3⟩
      · exact ⟨_, rfl, nm_lt (by omega), P2, b02⟩
  · rintro σ' H' ⟨z0, rfl, hz0, P', b'⟩
    refine ⟨_, rfl, pp, sc, 26, rfl, P', by decide, by decide, fun s H4 s0 s1 P4 b4 => ?_⟩
    have b04 := b'.trans b4
    have hT4 : H4 tk = some (.lst (ts.map V.str)) := b04.at1 hT n1
    refine ⟨26, rfl, by decide, by decide, for_range (lo := 0) (n := 26) (fun i σ H5 => ∃ (z : Str) (v6 : Option V), σ = [some (.ref pp), some (.ref tk), some (.str LET), some (.ref kl), some (.int d1), some (.str z), v6, some (.int s)] ∧ IsNm z ∧ (z ∈ ts → ∀ j, j < i → lt1 ((s.toNat + j) % 26) ∈ ts) ∧ H5 = H4)
      ⟨z0, none, rfl, hz0, fun _ j hj => absurd hj (Nat.not_lt_zero _), rfl⟩ ?_ ?_⟩
    · rintro i σ H5 hi ⟨z, v6, rfl, hz, hin, rfl⟩
      refine ⟨_, rfl, _, rfl, tk, _, rfl, .inl (SqL.of hT4), rfl, flat_strs ts, _, rfl, ?_⟩
      refine ite2 (fun c => ?_) (fun c => ?_)
      · have hm : z ∈ ts := by
          have c' : inV (.str z) (ts.map V.str) = true := c
          rw [inV_str] at c'
          exact of_decide_eq_true c'
        have h0 : 0 ≤ (s + (0 + (i : Int))) % 26 := Int.emod_nonneg _ (by decide)
        have h1 : (s + (0 + (i : Int))) % 26 < 26 := Int.emod_lt_of_pos _ (by decide)
        have e : ((s + (0 + (i : Int))) % 26).toNat = (s.toNat + i) % 26 := by omega
        refine ⟨_, rfl, _, rfl, _, rfl, _, _, rfl, rfl, .inl ⟨_, rfl, _, _, rfl, rfl, (show (0 : Int) < 26 by decide), LET, _, _, rfl, rfl, let_len, let_at h0 h1, ?_⟩⟩
        refine ⟨lt1 ((s.toNat + i) % 26), _, by rw [← e]; rfl, nm_lt (Nat.mod_lt _ (by decide)), fun hx j hj => ?_, rfl⟩
        rcases Nat.lt_succ_iff_lt_or_eq.mp hj with q | q
        · exact hin hm j q
        · rw [q]; exact hx
      · refine ⟨z, _, rfl, hz, fun hx => ?_, rfl⟩
        exfalso
        apply c
        show inV (.str z) (ts.map V.str) = true
        rw [inV_str]
        exact decide_eq_true hx
    · rintro σ H5 ⟨z, v6, rfl, hz, hin, rfl⟩
      have hn : z ∉ ts := free_letter hl hin
      refine ⟨_, rfl, .inl ⟨rfl, _, SqL.of hT4⟩, _, rfl, tk, _, _, rfl, rfl, hT4, (by rw [List.length_map]; exact small1000 (by omega)), ?_⟩
      refine ⟨_, rfl, k z _ hz hn (P4.upd n1 n2) (by rw [upd_same, List.map_append]; rfl) ?_⟩
      exact (b04.mono (by simp)).put (.inl (by simp))
end
end K2
namespace K2
open PySem PySem.Spec PyProof.Rows L2
abbrev pDraw : List Str := ["_law_pool_here", "_law_many"]
abbrev sNames : Stmt := top 67
abbrev pNames : List Str := ["_law_pool_here", "_law_many", "_law_taken"]
abbrev nNames : List Str := ["_law_pool_here", "_law_many", "_law_taken", "_law_k"]
theorem scNames : FnScope nNames pNames (defScope sNames) := ⟨rfl, rfl, rfl, by decide +kernel, rfl, by decide +kernel, by decide +kernel⟩
def spNames : Sp := fun vs H Q _ => ∃ (pp sc tk : Addr) (m : Int), vs = [.ref pp, .int m, .ref tk] ∧ PoolAt H pp sc ∧ H tk = some (.lst []) ∧ tk ≠ pp ∧ tk ≠ sc ∧ 0 ≤ m ∧ m ≤ 4 ∧
  ∀ (l : Addr) (zs : List Str) (H' : Hp), H l = none → zs.length = m.toNat → zs.Nodup → (∀ z ∈ zs, IsNm z) → H' l = some (.lst (zs.map V.str)) → PoolAt H' pp sc → But [pp, tk] H H' → Q (.ref l) H'
abbrev sRow : Stmt := top 68
abbrev pRow : List Str := ["_law_pool_here", "_law_words"]
abbrev nRow : List Str := ["_law_pool_here", "_law_words", "_law_word"]
theorem scRow : FnScope nRow pRow (defScope sRow) := ⟨rfl, rfl, rfl, by decide +kernel, rfl, by decide +kernel, by decide +kernel⟩
def spRow : Sp := fun vs H Q _ => ∃ (pp sc wt : Addr) (ws : List Str), vs = [.ref pp, .ref wt] ∧ PoolAt H pp sc ∧ WT H wt (ws.map V.str) ∧ 0 < ws.length ∧ ws.length ≤ 3 ∧
  ∀ (r : Addr) (row : List Str) (H' : Hp), RowOk ws row → H' r = some (.tup (row.map V.str)) → PoolAt H' pp sc → But [pp] H H' → Q (.ref r) H'
abbrev sLeaf : Stmt := top 69
abbrev pLeaf : List Str := ["_law_pool_here", "_law_words", "_law_names_here"]
theorem scLeaf : FnScope pLeaf pLeaf (defScope sLeaf) := ⟨rfl, rfl, rfl, by decide +kernel, rfl, by decide +kernel, by decide +kernel⟩
def spLeaf : Sp := fun vs H Q _ => ∃ (pp sc wt nl : Addr) (ws ns : List Str), vs = [.ref pp, .ref wt, .ref nl] ∧ PoolAt H pp sc ∧ WT H wt (ws.map V.str) ∧ H nl = some (.lst (ns.map V.str)) ∧ nl ≠ pp ∧
  0 < ws.length ∧ ws.length ≤ 3 ∧ 0 < ns.length ∧ ns.length ≤ 4 ∧ (∀ n ∈ ns, IsNm n) ∧ ∀ (v : V) (e : Ex) (H' : Hp), ExAt H' v e → e.Ok ws ns → e.deep = 1 → PoolAt H' pp sc → But [pp] H H' → Q v H'
/-- texts in a list, compared with the empty list -/
theorem dp_strs {K : PySem.W.Frag} {H : Hp} : ∀ ts : List Str, DpAll K H (ts.map V.str) (ts.map PyData.str)
  | [] => .nil
  | _ :: r => .cons (.str _) (dp_strs r)
theorem let_small : ∀ c ∈ LET.cps.toList, c < 0x110000 := by decide +kernel
theorem nm_strOk {z : Str} (h : IsNm z) : PyData.strOk z = true := by
  unfold PyData.strOk
  rw [Array.all_eq_true_iff_forall_mem]
  intro c hc
  exact decide_eq_true (let_small c (h.2.2 c (Array.mem_toList_iff.mpr hc)))
theorem can_strs : ∀ {ts : List Str}, (∀ z ∈ ts, IsNm z) → PyData.canLayAll0 (ts.map PyData.str) = true
  | [], _ => rfl
  | a :: r, h => by simp [PyData.canLayAll0, PyData.canLay0, nm_strOk (h a List.mem_cons_self), can_strs fun z hz => h z (List.mem_cons_of_mem _ hz)]
theorem depth_strs : ∀ ts : List Str, PyData.depthAll (ts.map PyData.str) = 0
  | [] => rfl
  | _ :: r => by simp [PyData.depthAll, PyData.depth, depth_strs r]
theorem shaped_strs {ts : List Str} (h : ∀ z ∈ ts, IsNm z) : SeqAt.shaped (.list (ts.map PyData.str)) = true := by
  simp [SeqAt.shaped, PyData.canLay0, PyData.depth, can_strs h, depth_strs]
theorem eqv_strs (ts : List Str) : PyData.eqv (.list (ts.map PyData.str)) (.list []) = ts.isEmpty := by
  cases ts with
  | nil => simp [PyData.eqv, PyData.eqvAll]
  | cons a r => simp [PyData.eqv, PyData.eqvAll]
/-- an item of a list of texts -/
theorem str_at {ts : List Str} {i : Int} (h0 : 0 ≤ i) (h1 : i < ts.length) : ∃ z, atI (ts.map V.str) i = some (.str z) ∧ z ∈ ts := by
  have hn : i.toNat < ts.length := by omega
  exact ⟨ts[i.toNat], at_of (j := i.toNat) (by omega) (by rw [List.getElem?_map, List.getElem?_eq_getElem hn]; rfl), List.getElem_mem _⟩
section
variable {P : Program} {w : World} {K : PySem.W.Frag} {mg : Str → Option Value} {base : Heap}
theorem has_names (D : TD K mg "_law_names" sNames pNames) (B : Bi mg) (hN : Has P w K mg base "_law_name" 2 ["_law_pool_here", "_law_taken"] spName) : Has P w K mg base "_law_names" 3 pNames spNames := by
  refine D.has scNames (fun vs H Q E h => ?_) (fun f cdv A outer s H vs Q E hr h => ?_)
  · obtain ⟨pp, sc, tk, m, rfl, _⟩ := h
    rfl
  obtain ⟨pp, sc, tk, m, rfl, hP, hT, n1, n2, m0, m4, k⟩ := h
  refine ⟨_, pss_one (ps_ret (pe_lc (own := [("_law_k", 3)]) (g := gName 3) (by rfl) scNames.nd (pi_range1 rfl B.range (pa_cons (pv 1) pa_nil))
    (blkOk_by (own := [("_law_k", 3)]) (N := nNames) (sc := defScope sNames) (by decide +kernel)) (fun _ _ _ _ _ => pg_name (i := 3) scNames.nd rfl (Or.inl rfl)) (fun _ _ _ _ _ => pts_nil)
    (fun _ _ _ _ _ => pcall hN hr (by decide) (pa_cons (pv 0) (pa_cons (pv 2) pa_nil))))), ?_⟩
  refine ⟨_, rfl, m, rfl, by omega, by omega, fun D hD => ?_⟩
  obtain ⟨nD, nDs⟩ := hP.fresh hD
  have nDt : D ≠ tk := (ne_of_none hT hD).symm
  refine lc_range (lo := 0) (n := m.toNat) (fun i H' => ∃ zs : List Str, zs.length = i ∧ zs.Nodup ∧ (∀ z ∈ zs, IsNm z) ∧ H' D = some (.lst (zs.map V.str)) ∧ H' tk = some (.lst (zs.map V.str)) ∧ PoolAt H' pp sc ∧ But [pp, tk] H H')
    ⟨[], rfl, List.nodup_nil, by simp, upd_same, by rw [upd_ne nDt.symm]; exact hT, hP.same (same_new hD), But.new hD⟩ ?_ ?_
  · rintro i H4 hi ⟨zs, u1, u2, u3, u4, u5, u6, u7⟩
    refine ⟨rfl, ?_⟩
    refine ⟨_, rfl, _, rfl, pp, sc, tk, zs, rfl, u6, u5, n1, n2, by omega, fun z H5 g1 g2 P5 g3 b5 => ?_⟩
    refine ⟨zs.map V.str, b5 _ _ u4 (nin2 nD nDt), (by rw [List.length_map]; exact small1000 (by omega)), zs ++ [z], ?_, nd_snoc u2 g2, ?_, ?_, ?_, P5.upd nD nDs, (u7.trans b5).put (.inr hD)⟩
    · rw [List.length_append, u1]; rfl
    · intro y hy
      rcases List.mem_append.mp hy with q | q
      · exact u3 y q
      · rw [List.mem_singleton.mp q]; exact g1
    · rw [upd_same, List.map_append]; rfl
    · rw [upd_ne nDt.symm]; exact g3
  · rintro H4 ⟨zs, u1, u2, u3, u4, u5, u6, u7⟩
    exact k D zs H4 hD u1 u2 u3 u4 u6 u7
theorem has_row (D : TD K mg "_law_row" sRow pRow) (B : Bi mg) (hD : Has P w K mg base "_law_draw" 1 pDraw spDraw) : Has P w K mg base "_law_row" 2 pRow spRow := by
  refine D.has scRow (fun vs H Q E h => ?_) (fun f cdv A outer s H vs Q E hr h => ?_)
  · obtain ⟨pp, sc, wt, ws, rfl, _⟩ := h
    rfl
  obtain ⟨pp, sc, wt, ws, rfl, hP, hW, w0, w3, k⟩ := h
  refine ⟨_, pss_one (ps_ret (pe_callTy call_tuple_of (by rfl) B.tuple (by decide +kernel) (pa_cons (pe_lc (own := [("_law_word", 2)]) (g := gName 2) (by rfl) scRow.nd (pi_tup (pv 1))
    (blkOk_by (own := [("_law_word", 2)]) (N := nRow) (sc := defScope sRow) (by decide +kernel)) (fun _ _ _ _ _ => pg_name (i := 2) scRow.nd rfl (Or.inl rfl)) (fun _ _ _ _ _ => pts_nil)
    (fun _ _ _ _ _ => pe_ix (ix_tupK K) (pv 1) (pcall hD hr (by decide) (pa_cons (pv 0) (pa_cons (pe_callB (call_lenK K) (by rfl) B.len PySem.boot_len (pa_cons (pv 1) pa_nil)) pa_nil))) (fun _ _ => rfl))) pa_nil))), ?_⟩
  refine ⟨_, rfl, wt, rfl, ⟨_, hW.sq⟩, fun D hD => ?_⟩
  obtain ⟨nD, nDs⟩ := hP.fresh hD
  refine lc_tup (K := K) (a := wt) (xs := ws.map V.str) (fun i H' => ∃ zs : List Str, zs.length = i ∧ (∀ z ∈ zs, z ∈ ws) ∧ H' D = some (.lst (zs.map V.str)) ∧ WT H' wt (ws.map V.str) ∧ PoolAt H' pp sc ∧ But [pp] H H')
    ⟨[], rfl, by simp, upd_same, hW.same (same_new hD), hP.same (same_new hD), But.new hD⟩ (fun i H' _ ⟨_, _, _, _, q, _⟩ => q.sq) ?_ ?_
  · rintro i x H4 hx ⟨zs, u1, u2, u3, u4, u5, u6⟩
    have hi : i < ws.length := by
      have q := (List.getElem?_eq_some_iff.mp hx).1
      rw [List.length_map] at q
      exact q
    refine ⟨rfl, ?_⟩
    have hwl : ((ws.map V.str).length : Int) = ws.length := by rw [List.length_map]
    refine ⟨_, rfl, _, rfl, _, rfl, wt, _, rfl, .inr (u4.sq), pp, sc, _, rfl, u5, by omega, by omega, fun d H5 g1 g2 P5 b5 => ?_⟩
    obtain ⟨px, hpx⟩ := u5.lst
    have hW5 := u4.but1 b5 hpx
    rw [hwl] at g2
    obtain ⟨z, hz, hzw⟩ := str_at g1 g2
    refine ⟨wt, _, d, _, rfl, rfl, hW5.sq, hz, zs.map V.str, b5.at1 u3 nD, (by rw [List.length_map]; exact small1000 (by omega)), zs ++ [z], ?_, ?_, ?_, ?_, P5.upd nD nDs, (u6.trans b5).put (.inr hD)⟩
    · rw [List.length_append, u1]; rfl
    · intro y hy
      rcases List.mem_append.mp hy with q | q
      · exact u2 y q
      · rw [List.mem_singleton.mp q]; exact hzw
    · rw [upd_same, List.map_append]; rfl
    · exact hW5.updl (b5.at1 u3 nD)
  · rintro H4 ⟨zs, u1, u2, u3, u4, u5, u6⟩
    rw [List.length_map] at u1
    refine ⟨D, _, rfl, .inl ⟨SqL.of u3, fun l hl => ?_⟩⟩
    obtain ⟨nl, nls⟩ := u5.fresh hl
    exact k l zs _ ⟨u1, u2⟩ upd_same (u5.upd nl nls) (u6.put (.inr (u6.free hl (nin1 nl))))
theorem has_leaf (D : TD K mg "_law_leaf" sLeaf pLeaf) (B : Bi mg) (hD : Has P w K mg base "_law_draw" 1 pDraw spDraw) : Has P w K mg base "_law_leaf" 2 pLeaf spLeaf := by
  refine D.has scLeaf (fun vs H Q E h => ?_) (fun f cdv A outer s H vs Q E hr h => ?_)
  · obtain ⟨pp, sc, wt, nl, ws, ns, rfl, _⟩ := h
    rfl
  obtain ⟨pp, sc, wt, nl, ws, ns, rfl, hP, hW, hN, nnp, w0, w3, n0, n4, hnm, k⟩ := h
  refine ⟨_, pss_cons (ps_if (PW.pt (pw_and (pt_cmpR (op_neD hr.units) (pv 2) (pe_lst pa_nil) (nomark _)) (pw_and1 (pt_cmpR op_gt (pcall hD hr (by decide) (pa_cons (pv 0) (pa_cons pe_int pa_nil))) pe_int (nomark _)))))
      (pss_one (ps_ret (pe_tup (pa_cons pe_str (pa_cons (pe_ix ix_list (pv 2) (pcall hD hr (by decide) (pa_cons (pv 0) (pa_cons (pe_callB call_len_seq (by rfl) B.len PySem.boot_len (pa_cons (pv 2) pa_nil)) pa_nil))) (fun _ _ => rfl)) pa_nil))))) pss_nil)
    (pss_one (ps_ret (pe_tup (pa_cons pe_str (pa_cons (pe_ix ix_tup (pv 1) (pcall hD hr (by decide) (pa_cons (pv 0) (pa_cons (pe_callB call_len_seq (by rfl) B.len PySem.boot_len (pa_cons (pv 1) pa_nil)) pa_nil))) (fun _ _ => rfl)) pa_nil))))), ?_⟩
  have hwl : ((ws.map V.str).length : Int) = ws.length := by rw [List.length_map]
  have hnl : ((ns.map V.str).length : Int) = ns.length := by rw [List.length_map]
  -- a word
  have word : ∀ (H1 : Hp) (d0 : Unit), PoolAt H1 pp sc → But [pp] H H1 → WT H1 wt (ws.map V.str) → ∀ (d : Int) (H2 : Hp), 0 ≤ d → d < ((ws.map V.str).length : Int) → PoolAt H2 pp sc → But [pp] H1 H2 →
      ∃ x, WT H2 wt (ws.map V.str) ∧ atI (ws.map V.str) d = some (.str x) ∧ x ∈ ws := fun H1 _ P1 b1 w1 d H2 g1 g2 P2 b2 => by
    obtain ⟨px, hpx⟩ := P1.lst
    rw [hwl] at g2
    obtain ⟨z, hz, hzw⟩ := str_at g1 g2
    exact ⟨z, w1.but1 b2 hpx, hz, hzw⟩
  refine ⟨_, rfl, by decide, fun q hq => ?_⟩
  have P0 := hP.same (same_new (o := .lst []) hq)
  have b0 : But [pp] H (upd H q (.lst [])) := But.new hq
  have hN0 : (upd H q (.lst [])) nl = some (.lst (ns.map V.str)) := same_new hq _ _ hN
  have hW0 : WT (upd H q (.lst [])) wt (ws.map V.str) := hW.same (same_new hq)
  refine ⟨.list (ns.map PyData.str), .list [], .lst (SqL.of hN0) (dp_strs ns), .lst (SqL.of upd_same) .nil, shaped_strs hnm, rfl, _, rfl, ?_⟩
  have last : ∀ H1 : Hp, PoolAt H1 pp sc → But [pp] H H1 → WT H1 wt (ws.map V.str) → ∀ (z : Str) (H2 : Hp) (p : Addr), z ∈ ws → PoolAt H2 pp sc → But [pp] H1 H2 → H2 p = none → Q (.ref p) (upd H2 p (.tup [.str "word", .str z])) :=
    fun H1 P1 b1 w1 z H2 p hz P2 b2 hp => by
      obtain ⟨np, nps⟩ := P2.fresh hp
      have b02 := b1.trans b2
      exact k (.ref p) (.word z) _ ⟨p, rfl, upd_same⟩ hz rfl (P2.upd np nps) (b02.put (.inr (b02.free hp (nin1 np))))
  refine ite2 (fun _ => ?_) (fun _ => ?_)
  · refine ⟨_, rfl, pp, sc, 4, rfl, P0, by decide, by decide, fun d1 H1 a1 a2 P1 b1 => ?_⟩
    have b01 := b0.trans b1
    obtain ⟨px, hpx⟩ := P0.lst
    have hW1 := hW0.but1 b1 hpx
    have hN1 := b1.at1 hN0 nnp
    refine ⟨_, _, rfl, rfl, _, rfl, ?_⟩
    refine ite2 (fun _ => ?_) (fun _ => ?_)
    · refine ⟨_, rfl, _, rfl, _, rfl, nl, _, rfl, .inl (SqL.of hN1), pp, sc, _, rfl, P1, by omega, by omega, fun d2 H2 g1 g2 P2 b2 => ?_⟩
      rw [hnl] at g2
      obtain ⟨z, hz, hzw⟩ := str_at g1 g2
      refine ⟨nl, _, d2, _, rfl, rfl, SqL.of (b2.at1 hN1 nnp), hz, szl (by decide : 2 ≤ 100), fun p hp => ?_⟩
      obtain ⟨np, nps⟩ := P2.fresh hp
      have b02 := b01.trans b2
      exact k (.ref p) (.name z) _ ⟨p, rfl, upd_same⟩ hzw rfl (P2.upd np nps) (b02.put (.inr (b02.free hp (nin1 np))))
    · refine ⟨_, rfl, _, rfl, _, rfl, wt, _, rfl, .inr (hW1.sq), pp, sc, _, rfl, P1, by omega, by omega, fun d2 H2 g1 g2 P2 b2 => ?_⟩
      obtain ⟨z, w2, hz, hzw⟩ := word H1 () P1 b01 hW1 d2 H2 g1 g2 P2 b2
      exact ⟨wt, _, d2, _, rfl, rfl, w2.sq, hz, szl (by decide : 2 ≤ 100), fun p hp => last H1 P1 b01 hW1 z H2 p hzw P2 b2 hp⟩
  · refine ⟨_, rfl, _, rfl, _, rfl, wt, _, rfl, .inr (hW0.sq), pp, sc, _, rfl, P0, by omega, by omega, fun d2 H2 g1 g2 P2 b2 => ?_⟩
    obtain ⟨z, w2, hz, hzw⟩ := word _ () P0 b0 hW0 d2 H2 g1 g2 P2 b2
    exact ⟨wt, _, d2, _, rfl, rfl, w2.sq, hz, szl (by decide : 2 ≤ 100), fun p hp => last _ P0 b0 hW0 z H2 p hzw P2 b2 hp⟩
end
end K2
namespace K2
open PySem PySem.Spec PyProof.Rows L2
abbrev sGrow : Stmt := top 70
abbrev pGrow : List Str := ["_law_pool_here", "_law_words", "_law_names_here", "_law_room", "_law_depth"]
abbrev nGrow : List Str := ["_law_pool_here", "_law_words", "_law_names_here", "_law_room", "_law_depth", "_law_kind", "_law_left", "_law_rows", "_law_first", "_law_word"]
theorem scGrow : FnScope nGrow pGrow (defScope sGrow) := ⟨rfl, rfl, rfl, by decide +kernel, rfl, by decide +kernel, by decide +kernel⟩
/-- what stands when an expression is drawn -/
structure Ground (H : Hp) (pp sc wt nl : Addr) (ws ns : List Str) : Prop where
  P : PoolAt H pp sc
  W : WT H wt (ws.map V.str)
  N : H nl = some (.lst (ns.map V.str))
  ne : nl ≠ pp
theorem Ground.to {H H' : Hp} {pp sc wt nl : Addr} {ws ns : List Str} (G : Ground H pp sc wt nl ws ns) (P : PoolAt H' pp sc) (b : But [pp] H H') : Ground H' pp sc wt nl ws ns := by
  obtain ⟨px, hpx⟩ := G.P.lst
  exact ⟨P, G.W.but1 b hpx, b.at1 G.N G.ne, G.ne⟩
theorem Ground.new {H : Hp} {pp sc wt nl p : Addr} {ws ns : List Str} {o : HO} (G : Ground H pp sc wt nl ws ns) (h : H p = none) : Ground (upd H p o) pp sc wt nl ws ns := by
  obtain ⟨n1, n2⟩ := G.P.fresh h
  exact G.to (G.P.upd n1 n2) (But.new h)
theorem Ground.to' {H : Hp} {pp sc wt nl D : Addr} {ws ns : List Str} {ys zs : List V} (G : Ground H pp sc wt nl ws ns) (h : D ≠ pp) (h2 : D ≠ sc) (hD : H D = some (.lst ys)) (hn : D ≠ nl := by assumption) : Ground (upd H D (.lst zs)) pp sc wt nl ws ns :=
  ⟨G.P.upd h h2, G.W.updl hD, by rw [upd_ne hn.symm]; exact G.N, G.ne⟩
/-- the sizes of the words and names -/
structure Sizes (ws ns : List Str) : Prop where
  w0 : 0 < ws.length
  w3 : ws.length ≤ 3
  n0 : 0 < ns.length
  n4 : ns.length ≤ 4
  nm : ∀ n ∈ ns, IsNm n
def spGrow (n : Nat) : Sp := fun vs H Q _ => ∃ (pp sc wt nl : Addr) (ws ns : List Str) (room dep : Int), vs = [.ref pp, .ref wt, .ref nl, .int room, .int dep] ∧ Ground H pp sc wt nl ws ns ∧ Sizes ws ns ∧
  1 ≤ room ∧ room ≤ 9 ∧ 1 ≤ dep ∧ dep ≤ 4 ∧ 5 ≤ dep + n ∧ ∀ (v : V) (e : Ex) (H' : Hp), ExAt H' v e → e.Ok ws ns → (e.deep : Int) ≤ 5 - dep → PoolAt H' pp sc → But [pp] H H' → Q v H'
section
variable {P : Program} {w : World} {K : PySem.W.Frag} {mg : Str → Option Value} {base : Heap}
theorem has_grow1 {n : Nat} (D : TD K mg "_law_grow" sGrow pGrow) (B : Bi mg) (hD : Has P w K mg base "_law_draw" 1 pDraw spDraw) (hR : Has P w K mg base "_law_row" 2 pRow spRow) (hL : Has P w K mg base "_law_leaf" 2 pLeaf spLeaf)
    (hG : Has P w K mg base "_law_grow" (n + 2) pGrow (spGrow n)) : Has P w K mg base "_law_grow" (n + 1 + 2) pGrow (spGrow (n + 1)) := by
  refine D.has (k := n + 2) scGrow (fun vs H Q E h => ?_) (fun f cdv A outer s H vs Q E hr h => ?_)
  · obtain ⟨pp, sc, wt, nl, ws, ns, room, dep, rfl, _⟩ := h
    rfl
  obtain ⟨pp, sc, wt, nl, ws, ns, room, dep, rfl, G, S, r1, r9, d1, d4, d5, k⟩ := h
  have l1 : 1 ≤ n + 2 := by omega
  have l2 : 2 ≤ n + 2 := by omega
  refine ⟨_, pss_cons (ps_set (i := 5) scGrow.nd rfl (Or.inl rfl) (pcall hD hr l1 (pa_cons (pv 0) (pa_cons pe_int pa_nil))))
    (pss_cons (ps_if (PW.pt (pw_or (pt_cmpR op_eq (pv 4) pe_int (nomark _)) (pw_or (pt_cmpR op_lt (pv 3) pe_int (nomark _)) (pw_or1 (pt_cmpR op_eq (pv 5) pe_int (nomark _))))))
      (pss_one (ps_ret (pcall hL hr l2 (pa_cons (pv 0) (pa_cons (pv 1) (pa_cons (pv 2) pa_nil)))))) pss_nil)
    (pss_cons (ps_if (PW.pt (pw_or (pt_cmpR op_lt (pv 3) pe_int (nomark _)) (pw_or1 (pt_cmpR op_lt (pv 5) pe_int (nomark _)))))
      (pss_one (ps_ret (pe_tup (pa_cons pe_str (pa_cons (pcall hR hr l2 (pa_cons (pv 0) (pa_cons (pv 1) pa_nil))) (pa_cons (pcall hG hr (Nat.le_refl _) (pa_cons (pv 0) (pa_cons (pv 1) (pa_cons (pv 2) (pa_cons (pe_op op_sub (pv 3) pe_int) (pa_cons (pe_op op_add (pv 4) pe_int) pa_nil)))))) pa_nil)))))) pss_nil)
    (pss_cons (ps_set (i := 6) scGrow.nd rfl (Or.inl rfl) (pe_op op_add pe_int (pcall hD hr l1 (pa_cons (pv 0) (pa_cons (pe_op op_sub (pv 3) pe_int) pa_nil)))))
    (pss_cons (ps_set (i := 7) scGrow.nd rfl (Or.inl rfl) (pe_callTy call_tuple_of (by rfl) B.tuple (by decide +kernel) (pa_cons (pe_lc (own := [("_law_word", 9)]) (g := gName 9) (by rfl) scGrow.nd (pi_tup (pv 1))
      (blkOk_by (own := [("_law_word", 9)]) (N := nGrow) (sc := defScope sGrow) (by decide +kernel)) (fun _ _ _ _ _ => pg_name (i := 9) scGrow.nd rfl (Or.inl rfl)) (fun _ _ _ _ _ => pts_nil)
      (fun _ _ _ _ _ => pcall hR hr l2 (pa_cons (pv 0) (pa_cons (pv 1) pa_nil)))) pa_nil)))
    (pss_cons (ps_set (i := 8) scGrow.nd rfl (Or.inl rfl) (pcall hG hr (Nat.le_refl _) (pa_cons (pv 0) (pa_cons (pv 1) (pa_cons (pv 2) (pa_cons (pv 6) (pa_cons (pe_op op_add (pv 4) pe_int) pa_nil)))))))
    (pss_one (ps_ret (pe_tup (pa_cons pe_str (pa_cons (pv 7) (pa_cons (pv 8) (pa_cons (pcall hG hr (Nat.le_refl _) (pa_cons (pv 0) (pa_cons (pv 1) (pa_cons (pv 2) (pa_cons (pe_op op_sub (pe_op op_sub (pv 3) pe_int) (pv 6)) (pa_cons (pe_op op_add (pv 4) pe_int) pa_nil)))))) pa_nil)))))))))))), ?_⟩
  refine ⟨_, rfl, pp, sc, 6, rfl, G.P, by decide, by decide, fun kd H1 a1 a2 P1 b1 => ?_⟩
  have G1 := G.to P1 b1
  -- a leaf
  have leaf : spLeaf [V.ref pp, .ref wt, .ref nl] H1 Q E0 := ⟨pp, sc, wt, nl, ws, ns, rfl, P1, G1.W, G1.N, G1.ne, S.w0, S.w3, S.n0, S.n4, S.nm, fun v e H2 q1 q2 q3 P2 b2 => k v e H2 q1 q2 (by omega) P2 (b1.trans b2)⟩
  refine ⟨_, rfl, rfl, _, rfl, ?_⟩
  refine ite2 (fun _ => ⟨_, rfl, _, rfl, _, rfl, leaf⟩) (fun c1 => ?_)
  have hd4 : ¬ dep = 4 := fun z => c1 (decide_eq_true (congrArg V.int z))
  refine ⟨_, rfl, _, _, rfl, rfl, _, rfl, ?_⟩
  refine ite2 (fun _ => ⟨_, rfl, _, rfl, _, rfl, leaf⟩) (fun c2 => ?_)
  have hr2 : ¬ room < 2 := fun z => c2 (decide_eq_true z)
  refine ⟨_, rfl, rfl, _, rfl, ?_⟩
  refine ite2 (fun _ => ⟨_, rfl, _, rfl, _, rfl, leaf⟩) (fun _ => ?_)
  -- a map
  refine ⟨_, rfl, _, _, rfl, rfl, _, rfl, ?_⟩
  refine ite2 (fun _ => ?y1) (fun c3 => ?n1)
  case' n1 =>
    refine ⟨_, rfl, _, _, rfl, rfl, _, rfl, ?_⟩
    refine ite2 (fun _ => ?y2) (fun _ => ?nn)
  case y1 | y2 =>
    refine ⟨_, rfl, _, rfl, pp, sc, wt, ws, rfl, P1, G1.W, S.w0, S.w3, fun r row H2 g1 g2 P2 b2 => ?_⟩
    have G2 := G1.to P2 b2
    refine ⟨_, rfl, _, rfl, _, rfl, _, rfl, _, _, rfl, rfl, _, rfl, _, _, rfl, rfl, pp, sc, wt, nl, ws, ns, room - 1, dep + 1, rfl, G2, S, by omega, by omega, by omega, by omega, by omega, fun v e H3 q1 q2 q3 P3 b3 => ?_⟩
    refine ⟨szl (by decide : 3 ≤ 100), fun p hp => ?_⟩
    have G3 := G2.to P3 b3
    have b03 := (b1.trans b2).trans b3
    obtain ⟨px, hpx⟩ := P2.lst
    obtain ⟨n1, n2⟩ := P3.fresh hp
    have T := Tups.same (same_new (o := .tup [.str "map", .ref r, v]) hp)
    refine k (.ref p) (.map row e) _ ⟨p, r, v, rfl, upd_same, T _ _ (b3.tups1 hpx _ _ g2), q1.mono T⟩ ⟨g1, q2⟩ ?_ (P3.upd n1 n2) (b03.put (.inr (b03.free hp (nin1 n1))))
    show ((1 + e.deep : Nat) : Int) ≤ 5 - dep
    omega
  case nn =>
    have hr3 : ¬ room < 3 := fun z => c3 (decide_eq_true z)
    -- a pair
    refine ⟨_, rfl, _, rfl, _, _, rfl, rfl, pp, sc, room - 2, rfl, P1, by omega, by omega, fun lf H2 f1 f2 P2 b2 => ?_⟩
    refine ⟨_, _, rfl, rfl, ?_⟩
    have G2 := G1.to P2 b2
    refine ⟨_, rfl, wt, rfl, ⟨_, G2.W.sq⟩, fun D hD => ?_⟩
    obtain ⟨nD, nDs⟩ := P2.fresh hD
    have nDn : D ≠ nl := (ne_of_none G2.N hD).symm
    refine lc_tup (K := K) (a := wt) (xs := ws.map V.str) (fun i H' => ∃ (vs : List V) (t : List (List Str)), vs.length = i ∧ RowsAt H' vs t ∧ (∀ r ∈ t, RowOk ws r) ∧ H' D = some (.lst vs) ∧ Ground H' pp sc wt nl ws ns ∧ But [pp] H2 H')
      ⟨[], [], rfl, trivial, by simp, upd_same, G2.new hD, But.new hD⟩ (fun i H' _ ⟨_, _, _, _, _, _, q, _⟩ => q.W.sq) ?_ ?_
    · rintro i x H4 hx ⟨vs, t, u1, u2, u3, u4, u5, u6⟩
      have hi : i < ws.length := by
        have q := (List.getElem?_eq_some_iff.mp hx).1
        rw [List.length_map] at q
        exact q
      have w3 := S.w3
      refine ⟨rfl, ?_⟩
      refine ⟨_, rfl, _, rfl, pp, sc, wt, ws, rfl, u5.P, u5.W, S.w0, S.w3, fun r row H5 g1 g2 P5 b5 => ?_⟩
      obtain ⟨px, hpx⟩ := u5.P.lst
      have h5 := b5.at1 u4 nD
      have T1 := b5.tups1 hpx
      have T2 : Tups H5 (upd H5 D (.lst (vs ++ [.ref r]))) := Tups.upd_lst h5
      refine ⟨vs, h5, small1000 (by omega), vs ++ [.ref r], t ++ [row], ?_, ((u2.mono T1).snoc g2).mono T2, ?_, upd_same, (u5.to P5 b5).to' nD nDs h5, (u6.trans b5).put (.inr hD)⟩
      · rw [List.length_append, u1]; rfl
      · intro y hy
        rcases List.mem_append.mp hy with q | q
        · exact u3 y q
        · rw [List.mem_singleton.mp q]; exact g1
    · rintro H4 ⟨vs, t, u1, u2, u3, u4, u5, u6⟩
      rw [List.length_map] at u1
      refine ⟨D, _, rfl, .inl ⟨SqL.of u4, fun tb htb => ?_⟩⟩
      have G5 := u5.new (o := .tup vs) htb
      have T5 := Tups.same (same_new (o := .tup vs) htb)
      have b5 : But [pp] H2 (upd H4 tb (.tup vs)) := u6.trans (But.new htb)
      refine ⟨_, rfl, _, rfl, _, rfl, _, rfl, _, rfl, _, _, rfl, rfl, pp, sc, wt, nl, ws, ns, 1 + lf, dep + 1, rfl, G5, S, by omega, by omega, by omega, by omega, by omega, fun v e H6 q1 q2 q3 P6 b6 => ?_⟩
      have G6 := G5.to P6 b6
      refine ⟨_, rfl, _, rfl, _, rfl, _, rfl, _, rfl, _, rfl, _, _, rfl, rfl, _, rfl, _, _, rfl, rfl, _, rfl, _, _, rfl, rfl, pp, sc, wt, nl, ws, ns, room - 1 - (1 + lf), dep + 1, rfl, G6, S, by omega, by omega, by omega, by omega, by omega, fun v2 e2 H7 p1 p2 p3 P7 b7 => ?_⟩
      refine ⟨szl (by decide : 4 ≤ 100), fun p hp => ?_⟩
      obtain ⟨px, hpx⟩ := G5.P.lst
      obtain ⟨py, hpy⟩ := P6.lst
      have t6 := b6.tups1 hpx
      have t7 := b7.tups1 hpy
      have T := Tups.same (same_new (o := .tup [.str "pair", .ref tb, v, v2]) hp)
      obtain ⟨n1, n2⟩ := P7.fresh hp
      have b07 := ((((b1.trans b2).trans b5).trans b6).trans b7)
      have tt := (t6.trans t7).trans T
      refine k (.ref p) (.pair t e e2) _ ⟨p, tb, v, v2, vs, rfl, upd_same, tt _ _ upd_same, (u2.mono T5).mono tt, q1.mono (t7.trans T), p1.mono T⟩ ⟨⟨by rw [← u2.len, u1], u3⟩, q2, p2⟩ ?_ (P7.upd n1 n2) (b07.put (.inr (b07.free hp (nin1 n1))))
      show ((1 + max e.deep e2.deep : Nat) : Int) ≤ 5 - dep
      omega
end
end K2
namespace K2
open PySem PySem.Spec PyProof.Rows L2
abbrev sExpr : Stmt := top 71
abbrev pExpr : List Str := ["_law_pool_here", "_law_words", "_law_names_here"]
abbrev nExpr : List Str := ["_law_pool_here", "_law_words", "_law_names_here", "_law_room"]
theorem scExpr : FnScope nExpr pExpr (defScope sExpr) := ⟨rfl, rfl, rfl, by decide +kernel, rfl, by decide +kernel, by decide +kernel⟩
def spExpr : Sp := fun vs H Q _ => ∃ (pp sc wt nl : Addr) (ws ns : List Str), vs = [.ref pp, .ref wt, .ref nl] ∧ Ground H pp sc wt nl ws ns ∧ Sizes ws ns ∧
  ∀ (v : V) (e : Ex) (H' : Hp), ExAt H' v e → e.Ok ws ns → e.deep ≤ 4 → PoolAt H' pp sc → But [pp] H H' → Q v H'
section
variable {P : Program} {w : World} {K : PySem.W.Frag} {mg : Str → Option Value} {base : Heap}
theorem has_grow (D : TD K mg "_law_grow" sGrow pGrow) (B : Bi mg) (hD : Has P w K mg base "_law_draw" 1 pDraw spDraw) (hR : Has P w K mg base "_law_row" 2 pRow spRow) (hL : Has P w K mg base "_law_leaf" 2 pLeaf spLeaf) :
    ∀ n : Nat, Has P w K mg base "_law_grow" (n + 2) pGrow (spGrow n)
  | 0 => (Has.none D fun vs H Q E h => by
      obtain ⟨_, _, _, _, _, _, _, _, _, _, _, _, _, _, h4, h5, _⟩ := h
      omega).mono (Nat.zero_le _)
  | n + 1 => has_grow1 D B hD hR hL (has_grow D B hD hR hL n)
theorem six_at {d : Int} (h0 : 0 ≤ d) (h1 : d < 6) : ∃ z : Int, atI [V.int 1, .int 1, .int 2, .int 3, .int 4, .int 9] d = some (.int z) ∧ 1 ≤ z ∧ z ≤ 9 := by
  have h : d = 0 ∨ d = 1 ∨ d = 2 ∨ d = 3 ∨ d = 4 ∨ d = 5 := by omega
  rcases h with rfl | rfl | rfl | rfl | rfl | rfl
  · exact ⟨1, rfl, by decide, by decide⟩
  · exact ⟨1, rfl, by decide, by decide⟩
  · exact ⟨2, rfl, by decide, by decide⟩
  · exact ⟨3, rfl, by decide, by decide⟩
  · exact ⟨4, rfl, by decide, by decide⟩
  · exact ⟨9, rfl, by decide, by decide⟩
theorem has_expr (D : TD K mg "_law_expr" sExpr pExpr) (B : Bi mg) (hD : Has P w K mg base "_law_draw" 1 pDraw spDraw) (hG : Has P w K mg base "_law_grow" 6 pGrow (spGrow 4)) : Has P w K mg base "_law_expr" 7 pExpr spExpr := by
  refine D.has scExpr (fun vs H Q E h => ?_) (fun f cdv A outer s H vs Q E hr h => ?_)
  · obtain ⟨pp, sc, wt, nl, ws, ns, rfl, _⟩ := h
    rfl
  obtain ⟨pp, sc, wt, nl, ws, ns, rfl, G, S, k⟩ := h
  refine ⟨_, pss_cons (ps_set (i := 3) scExpr.nd rfl (Or.inl rfl) (pe_ix ix_list (pe_lst (pa_cons pe_int (pa_cons pe_int (pa_cons pe_int (pa_cons pe_int (pa_cons pe_int (pa_cons pe_int pa_nil))))))) (pcall hD hr (by decide) (pa_cons (pv 0) (pa_cons pe_int pa_nil))) (fun _ _ => rfl)))
    (pss_one (ps_ret (pcall hG hr (by decide) (pa_cons (pv 0) (pa_cons (pv 1) (pa_cons (pv 2) (pa_cons (pv 3) (pa_cons pe_int pa_nil)))))))), ?_⟩
  refine ⟨szl (by decide : 6 ≤ 100), fun p hp => ?_⟩
  have G0 := G.new (o := .lst [V.int 1, .int 1, .int 2, .int 3, .int 4, .int 9]) hp
  obtain ⟨n1, n2⟩ := G.P.fresh hp
  have b0 : But [pp] H (upd H p (.lst [V.int 1, .int 1, .int 2, .int 3, .int 4, .int 9])) := But.new hp
  refine ⟨_, rfl, pp, sc, 6, rfl, G0.P, by decide, by decide, fun d H1 a1 a2 P1 b1 => ?_⟩
  obtain ⟨z, hz, z1, z9⟩ := six_at a1 a2
  refine ⟨p, _, d, _, rfl, rfl, SqL.of (b1.at1 upd_same n1), hz, ?_⟩
  refine ⟨_, rfl, _, rfl, _, rfl, _, rfl, pp, sc, wt, nl, ws, ns, z, 1, rfl, G0.to P1 b1, S, z1, z9, by decide, by decide, by decide, fun v e H2 q1 q2 q3 P2 b2 => ?_⟩
  exact k v e H2 q1 q2 (by omega) P2 ((b0.trans b1).trans b2)
end
/-! ### pure defs over expressions -/
abbrev pOne : List Str := ["_law_expr_here"]
abbrev sSize : Stmt := top 72
theorem scSize : FnScope pOne pOne (defScope sSize) := ⟨rfl, rfl, rfl, by decide +kernel, rfl, by decide +kernel, by decide +kernel⟩
abbrev sDeep : Stmt := top 73
theorem scDeep : FnScope pOne pOne (defScope sDeep) := ⟨rfl, rfl, rfl, by decide +kernel, rfl, by decide +kernel, by decide +kernel⟩
abbrev sUsed : Stmt := top 74
theorem scUsed : FnScope pOne pOne (defScope sUsed) := ⟨rfl, rfl, rfl, by decide +kernel, rfl, by decide +kernel, by decide +kernel⟩
/-- an int of an expression at most n deep -/
def spInt (n : Nat) : Sp := fun vs H Q _ => ∃ (v : V) (e : Ex), vs = [v] ∧ ExAt H v e ∧ e.deep ≤ n ∧ ∀ z : Int, Q (.int z) H
def spUsed (n : Nat) : Sp := fun vs H Q _ => ∃ (v : V) (e : Ex), vs = [v] ∧ ExAt H v e ∧ e.deep ≤ n ∧ n ≤ 4 ∧ ∀ (l : Addr) (H' : Hp), H l = none → H' l = some (.lst (e.used.map V.str)) → Same H H' → Q (.ref l) H'
section
variable {P : Program} {w : World} {K : PySem.W.Frag} {mg : Str → Option Value} {base : Heap}
theorem has_size1 {n : Nat} (D : TD K mg "_law_size" sSize pOne) (B : Bi mg) (hS : Has P w K mg base "_law_size" n pOne (spInt n)) : Has P w K mg base "_law_size" (n + 1) pOne (spInt (n + 1)) := by
  refine D.has scSize (fun vs H Q E h => ?_) (fun f cdv A outer s H vs Q E hr h => ?_)
  · obtain ⟨v, e, rfl, _⟩ := h
    rfl
  obtain ⟨v, e, rfl, he, hd, k⟩ := h
  refine ⟨_, pss_cons (ps_if (pt_cmpR op_eq (pe_ix ix_tup (pv 0) pe_int (fun _ _ => rfl)) pe_str (nomark _)) (pss_one (ps_ret (pe_op op_add pe_int (pcall hS hr (Nat.le_refl _) (pa_cons (pe_ix ix_tup (pv 0) pe_int (fun _ _ => rfl)) pa_nil))))) pss_nil)
    (pss_cons (ps_if (pt_cmpR op_eq (pe_ix ix_tup (pv 0) pe_int (fun _ _ => rfl)) pe_str (nomark _)) (pss_one (ps_ret (pe_op op_add (pe_op op_add pe_int (pcall hS hr (Nat.le_refl _) (pa_cons (pe_ix ix_tup (pv 0) pe_int (fun _ _ => rfl)) pa_nil))) (pcall hS hr (Nat.le_refl _) (pa_cons (pe_ix ix_tup (pv 0) pe_int (fun _ _ => rfl)) pa_nil))))) pss_nil)
    (pss_one (ps_ret pe_int))), ?_⟩
  cases e with
  | word x =>
    obtain ⟨a, rfl, ha⟩ := he
    refine ⟨_, rfl, a, _, 0, _, rfl, rfl, SqT.of ha, rfl, rfl, _, rfl, ?_⟩
    refine ⟨_, rfl, a, _, 0, _, rfl, rfl, SqT.of ha, rfl, rfl, _, rfl, ?_⟩
    exact k _
  | name x =>
    obtain ⟨a, rfl, ha⟩ := he
    refine ⟨_, rfl, a, _, 0, _, rfl, rfl, SqT.of ha, rfl, rfl, _, rfl, ?_⟩
    refine ⟨_, rfl, a, _, 0, _, rfl, rfl, SqT.of ha, rfl, rfl, _, rfl, ?_⟩
    exact k _
  | map r e =>
    obtain ⟨a, b, x, rfl, ha, hb, hx⟩ := he
    have hd' : 1 + e.deep ≤ n + 1 := hd
    refine ⟨_, rfl, a, _, 0, _, rfl, rfl, SqT.of ha, rfl, rfl, _, rfl, ?_⟩
    refine ⟨_, rfl, a, _, 2, _, rfl, rfl, SqT.of ha, rfl, x, e, rfl, hx, by omega, fun z => ?_⟩
    exact ⟨_, _, rfl, rfl, k _⟩
  | pair t e f =>
    obtain ⟨a, b, x, y, rs, rfl, ha, hb, hrs, hx, hy⟩ := he
    have hd' : 1 + max e.deep f.deep ≤ n + 1 := hd
    refine ⟨_, rfl, a, _, 0, _, rfl, rfl, SqT.of ha, rfl, rfl, _, rfl, ?_⟩
    refine ⟨_, rfl, a, _, 0, _, rfl, rfl, SqT.of ha, rfl, rfl, _, rfl, ?_⟩
    refine ⟨_, rfl, a, _, 2, _, rfl, rfl, SqT.of ha, rfl, x, e, rfl, hx, by omega, fun z => ?_⟩
    refine ⟨_, _, rfl, rfl, _, rfl, a, _, 3, _, rfl, rfl, SqT.of ha, rfl, y, f, rfl, hy, by omega, fun z2 => ?_⟩
    exact ⟨_, _, rfl, rfl, k _⟩
end
end K2
namespace K2
open PySem PySem.Spec PyProof.Rows L2
abbrev sPut : Stmt := top 75
abbrev pPut : List Str := ["_law_expr_here", "_law_name_here", "_law_other"]
theorem scPut : FnScope pPut pPut (defScope sPut) := ⟨rfl, rfl, rfl, by decide +kernel, rfl, by decide +kernel, by decide +kernel⟩
def spPut (n : Nat) : Sp := fun vs H Q _ => ∃ (v vo : V) (nm : Str) (e o : Ex), vs = [v, .str nm, vo] ∧ ExAt H v e ∧ ExAt H vo o ∧ e.deep ≤ n ∧ ∀ (v' : V) (H' : Hp), ExAt H' v' (Ex.put nm o e) → Same H H' → Q v' H'
theorem ExAt.same {H H' : Hp} {v : V} {e : Ex} (h : ExAt H v e) (s : Same H H') : ExAt H' v e := h.mono (Tups.same s)
section
variable {P : Program} {w : World} {K : PySem.W.Frag} {mg : Str → Option Value} {base : Heap}
theorem has_deep1 {n : Nat} (D : TD K mg "_law_deep" sDeep pOne) (B : Bi mg) (hS : Has P w K mg base "_law_deep" n pOne (spInt n)) : Has P w K mg base "_law_deep" (n + 1) pOne (spInt (n + 1)) := by
  refine D.has scDeep (fun vs H Q E h => ?_) (fun f cdv A outer s H vs Q E hr h => ?_)
  · obtain ⟨v, e, rfl, _⟩ := h
    rfl
  obtain ⟨v, e, rfl, he, hd, k⟩ := h
  refine ⟨_, pss_cons (ps_if (pt_cmpR op_eq (pe_ix ix_tup (pv 0) pe_int (fun _ _ => rfl)) pe_str (nomark _)) (pss_one (ps_ret (pe_op op_add pe_int (pcall hS hr (Nat.le_refl _) (pa_cons (pe_ix ix_tup (pv 0) pe_int (fun _ _ => rfl)) pa_nil))))) pss_nil)
    (pss_cons (ps_if (pt_cmpR op_eq (pe_ix ix_tup (pv 0) pe_int (fun _ _ => rfl)) pe_str (nomark _)) (pss_one (ps_ret (pe_op op_add pe_int (pe_callB (call_max2 rfl) (by rfl) B.max PyProof.Rows.boot_max (pa_cons (pcall hS hr (Nat.le_refl _) (pa_cons (pe_ix ix_tup (pv 0) pe_int (fun _ _ => rfl)) pa_nil)) (pa_cons (pcall hS hr (Nat.le_refl _) (pa_cons (pe_ix ix_tup (pv 0) pe_int (fun _ _ => rfl)) pa_nil)) pa_nil)))))) pss_nil)
    (pss_one (ps_ret pe_int))), ?_⟩
  cases e with
  | word x =>
    obtain ⟨a, rfl, ha⟩ := he
    refine ⟨_, rfl, a, _, 0, _, rfl, rfl, SqT.of ha, rfl, rfl, _, rfl, ?_⟩
    refine ⟨_, rfl, a, _, 0, _, rfl, rfl, SqT.of ha, rfl, rfl, _, rfl, ?_⟩
    exact k _
  | name x =>
    obtain ⟨a, rfl, ha⟩ := he
    refine ⟨_, rfl, a, _, 0, _, rfl, rfl, SqT.of ha, rfl, rfl, _, rfl, ?_⟩
    refine ⟨_, rfl, a, _, 0, _, rfl, rfl, SqT.of ha, rfl, rfl, _, rfl, ?_⟩
    exact k _
  | map r e =>
    obtain ⟨a, b, x, rfl, ha, hb, hx⟩ := he
    have hd' : 1 + e.deep ≤ n + 1 := hd
    refine ⟨_, rfl, a, _, 0, _, rfl, rfl, SqT.of ha, rfl, rfl, _, rfl, ?_⟩
    refine ⟨_, rfl, a, _, 2, _, rfl, rfl, SqT.of ha, rfl, x, e, rfl, hx, by omega, fun z => ?_⟩
    exact ⟨_, _, rfl, rfl, k _⟩
  | pair t e f =>
    obtain ⟨a, b, x, y, rs, rfl, ha, hb, hrs, hx, hy⟩ := he
    have hd' : 1 + max e.deep f.deep ≤ n + 1 := hd
    refine ⟨_, rfl, a, _, 0, _, rfl, rfl, SqT.of ha, rfl, rfl, _, rfl, ?_⟩
    refine ⟨_, rfl, a, _, 0, _, rfl, rfl, SqT.of ha, rfl, rfl, _, rfl, ?_⟩
    refine ⟨_, rfl, a, _, 2, _, rfl, rfl, SqT.of ha, rfl, x, e, rfl, hx, by omega, fun z => ?_⟩
    refine ⟨_, rfl, a, _, 3, _, rfl, rfl, SqT.of ha, rfl, y, f, rfl, hy, by omega, fun z2 => ?_⟩
    exact ⟨_, _, rfl, _, _, rfl, rfl, k _⟩
theorem has_used1 {n : Nat} (D : TD K mg "_law_used" sUsed pOne) (B : Bi mg) (hS : Has P w K mg base "_law_used" n pOne (spUsed n)) : Has P w K mg base "_law_used" (n + 1) pOne (spUsed (n + 1)) := by
  refine D.has scUsed (fun vs H Q E h => ?_) (fun f cdv A outer s H vs Q E hr h => ?_)
  · obtain ⟨v, e, rfl, _⟩ := h
    rfl
  obtain ⟨v, e, rfl, he, hd, hn, k⟩ := h
  refine ⟨_, pss_cons (ps_if (pt_cmpR op_eq (pe_ix ix_tup (pv 0) pe_int (fun _ _ => rfl)) pe_str (nomark _)) (pss_one (ps_ret (pe_lst (pa_cons (pe_ix ix_tup (pv 0) pe_int (fun _ _ => rfl)) pa_nil)))) pss_nil)
    (pss_cons (ps_if (pt_cmpR op_eq (pe_ix ix_tup (pv 0) pe_int (fun _ _ => rfl)) pe_str (nomark _)) (pss_one (ps_ret (pcall hS hr (Nat.le_refl _) (pa_cons (pe_ix ix_tup (pv 0) pe_int (fun _ _ => rfl)) pa_nil)))) pss_nil)
    (pss_cons (ps_if (pt_cmpR op_eq (pe_ix ix_tup (pv 0) pe_int (fun _ _ => rfl)) pe_str (nomark _)) (pss_one (ps_ret (pe_op op_cat (pcall hS hr (Nat.le_refl _) (pa_cons (pe_ix ix_tup (pv 0) pe_int (fun _ _ => rfl)) pa_nil)) (pcall hS hr (Nat.le_refl _) (pa_cons (pe_ix ix_tup (pv 0) pe_int (fun _ _ => rfl)) pa_nil))))) pss_nil)
    (pss_one (ps_ret (pe_lst pa_nil))))), ?_⟩
  cases e with
  | word x =>
    obtain ⟨a, rfl, ha⟩ := he
    refine ⟨_, rfl, a, _, 0, _, rfl, rfl, SqT.of ha, rfl, rfl, _, rfl, ?_⟩
    refine ⟨_, rfl, a, _, 0, _, rfl, rfl, SqT.of ha, rfl, rfl, _, rfl, ?_⟩
    refine ⟨_, rfl, a, _, 0, _, rfl, rfl, SqT.of ha, rfl, rfl, _, rfl, ?_⟩
    exact ⟨Nat.zero_le _, fun p hp => k p _ hp upd_same (same_new hp)⟩
  | name x =>
    obtain ⟨a, rfl, ha⟩ := he
    refine ⟨_, rfl, a, _, 0, _, rfl, rfl, SqT.of ha, rfl, rfl, _, rfl, ?_⟩
    refine ⟨_, rfl, a, _, 1, _, rfl, rfl, SqT.of ha, rfl, ?_⟩
    exact ⟨szl (by decide : 1 ≤ 100), fun p hp => k p _ hp upd_same (same_new hp)⟩
  | map r e =>
    obtain ⟨a, b, x, rfl, ha, hb, hx⟩ := he
    have hd' : 1 + e.deep ≤ n + 1 := hd
    refine ⟨_, rfl, a, _, 0, _, rfl, rfl, SqT.of ha, rfl, rfl, _, rfl, ?_⟩
    refine ⟨_, rfl, a, _, 0, _, rfl, rfl, SqT.of ha, rfl, rfl, _, rfl, ?_⟩
    exact ⟨_, rfl, a, _, 2, _, rfl, rfl, SqT.of ha, rfl, x, e, rfl, hx, by omega, by omega, k⟩
  | pair t e f =>
    obtain ⟨a, b, x, y, rs, rfl, ha, hb, hrs, hx, hy⟩ := he
    have hd' : 1 + max e.deep f.deep ≤ n + 1 := hd
    refine ⟨_, rfl, a, _, 0, _, rfl, rfl, SqT.of ha, rfl, rfl, _, rfl, ?_⟩
    refine ⟨_, rfl, a, _, 0, _, rfl, rfl, SqT.of ha, rfl, rfl, _, rfl, ?_⟩
    refine ⟨_, rfl, a, _, 0, _, rfl, rfl, SqT.of ha, rfl, rfl, _, rfl, ?_⟩
    refine ⟨_, rfl, a, _, 2, _, rfl, rfl, SqT.of ha, rfl, x, e, rfl, hx, by omega, by omega, fun l1 H1 f1 g1 s1 => ?_⟩
    refine ⟨_, rfl, a, _, 3, _, rfl, rfl, SqT.of (s1 _ _ ha), rfl, y, f, rfl, hy.same s1, by omega, by omega, fun l2 H2 f2 g2 s2 => ?_⟩
    have u1 := used_len e
    have u2 := used_len f
    have v1 : 2 ^ e.deep ≤ 2 ^ 4 := Nat.pow_le_pow_right (by decide) (by omega)
    have v2 : 2 ^ f.deep ≤ 2 ^ 4 := Nat.pow_le_pow_right (by decide) (by omega)
    refine ⟨l1, l2, _, _, rfl, rfl, s2 _ _ g1, g2, ?_, fun p hp => ?_⟩
    · rw [List.length_map, List.length_map]
      exact szl (by omega)
    · refine k p _ (s1.free (s2.free hp)) ?_ ((s1.trans s2).trans (same_new hp))
      rw [upd_same, ← List.map_append]
      rfl
theorem has_put1 {n : Nat} (D : TD K mg "_law_put_in" sPut pPut) (B : Bi mg) (hS : Has P w K mg base "_law_put_in" n pPut (spPut n)) : Has P w K mg base "_law_put_in" (n + 1) pPut (spPut (n + 1)) := by
  refine D.has scPut (fun vs H Q E h => ?_) (fun f cdv A outer s H vs Q E hr h => ?_)
  · obtain ⟨v, vo, nm, e, o, rfl, _⟩ := h
    rfl
  obtain ⟨v, vo, nm, e, o, rfl, he, ho, hd, k⟩ := h
  refine ⟨_, pss_cons (ps_if (PW.pt (pw_and (pt_cmpR op_eq (pe_ix ix_tup (pv 0) pe_int (fun _ _ => rfl)) pe_str (nomark _)) (pw_and1 (pt_cmpR op_eq (pe_ix ix_tup (pv 0) pe_int (fun _ _ => rfl)) (pv 1) (nomark _))))) (pss_one (ps_ret (pv 2))) pss_nil)
    (pss_cons (ps_if (pt_cmpR op_eq (pe_ix ix_tup (pv 0) pe_int (fun _ _ => rfl)) pe_str (nomark _)) (pss_one (ps_ret (pe_tup (pa_cons pe_str (pa_cons (pe_ix ix_tup (pv 0) pe_int (fun _ _ => rfl)) (pa_cons (pcall hS hr (Nat.le_refl _) (pa_cons (pe_ix ix_tup (pv 0) pe_int (fun _ _ => rfl)) (pa_cons (pv 1) (pa_cons (pv 2) pa_nil)))) pa_nil)))))) pss_nil)
    (pss_cons (ps_if (pt_cmpR op_eq (pe_ix ix_tup (pv 0) pe_int (fun _ _ => rfl)) pe_str (nomark _)) (pss_one (ps_ret (pe_tup (pa_cons pe_str (pa_cons (pe_ix ix_tup (pv 0) pe_int (fun _ _ => rfl)) (pa_cons (pcall hS hr (Nat.le_refl _) (pa_cons (pe_ix ix_tup (pv 0) pe_int (fun _ _ => rfl)) (pa_cons (pv 1) (pa_cons (pv 2) pa_nil))))
      (pa_cons (pcall hS hr (Nat.le_refl _) (pa_cons (pe_ix ix_tup (pv 0) pe_int (fun _ _ => rfl)) (pa_cons (pv 1) (pa_cons (pv 2) pa_nil)))) pa_nil))))))) pss_nil)
    (pss_one (ps_ret (pv 0))))), ?_⟩
  cases e with
  | word x =>
    obtain ⟨a, rfl, ha⟩ := he
    refine ⟨_, rfl, a, _, 0, _, rfl, rfl, SqT.of ha, rfl, rfl, _, rfl, ?_⟩
    refine ⟨_, rfl, a, _, 0, _, rfl, rfl, SqT.of ha, rfl, rfl, _, rfl, ?_⟩
    refine ⟨_, rfl, a, _, 0, _, rfl, rfl, SqT.of ha, rfl, rfl, _, rfl, ?_⟩
    exact ⟨_, rfl, k _ _ ⟨a, rfl, ha⟩ (Same.refl _)⟩
  | name x =>
    obtain ⟨a, rfl, ha⟩ := he
    refine ⟨_, rfl, a, _, 0, _, rfl, rfl, SqT.of ha, rfl, rfl, _, rfl, ?_⟩
    refine ⟨_, rfl, a, _, 1, _, rfl, rfl, SqT.of ha, rfl, _, rfl, rfl, _, rfl, ?_⟩
    refine ite2 (fun c => ?_) (fun c => ?_)
    · have e : x = nm := V.str.inj (of_decide_eq_true c)
      exact ⟨_, rfl, k _ _ (show ExAt H vo (if x = nm then o else .name x) by rw [if_pos e]; exact ho) (Same.refl _)⟩
    · have e : ¬ x = nm := fun z => c (decide_eq_true (congrArg V.str z))
      refine ⟨_, rfl, a, _, 0, _, rfl, rfl, SqT.of ha, rfl, rfl, _, rfl, ?_⟩
      refine ⟨_, rfl, a, _, 0, _, rfl, rfl, SqT.of ha, rfl, rfl, _, rfl, ?_⟩
      exact ⟨_, rfl, k _ _ (show ExAt H (.ref a) (if x = nm then o else .name x) by rw [if_neg e]; exact ⟨a, rfl, ha⟩) (Same.refl _)⟩
  | map r e =>
    obtain ⟨a, b, x, rfl, ha, hb, hx⟩ := he
    have hd' : 1 + e.deep ≤ n + 1 := hd
    refine ⟨_, rfl, a, _, 0, _, rfl, rfl, SqT.of ha, rfl, rfl, _, rfl, ?_⟩
    refine ⟨_, rfl, a, _, 0, _, rfl, rfl, SqT.of ha, rfl, rfl, _, rfl, ?_⟩
    refine ⟨_, rfl, a, _, 1, _, rfl, rfl, SqT.of ha, rfl, _, rfl, a, _, 2, _, rfl, rfl, SqT.of ha, rfl, _, rfl, _, rfl, x, vo, nm, e, o, rfl, hx, ho, by omega, fun v' H1 q1 s1 => ?_⟩
    refine ⟨szl (by decide : 3 ≤ 100), fun p hp => ?_⟩
    have s2 : Same H1 (upd H1 p (.tup [.str "map", .ref b, v'])) := same_new hp
    exact k _ _ ⟨p, b, v', rfl, upd_same, s2 _ _ (s1 _ _ hb), q1.same s2⟩ (s1.trans s2)
  | pair t e f =>
    obtain ⟨a, b, x, y, rs, rfl, ha, hb, hrs, hx, hy⟩ := he
    have hd' : 1 + max e.deep f.deep ≤ n + 1 := hd
    refine ⟨_, rfl, a, _, 0, _, rfl, rfl, SqT.of ha, rfl, rfl, _, rfl, ?_⟩
    refine ⟨_, rfl, a, _, 0, _, rfl, rfl, SqT.of ha, rfl, rfl, _, rfl, ?_⟩
    refine ⟨_, rfl, a, _, 0, _, rfl, rfl, SqT.of ha, rfl, rfl, _, rfl, ?_⟩
    refine ⟨_, rfl, a, _, 1, _, rfl, rfl, SqT.of ha, rfl, _, rfl, a, _, 2, _, rfl, rfl, SqT.of ha, rfl, _, rfl, _, rfl, x, vo, nm, e, o, rfl, hx, ho, by omega, fun v1 H1 q1 s1 => ?_⟩
    refine ⟨_, rfl, a, _, 3, _, rfl, rfl, SqT.of (s1 _ _ ha), rfl, _, rfl, _, rfl, y, vo, nm, f, o, rfl, hy.same s1, ho.same s1, by omega, fun v2 H2 q2 s2 => ?_⟩
    refine ⟨szl (by decide : 4 ≤ 100), fun p hp => ?_⟩
    have s3 : Same H2 (upd H2 p (.tup [.str "pair", .ref b, v1, v2])) := same_new hp
    have s13 := (s1.trans s2).trans s3
    exact k _ _ ⟨p, b, v1, v2, rs, rfl, upd_same, s13 _ _ hb, hrs.mono (Tups.same s13), q1.same (s2.trans s3), q2.same s3⟩ s13
end
end K2
namespace K2
open PySem PySem.Spec PyProof.Rows L2
abbrev sMRow : Stmt := top 76
abbrev pMRow : List Str := ["_law_row_here", "_law_words", "_law_order_here"]
abbrev nMRow : List Str := ["_law_row_here", "_law_words", "_law_order_here", "_law_word"]
theorem scMRow : FnScope nMRow pMRow (defScope sMRow) := ⟨rfl, rfl, rfl, by decide +kernel, rfl, by decide +kernel, by decide +kernel⟩
abbrev sMoved : Stmt := top 77
abbrev pMoved : List Str := ["_law_expr_here", "_law_words", "_law_order_here"]
abbrev nMoved : List Str := ["_law_expr_here", "_law_words", "_law_order_here", "_law_rows", "_law_table", "_law_row_here", "_law_word"]
theorem scMoved : FnScope nMoved pMoved (defScope sMoved) := ⟨rfl, rfl, rfl, by decide +kernel, rfl, by decide +kernel, by decide +kernel⟩
/-- both tuples of words stand -/
structure Both (H : Hp) (wt ot : Addr) (ws os : List Str) : Prop where
  W : WT H wt (ws.map V.str)
  O : WT H ot (os.map V.str)
  T : Turned ws os
  w3 : ws.length ≤ 3
theorem Both.same {H H' : Hp} {wt ot : Addr} {ws os : List Str} (b : Both H wt ot ws os) (s : Same H H') : Both H' wt ot ws os := ⟨b.W.same s, b.O.same s, b.T, b.w3⟩
def spMRow : Sp := fun vs H Q _ => ∃ (r wt ot : Addr) (row ws os : List Str), vs = [.ref r, .ref wt, .ref ot] ∧ H r = some (.tup (row.map V.str)) ∧ Both H wt ot ws os ∧ RowOk ws row ∧
  ∀ (p : Addr) (H' : Hp), H' p = some (.tup ((mrow ws os row).map V.str)) → Same H H' → Q (.ref p) H'
def spMoved (n : Nat) : Sp := fun vs H Q _ => ∃ (v : V) (wt ot : Addr) (e : Ex) (ws os ns : List Str), vs = [v, .ref wt, .ref ot] ∧ ExAt H v e ∧ Both H wt ot ws os ∧ e.Ok ws ns ∧ e.deep ≤ n ∧
  ∀ (v' : V) (H' : Hp), ExAt H' v' (e.mv ws os) → Same H H' → Q v' H'
theorem map_at {os : List Str} {i : Nat} {x : V} (h : (os.map V.str)[i]? = some x) : ∃ z, os[i]? = some z ∧ x = .str z := by
  rw [List.getElem?_map] at h
  cases e : os[i]? with
  | none => rw [e] at h; cases h
  | some z => rw [e] at h; exact ⟨z, rfl, (Option.some.inj h).symm⟩
theorem take_snoc {α : Type} {l : List α} {i : Nat} {x : α} (h : l[i]? = some x) : l.take (i + 1) = l.take i ++ [x] := by
  rw [List.take_add_one, h]; rfl
section
variable {P : Program} {w : World} {K : PySem.W.Frag} {mg : Str → Option Value} {base : Heap}
theorem has_mrow (D : TD K mg "_law_moved_row" sMRow pMRow) (B : Bi mg) : Has P w K mg base "_law_moved_row" 1 pMRow spMRow := by
  refine D.has scMRow (fun vs H Q E h => ?_) (fun f cdv A outer s H vs Q E hr h => ?_)
  · obtain ⟨r, wt, ot, row, ws, os, rfl, _⟩ := h
    rfl
  obtain ⟨r, wt, ot, row, ws, os, rfl, hR, Bo, hok, k⟩ := h
  refine ⟨_, pss_one (ps_ret (pe_callTy call_tuple_of (by rfl) B.tuple (by decide +kernel) (pa_cons (pe_lc (own := [("_law_word", 3)]) (g := gName 3) (by rfl) scMRow.nd (pi_tup (pv 2))
    (blkOk_by (own := [("_law_word", 3)]) (N := nMRow) (sc := defScope sMRow) (by decide +kernel)) (fun _ _ _ _ _ => pg_name (i := 3) scMRow.nd rfl (Or.inl rfl)) (fun _ _ _ _ _ => pts_nil)
    (fun _ _ _ _ _ => pe_ix (ix_tupK K) (pv 0) (pe_tix (pv 1) (pv 3)) (fun _ _ => rfl))) pa_nil))), ?_⟩
  refine ⟨_, rfl, ot, rfl, ⟨_, Bo.O.sq⟩, fun D hD => ?_⟩
  refine lc_tup (K := K) (a := ot) (xs := os.map V.str) (fun i H' => H' D = some (.lst (((os.take i).map (at1 ws row)).map V.str)) ∧ Same H H')
    ⟨upd_same, same_new hD⟩ (fun i H' _ q => (Bo.same q.2).O.sq) ?_ ?_
  · rintro i x H4 hx ⟨u1, u2⟩
    obtain ⟨z, hz, rfl⟩ := map_at hx
    have hm : z ∈ ws := (Bo.T.2.2 z).mp (List.mem_of_getElem? hz)
    have B4 := Bo.same u2
    have hg := at1_get hok.1 hm
    have hlen : (os.take i).length ≤ 3 := by
      rw [List.length_take]
      have := Bo.w3
      have := Bo.T.1
      omega
    refine ⟨rfl, ?_⟩
    refine ⟨_, rfl, _, rfl, wt, rfl, ws, B4.W, _, rfl, z, ix z ws, rfl, B4.W, ix_get hm, fun m h => ix_first h, ?_⟩
    refine ⟨r, _, _, .str (at1 ws row z), rfl, rfl, SqT.of (u2 _ _ hR), atI_nat (by rw [List.getElem?_map, hg]; rfl), _, u1, ?_, ?_, ?_⟩
    · rw [List.length_map, List.length_map]
      exact small1000 (by omega)
    · rw [upd_same, take_snoc hz, List.map_append, List.map_append]
      rfl
    · intro b o hb
      rw [upd_ne (ne_of_none hb hD)]
      exact u2 _ _ hb
  · rintro H4 ⟨u1, u2⟩
    rw [List.length_map, List.take_length] at u1
    refine ⟨D, _, rfl, .inl ⟨SqL.of u1, fun l hl => ?_⟩⟩
    exact k l _ upd_same (u2.trans (same_new hl))
theorem has_moved1 {n : Nat} (D : TD K mg "_law_moved" sMoved pMoved) (B : Bi mg) (hR : Has P w K mg base "_law_moved_row" 1 pMRow spMRow) (hM : Has P w K mg base "_law_moved" (n + 1) pMoved (spMoved n)) : Has P w K mg base "_law_moved" (n + 1 + 1) pMoved (spMoved (n + 1)) := by
  refine D.has scMoved (fun vs H Q E h => ?_) (fun f cdv A outer s H vs Q E hr h => ?_)
  · obtain ⟨v, wt, ot, e, ws, os, ns, rfl, _⟩ := h
    rfl
  obtain ⟨v, wt, ot, e, ws, os, ns, rfl, he, Bo, hok, hd, k⟩ := h
  have l1 : 1 ≤ n + 1 := by omega
  refine ⟨_, pss_cons (ps_if (pt_cmpR op_eq (pe_ix ix_tup (pv 0) pe_int (fun _ _ => rfl)) pe_str (nomark _)) (pss_one (ps_ret (pe_tup (pa_cons pe_str (pa_cons (pcall hR hr l1 (pa_cons (pe_ix ix_tup (pv 0) pe_int (fun _ _ => rfl)) (pa_cons (pv 1) (pa_cons (pv 2) pa_nil))))
      (pa_cons (pcall hM hr (Nat.le_refl _) (pa_cons (pe_ix ix_tup (pv 0) pe_int (fun _ _ => rfl)) (pa_cons (pv 1) (pa_cons (pv 2) pa_nil)))) pa_nil)))))) pss_nil)
    (pss_cons (ps_if (pt_cmpR op_eq (pe_ix ix_tup (pv 0) pe_int (fun _ _ => rfl)) pe_str (nomark _))
      (pss_cons (ps_set (i := 3) scMoved.nd rfl (Or.inr rfl) (pe_lc (own := [("_law_row_here", 5)]) (g := gName 5) (by rfl) scMoved.nd (pi_tup (pe_ix ix_tup (pv 0) pe_int (fun _ _ => rfl)))
        (blkOk_by (own := [("_law_row_here", 5)]) (N := nMoved) (sc := defScope sMoved) (by decide +kernel)) (fun _ _ _ _ _ => pg_name (i := 5) scMoved.nd rfl (Or.inl rfl)) (fun _ _ _ _ _ => pts_nil)
        (fun _ _ _ _ _ => pcall hR hr l1 (pa_cons (pv 5) (pa_cons (pv 1) (pa_cons (pv 2) pa_nil))))))
      (pss_cons (ps_set (i := 4) scMoved.nd rfl (Or.inl rfl) (pe_callTy call_tuple_of (by rfl) B.tuple (by decide +kernel) (pa_cons (pe_lc (own := [("_law_word", 6)]) (g := gName 6) (by rfl) scMoved.nd (pi_tup (pv 2))
        (blkOk_by (own := [("_law_word", 6)]) (N := nMoved) (sc := defScope sMoved) (by decide +kernel)) (fun _ _ _ _ _ => pg_name (i := 6) scMoved.nd rfl (Or.inl rfl)) (fun _ _ _ _ _ => pts_nil)
        (fun _ _ _ _ _ => pe_ix (ix_listK K) (pv 3) (pe_tix (pv 1) (pv 6)) (fun _ _ => rfl))) pa_nil)))
      (pss_one (ps_ret (pe_tup (pa_cons pe_str (pa_cons (pv 4) (pa_cons (pcall hM hr (Nat.le_refl _) (pa_cons (pe_ix ix_tup (pv 0) pe_int (fun _ _ => rfl)) (pa_cons (pv 1) (pa_cons (pv 2) pa_nil))))
        (pa_cons (pcall hM hr (Nat.le_refl _) (pa_cons (pe_ix ix_tup (pv 0) pe_int (fun _ _ => rfl)) (pa_cons (pv 1) (pa_cons (pv 2) pa_nil)))) pa_nil))))))))) pss_nil)
    (pss_one (ps_ret (pv 0)))), ?_⟩
  cases e with
  | word x =>
    obtain ⟨a, rfl, ha⟩ := he
    refine ⟨_, rfl, a, _, 0, _, rfl, rfl, SqT.of ha, rfl, rfl, _, rfl, ?_⟩
    refine ⟨_, rfl, a, _, 0, _, rfl, rfl, SqT.of ha, rfl, rfl, _, rfl, ?_⟩
    exact ⟨_, rfl, k _ _ ⟨a, rfl, ha⟩ (Same.refl _)⟩
  | name x =>
    obtain ⟨a, rfl, ha⟩ := he
    refine ⟨_, rfl, a, _, 0, _, rfl, rfl, SqT.of ha, rfl, rfl, _, rfl, ?_⟩
    refine ⟨_, rfl, a, _, 0, _, rfl, rfl, SqT.of ha, rfl, rfl, _, rfl, ?_⟩
    exact ⟨_, rfl, k _ _ ⟨a, rfl, ha⟩ (Same.refl _)⟩
  | map r e =>
    obtain ⟨a, b, x, rfl, ha, hb, hx⟩ := he
    have hd' : 1 + e.deep ≤ n + 1 := hd
    refine ⟨_, rfl, a, _, 0, _, rfl, rfl, SqT.of ha, rfl, rfl, _, rfl, ?_⟩
    refine ⟨_, rfl, a, _, 1, _, rfl, rfl, SqT.of ha, rfl, _, rfl, _, rfl, b, wt, ot, r, ws, os, rfl, hb, Bo, hok.1, fun p1 H1 g1 s1 => ?_⟩
    refine ⟨_, rfl, a, _, 2, _, rfl, rfl, SqT.of (s1 _ _ ha), rfl, _, rfl, _, rfl, x, wt, ot, e, ws, os, ns, rfl, hx.same s1, Bo.same s1, hok.2, by omega, fun v' H2 q1 s2 => ?_⟩
    refine ⟨szl (by decide : 3 ≤ 100), fun p hp => ?_⟩
    have s3 : Same H2 (upd H2 p (.tup [.str "map", .ref p1, v'])) := same_new hp
    exact k _ _ ⟨p, p1, v', rfl, upd_same, s3 _ _ (s2 _ _ g1), q1.same s3⟩ ((s1.trans s2).trans s3)
  | pair t e f =>
    obtain ⟨a, b, x, y, rs, rfl, ha, hb, hrs, hx, hy⟩ := he
    have hd' : 1 + max e.deep f.deep ≤ n + 1 := hd
    refine ⟨_, rfl, a, _, 0, _, rfl, rfl, SqT.of ha, rfl, rfl, _, rfl, ?_⟩
    refine ⟨_, rfl, a, _, 0, _, rfl, rfl, SqT.of ha, rfl, rfl, _, rfl, ?_⟩
    -- the rows
    refine ⟨_, rfl, a, _, 1, _, rfl, rfl, SqT.of ha, rfl, b, rfl, ⟨_, SqT.of hb⟩, fun D hD => ?_⟩
    have hD0 := same_new (o := .lst []) hD
    refine lc_tup (K := K) (a := b) (xs := rs) (fun i H' => ∃ vs : List V, vs.length = i ∧ RowsAt H' vs ((t.take i).map (mrow ws os)) ∧ H' D = some (.lst vs) ∧ Same H H')
      ⟨[], rfl, trivial, upd_same, hD0⟩ (fun i H' _ ⟨_, _, _, _, q⟩ => SqT.of (q _ _ hb)) ?_ ?_
    · rintro i z H4 hz ⟨vs, u1, u2, u3, u4⟩
      have hi : i < t.length := by
        rw [← hrs.len]
        exact (List.getElem?_eq_some_iff.mp hz).1
      have ht : t[i]? = some t[i] := List.getElem?_eq_getElem hi
      obtain ⟨a', h1, h2⟩ := hrs.get ht
      have ez : z = .ref a' := Option.some.inj (hz.symm.trans h1)
      subst ez
      have w3 := Bo.w3
      have tl := hok.1.1
      refine ⟨rfl, ?_⟩
      refine ⟨_, rfl, _, rfl, _, rfl, a', wt, ot, t[i], ws, os, rfl, u4 _ _ h2, Bo.same u4, hok.1.2 _ (List.getElem_mem _), fun p1 H5 g1 s5 => ?_⟩
      have h5 := s5 _ _ u3
      have T : Tups H5 (upd H5 D (.lst (vs ++ [.ref p1]))) := Tups.upd_lst h5
      refine ⟨vs, h5, small1000 (by omega), vs ++ [.ref p1], ?_, ?_, upd_same, fun b o hb => ?_⟩
      · rw [List.length_append, u1]; rfl
      · rw [take_snoc ht, List.map_append]
        exact ((u2.mono (Tups.same s5)).snoc g1).mono T
      · rw [upd_ne (ne_of_none hb hD)]
        exact s5 _ _ (u4 _ _ hb)
    · rintro H4 ⟨vs, u1, u2, u3, u4⟩
      rw [hrs.len, List.take_length] at u2
      -- the table
      refine ⟨_, rfl, ot, rfl, ⟨_, (Bo.same u4).O.sq⟩, fun D2 hD2 => ?_⟩
      refine lc_tup (K := K) (a := ot) (xs := os.map V.str) (fun i H' => ∃ us : List V, us.length = i ∧ RowsAt H' us ((os.take i).map (at2 ws (t.map (mrow ws os)))) ∧ H' D2 = some (.lst us) ∧ Same H4 H')
        ⟨[], rfl, trivial, upd_same, same_new hD2⟩ (fun i H' _ ⟨_, _, _, _, q⟩ => ((Bo.same u4).same q).O.sq) ?_ ?_
      · rintro i zz H5 hzz ⟨us, v1, v2, v3, v4⟩
        obtain ⟨z, hz, rfl⟩ := map_at hzz
        have hm : z ∈ ws := (Bo.T.2.2 z).mp (List.mem_of_getElem? hz)
        have B5 := (Bo.same u4).same v4
        have w3 := Bo.w3
        have ol := Bo.T.1
        have hi : i < os.length := (List.getElem?_eq_some_iff.mp hz).1
        obtain ⟨a2, h1, h2⟩ := u2.get (at2_get (ws := ws) (t := t.map (mrow ws os)) (w := z) (by rw [List.length_map]; exact hok.1.1) hm)
        refine ⟨rfl, ?_⟩
        refine ⟨_, rfl, _, rfl, wt, rfl, ws, B5.W, _, rfl, z, ix z ws, rfl, B5.W, ix_get hm, fun m h => ix_first h, ?_⟩
        have T : Tups H5 (upd H5 D2 (.lst (us ++ [.ref a2]))) := Tups.upd_lst v3
        refine ⟨D, vs, _, .ref a2, rfl, rfl, SqL.of (v4 _ _ u3), atI_nat h1, us, v3, small1000 (by omega), us ++ [.ref a2], ?_, ?_, upd_same, fun b o hb => ?_⟩
        · rw [List.length_append, v1]; rfl
        · rw [take_snoc hz, List.map_append]
          exact (v2.snoc (v4 _ _ h2)).mono T
        · rw [upd_ne (ne_of_none hb hD2)]
          exact v4 _ _ hb
      · rintro H5 ⟨us, v1, v2, v3, v4⟩
        rw [List.length_map, List.take_length] at v2
        refine ⟨D2, _, rfl, .inl ⟨SqL.of v3, fun tb htb => ?_⟩⟩
        have s6 : Same H5 (upd H5 tb (.tup us)) := same_new htb
        have s06 := (u4.trans v4).trans s6
        refine ⟨_, rfl, _, rfl, a, _, 2, _, rfl, rfl, SqT.of (s06 _ _ ha), rfl, _, rfl, _, rfl, x, wt, ot, e, ws, os, ns, rfl, hx.same s06, Bo.same s06, hok.2.1, by omega, fun w1 H7 q1 s7 => ?_⟩
        have s07 := s06.trans s7
        refine ⟨_, rfl, a, _, 3, _, rfl, rfl, SqT.of (s07 _ _ ha), rfl, _, rfl, _, rfl, y, wt, ot, f, ws, os, ns, rfl, hy.same s07, Bo.same s07, hok.2.2, by omega, fun w2 H8 q2 s8 => ?_⟩
        refine ⟨szl (by decide : 4 ≤ 100), fun p hp => ?_⟩
        have s9 : Same H8 (upd H8 p (.tup [.str "pair", .ref tb, w1, w2])) := same_new hp
        have s79 := (s7.trans s8).trans s9
        exact k _ _ ⟨p, tb, w1, w2, us, rfl, upd_same, s79 _ _ upd_same, (v2.mono (Tups.same s6)).mono (Tups.same s79), q1.same (s8.trans s9), q2.same s9⟩ (s06.trans s79)
end
end K2
namespace K2
open PySem PySem.Spec PyProof.Rows L2
abbrev sOrder : Stmt := top 78
abbrev pOrder : List Str := ["_law_pool_here", "_law_words"]
abbrev nOrder : List Str := ["_law_pool_here", "_law_words", "_law_left", "_law_order_here", "_law_k"]
theorem scOrder : FnScope nOrder pOrder (defScope sOrder) := ⟨rfl, rfl, rfl, by decide +kernel, rfl, by decide +kernel, by decide +kernel⟩
def spOrder : Sp := fun vs H Q _ => ∃ (pp sc wt : Addr) (ws : List Str), vs = [.ref pp, .ref wt] ∧ PoolAt H pp sc ∧ WT H wt (ws.map V.str) ∧ ws.Nodup ∧ ws.length ≤ 3 ∧
  ∀ (ot : Addr) (os : List Str) (H' : Hp), H ot = none → WT H' ot (os.map V.str) → Turned ws os → PoolAt H' pp sc → But [pp] H H' → Q (.ref ot) H'
theorem perm_erase {α : Type} : ∀ {l : List α} {i : Nat} (h : i < l.length), List.Perm (l[i] :: l.eraseIdx i) l
  | a :: r, 0, _ => List.Perm.refl _
  | a :: r, i + 1, h => by
    have ih := perm_erase (l := r) (i := i) (Nat.lt_of_succ_lt_succ h)
    show List.Perm (r[i]'(Nat.lt_of_succ_lt_succ h) :: a :: r.eraseIdx i) (a :: r)
    exact (List.Perm.swap a _ _).trans (List.Perm.cons a ih)
theorem map_erase {α β : Type} (f : α → β) : ∀ (l : List α) (i : Nat), (l.map f).eraseIdx i = (l.eraseIdx i).map f
  | [], _ => rfl
  | a :: r, 0 => rfl
  | a :: r, i + 1 => by
    show f a :: (r.map f).eraseIdx i = f a :: (r.eraseIdx i).map f
    rw [map_erase f r i]
section
variable {P : Program} {w : World} {K : PySem.W.Frag} {mg : Str → Option Value} {base : Heap}
theorem has_order (D : TD K mg "_law_order" sOrder pOrder) (B : Bi mg) (hD : Has P w K mg base "_law_draw" 1 pDraw spDraw) : Has P w K mg base "_law_order" 2 pOrder spOrder := by
  refine D.has scOrder (fun vs H Q E h => ?_) (fun f cdv A outer s H vs Q E hr h => ?_)
  · obtain ⟨pp, sc, wt, ws, rfl, _⟩ := h
    rfl
  obtain ⟨pp, sc, wt, ws, rfl, hP, hW, nd, w3, k⟩ := h
  refine ⟨_, pss_cons (ps_set (i := 2) scOrder.nd rfl (Or.inl rfl) (pe_callTy call_list_of (by rfl) B.list (by decide +kernel) (pa_cons (pv 1) pa_nil)))
    (pss_cons (ps_set (i := 3) scOrder.nd rfl (Or.inl rfl) (pe_lst pa_nil))
    (pss_cons (ps_for PassesOwn.never rfl (pi_range1 rfl B.range (pa_cons (pe_callB call_len_seq (by rfl) B.len PySem.boot_len (pa_cons (pv 1) pa_nil)) pa_nil)) (pg_name (i := 4) scOrder.nd rfl (Or.inl rfl))
      (pss_one (ps_expr (pe_bm PySem.F.plainAttrs_list PySem.F.slot_list_append PySem.F.type_list_append mt_append (pv 3) (pa_cons (pe_bm PySem.F.plainAttrs_list PySem.F.slot_list_pop PySem.F.type_list_pop mt_popAt (pv 2)
        (pa_cons (pcall hD hr (by decide) (pa_cons (pv 0) (pa_cons (pe_callB call_len_seq (by rfl) B.len PySem.boot_len (pa_cons (pv 2) pa_nil)) pa_nil))) pa_nil)) pa_nil)))))
    (pss_one (ps_ret (pe_callTy call_tupW (by rfl) B.tuple (by decide +kernel) (pa_cons (pv 3) pa_nil)))))), ?_⟩
  refine ⟨_, rfl, wt, _, rfl, .inr hW.sq, fun L hL => ?_⟩
  have s1 : Same H (upd H L (.lst (ws.map V.str))) := same_new hL
  refine ⟨Nat.zero_le _, fun O hO => ?_⟩
  have s2 := s1.trans (same_new (o := .lst []) hO)
  have nOL : O ≠ L := (ne_of_none upd_same hO).symm
  have hO0 : H O = none := s1.free hO
  obtain ⟨nLp, nLs⟩ := hP.fresh hL
  obtain ⟨nOp, nOs⟩ := hP.fresh hO0
  refine ⟨_, rfl, wt, _, rfl, .inr (hW.same s2).sq, _, rfl, by omega, by rw [List.length_map]; omega, ?_⟩
  rw [List.length_map]
  refine for_range (lo := 0) (n := ((ws.length : Nat) : Int).toNat) (fun i σ H' => ∃ (ls os : List Str) (v4 : Option V), σ = [some (.ref pp), some (.ref wt), some (.ref L), some (.ref O), v4] ∧ H' L = some (.lst (ls.map V.str)) ∧ H' O = some (.lst (os.map V.str)) ∧
      PoolAt H' pp sc ∧ But [pp] H H' ∧ ls.length + i = ws.length ∧ List.Perm (os ++ ls) ws)
    ⟨ws, [], none, rfl, by rw [upd_ne nOL.symm, upd_same], upd_same, hP.same s2, But.same s2, by omega, by simp⟩ ?_ ?_
  · rintro i σ H4 hi ⟨ls, os, v4, rfl, u1, u2, u3, u4, u5, u6⟩
    have hls : ((ls.map V.str).length : Int) = ls.length := by rw [List.length_map]
    refine ⟨_, rfl, .inl ⟨rfl, _, SqL.of u2⟩, _, rfl, .inl ⟨rfl, _, SqL.of u1⟩, _, rfl, _, rfl, L, _, rfl, .inl (SqL.of u1), pp, sc, _, rfl, u3, by omega, by omega, fun d H5 g1 g2 P5 b5 => ?_⟩
    rw [hls] at g2
    have hd : d.toNat < ls.length := by omega
    have hg : (ls.map V.str)[d.toNat]? = some (.str ls[d.toNat]) := by rw [List.getElem?_map, List.getElem?_eq_getElem hd]; rfl
    have h5L := b5.at1 u1 nLp
    have h5O := b5.at1 u2 nOp
    refine ⟨L, _, d, d.toNat, _, rfl, rfl, h5L, by omega, by omega, seqIndex_of g1 (by rw [List.length_map]; omega), hg, ?_⟩
    have hpm : List.Perm (os ++ [ls[d.toNat]] ++ ls.eraseIdx d.toNat) (os ++ ls) := by
      rw [List.append_assoc]
      exact List.Perm.append_left os (perm_erase hd)
    have ol : os.length + ls.length = ws.length := by rw [← List.length_append]; exact u6.length_eq
    refine ⟨O, _, _, rfl, rfl, by rw [upd_ne nOL]; exact h5O, by rw [List.length_map]; exact small1000 (by omega), ?_⟩
    refine ⟨ls.eraseIdx d.toNat, os ++ [ls[d.toNat]], _, rfl, ?_, ?_, (P5.upd nLp nLs).upd nOp nOs, ((u4.trans b5).put (.inr hL)).put (.inr hO0), ?_, hpm.trans u6⟩
    · rw [upd_ne nOL.symm, upd_same, map_erase]
    · rw [upd_same, List.map_append]; rfl
    · rw [List.length_eraseIdx_of_lt hd]; omega
  · rintro σ H4 ⟨ls, os, v4, rfl, u1, u2, u3, u4, u5, u6⟩
    have hl0 : ls.length = 0 := by omega
    have hnil : ls = [] := List.eq_nil_of_length_eq_zero hl0
    subst hnil
    rw [List.append_nil] at u6
    refine ⟨_, rfl, O, _, rfl, SqL.of u2, fun l o hl hdn => ?_⟩
    obtain ⟨n1, n2⟩ := u3.fresh hl
    have hl' := u4.free hl (nin1 n1)
    exact k l os _ hl' ⟨o, upd_same, hdn⟩ ⟨u6.length_eq, u6.nodup_iff.mpr nd, fun w => u6.mem_iff⟩ (u3.upd n1 n2) (u4.put (.inr hl'))
end
end K2
namespace K2
open PySem PySem.Spec PyProof.Rows L2
/-! ### dicts from names to words -/
theorem valV_mem {kvs : List (Key × V)} {k : Key} {v : V} (h : valV kvs k = some v) : (k, v) ∈ kvs := by
  unfold valV at h
  cases e : kvs.find? fun kv => decide (kv.1 = k) with
  | none => rw [e] at h; cases h
  | some p =>
    rw [e] at h
    have h1 : p.2 = v := Option.some.inj h
    have h2 : p.1 = k := of_decide_eq_true (List.find?_some (p := fun kv : Key × V => decide (kv.1 = k)) e)
    have h3 := List.mem_of_find?_eq_some e
    rw [← h1, ← h2]
    exact h3
theorem valV_there {kvs : List (Key × V)} {k : Key} {v : V} {i : Nat} (h : kvs[i]? = some (k, v)) : ∃ v0, valV kvs k = some v0 := by
  have hm := List.mem_of_getElem? h
  have a : (kvs.any fun kv => decide (kv.1 = k)) = true := List.any_eq_true.mpr ⟨(k, v), hm, decide_eq_true rfl⟩
  rw [valV_any] at a
  cases e : valV kvs k with
  | none => rw [e] at a; cases a
  | some v0 => exact ⟨v0, rfl⟩
theorem putK_mem {kvs : List (Key × V)} {k : Key} {v : V} {p : Key × V} (h : p ∈ putK kvs k v) : p ∈ kvs ∨ p = (k, v) := by
  unfold putK at h
  split at h
  · obtain ⟨q, hq, e⟩ := List.mem_map.mp h
    by_cases c : q.1 = k
    · rw [if_pos c] at e
      right
      rw [← e, c]
    · rw [if_neg c] at e
      left
      rw [← e]; exact hq
  · rcases List.mem_append.mp h with h | h
    · exact .inl h
    · exact .inr (List.mem_singleton.mp h)
theorem putK_len {kvs : List (Key × V)} {k : Key} {v : V} : (putK kvs k v).length ≤ kvs.length + 1 := by
  unfold putK
  split
  · rw [List.length_map]; exact Nat.le_succ _
  · rw [List.length_append]; exact Nat.le_refl _
/-- kv2: the first j entries of kvs copied over base -/
structure Copied (kvs base kv2 : List (Key × V)) (j : Nat) : Prop where
  mem : ∀ p ∈ kv2, p ∈ base ∨ valV kvs p.1 = some p.2
  got : ∀ i k v, i < j → kvs[i]? = some (k, v) → valV kv2 k = valV kvs k
  old : ∀ k, (valV base k).isSome = true → (valV kv2 k).isSome = true
  len : kv2.length ≤ base.length + j
theorem Copied.zero (kvs base : List (Key × V)) : Copied kvs base base 0 := ⟨fun _ h => .inl h, fun _ _ _ h => absurd h (Nat.not_lt_zero _), fun _ h => h, Nat.le_refl _⟩
theorem Copied.step {kvs base kv2 : List (Key × V)} {j : Nat} {k : Key} {v v0 : V} (h : Copied kvs base kv2 j) (e : kvs[j]? = some (k, v)) (hv : valV kvs k = some v0) : Copied kvs base (putK kv2 k v0) (j + 1) := by
  refine ⟨fun p hp => ?_, fun i k' v' hi hk => ?_, fun k' hk => ?_, ?_⟩
  · rcases putK_mem hp with q | q
    · exact h.mem p q
    · rw [q]; exact .inr hv
  · rw [valV_put]
    by_cases c : k' = k
    · rw [if_pos c, c, hv]
    · rw [if_neg c]
      rcases Nat.lt_succ_iff_lt_or_eq.mp hi with q | q
      · exact h.got i k' v' q hk
      · rw [q, e] at hk
        exact absurd (congrArg Prod.fst (Option.some.inj hk)).symm c
  · rw [valV_put]
    by_cases c : k' = k
    · rw [if_pos c]; rfl
    · rw [if_neg c]; exact h.old k' hk
  · have := putK_len (kvs := kv2) (k := k) (v := v0)
    have := h.len
    omega
theorem Copied.all {kvs base kv2 : List (Key × V)} {k : Key} {v : V} (h : Copied kvs base kv2 kvs.length) (e : valV kvs k = some v) : valV kv2 k = some v := by
  obtain ⟨i, hi, hg⟩ := List.getElem_of_mem (valV_mem e)
  rw [h.got i k v hi (by rw [List.getElem?_eq_getElem hi, hg]), e]
/-- a dict from the names ks (and perhaps others) to words -/
structure Good (ws ks : List Str) (kvs : List (Key × V)) : Prop where
  ent : ∀ p ∈ kvs, ∃ n z, p = (Sum.inr n, V.str z) ∧ z ∈ ws
  has : ∀ n ∈ ks, ∃ z, valV kvs (Sum.inr n) = some (.str z)
theorem Good.val {ws ks : List Str} {kvs : List (Key × V)} {k : Key} {v : V} (g : Good ws ks kvs) (h : valV kvs k = some v) : ∃ n z, k = Sum.inr n ∧ v = V.str z ∧ z ∈ ws := by
  obtain ⟨n, z, e, hz⟩ := g.ent _ (valV_mem h)
  exact ⟨n, z, congrArg Prod.fst e, congrArg Prod.snd e, hz⟩
theorem Good.more {ws ks : List Str} {kvs kv2 : List (Key × V)} {n z : Str} (g : Good ws ks kvs) (hz : z ∈ ws) (c : Copied kvs [(Sum.inr n, V.str z)] kv2 kvs.length) : Good ws (ks ++ [n]) kv2 := by
  have ent : ∀ p ∈ kv2, ∃ n z, p = (Sum.inr n, V.str z) ∧ z ∈ ws := fun p hp => by
    rcases c.mem p hp with q | q
    · rw [List.mem_singleton.mp q]; exact ⟨n, z, rfl, hz⟩
    · obtain ⟨n', z', e1, e2, h⟩ := g.val q
      exact ⟨n', z', Prod.ext e1 e2, h⟩
  refine ⟨ent, fun m hm => ?_⟩
  rcases List.mem_append.mp hm with q | q
  · obtain ⟨z', e⟩ := g.has m q
    exact ⟨z', c.all e⟩
  · have e := c.old (Sum.inr n) (by rw [valV_pos rfl]; rfl)
    rw [List.mem_singleton.mp q]
    cases e2 : valV kv2 (Sum.inr n) with
    | none => rw [e2] at e; cases e
    | some v =>
      obtain ⟨_, z', _, e3, _⟩ := (show Good ws [] kv2 from ⟨ent, fun _ h => by simp at h⟩).val e2
      exact ⟨z', by rw [e3]⟩
/-- at d stands such a dict, of at most m entries -/
def DictAt (H : Hp) (d : Addr) (ws ks : List Str) (m : Nat) : Prop := ∃ kvs, H d = some (.dK kvs) ∧ Good ws ks kvs ∧ kvs.length ≤ m
theorem DictAt.same {H H' : Hp} {d : Addr} {ws ks : List Str} {m : Nat} (h : DictAt H d ws ks m) (s : Same H H') : DictAt H' d ws ks m := by
  obtain ⟨kvs, e, g, l⟩ := h
  exact ⟨kvs, s _ _ e, g, l⟩
theorem DictAt.updl {H : Hp} {d p : Addr} {ws ks : List Str} {m : Nat} {xs : List V} {o : HO} (h : DictAt H d ws ks m) (hp : H p = some (.lst xs)) : DictAt (upd H p o) d ws ks m := by
  obtain ⟨kvs, e, g, l⟩ := h
  exact ⟨kvs, by rw [upd_ne (ne_of e hp (by intro z; cases z))]; exact e, g, l⟩
theorem upd_lock {H : Hp} {d q : Addr} {u o f : HO} (h : H d = some u) (n : d ≠ q) : upd (upd (upd H d f) q o) d u = upd H q o := by
  funext b
  unfold upd
  by_cases e : b = d
  · subst e
    rw [if_pos rfl, if_neg n, h]
  · rw [if_neg e, if_neg e]
abbrev sDicts : Stmt := top 79
abbrev pDicts : List Str := ["_law_words", "_law_names_here"]
abbrev nDicts : List Str := ["_law_words", "_law_names_here", "_law_rows", "_law_name_here", "_law_longer", "_law_row_here", "_law_word", "_law_other", "_law_old"]
theorem scDicts : FnScope nDicts pDicts (defScope sDicts) := ⟨rfl, rfl, rfl, by decide +kernel, rfl, by decide +kernel, by decide +kernel⟩
def spDicts : Sp := fun vs H Q _ => ∃ (wt nl : Addr) (ws ns : List Str), vs = [.ref wt, .ref nl] ∧ WT H wt (ws.map V.str) ∧ H nl = some (.lst (ns.map V.str)) ∧ ws.length ≤ 3 ∧ ns.length ≤ 4 ∧
  ∀ (l : Addr) (ds : List Addr) (H' : Hp), H' l = some (.lst (ds.map V.ref)) → (∀ d ∈ ds, DictAt H' d ws ns 4) → Same H H' → Q (.ref l) H'
section
variable {P : Program} {w : World} {K : PySem.W.Frag} {mg : Str → Option Value} {base : Heap}
theorem has_dicts (D : TD K mg "_law_dicts" sDicts pDicts) (B : Bi mg) : Has P w K mg base "_law_dicts" 1 pDicts spDicts := by
  refine D.has scDicts (fun vs H Q E h => ?_) (fun f cdv A outer s H vs Q E hr h => ?_)
  · obtain ⟨wt, nl, ws, ns, rfl, _⟩ := h
    rfl
  obtain ⟨wt, nl, ws, ns, rfl, hW, hN, w3, n4, k⟩ := h
  have hu := hu_of (hr.mono (Nat.zero_le _) : Room 0 _)
  refine ⟨_, pss_cons (ps_set (i := 2) scDicts.nd rfl (Or.inl rfl) (pe_lst (pa_cons pe_dnewK pa_nil)))
    (pss_cons (ps_for PassesOwn.never rfl (pi_list (pv 1)) (pg_name (i := 3) scDicts.nd rfl (Or.inl rfl))
      (pss_cons (ps_set (i := 4) scDicts.nd rfl (Or.inl rfl) (pe_lst pa_nil))
      (pss_cons (ps_for PassesOwn.never rfl (pi_list (pv 2)) (pg_name (i := 5) scDicts.nd rfl (Or.inl rfl))
        (pss_one (ps_for PassesOwn.never rfl (pi_tup (pv 0)) (pg_name (i := 6) scDicts.nd rfl (Or.inl rfl))
          (pss_cons (ps_set (i := 7) scDicts.nd rfl (Or.inl rfl) (pe_disp (pps_cons (pv 3) (pv 6) pps_nil) (by rfl) (by rfl) (fun z => by cases z) (by decide)))
          (pss_cons (ps_lock (ps_for PassesOwn.never rfl (pi_keys (pv 5)) (pg_name (i := 8) scDicts.nd rfl (Or.inl rfl)) (pss_one (ps_dput hu (pv 7) (pv 8) (pe_dget hu (pv 5) (pv 8) (fun _ _ => rfl)) rfl))))
          (pss_one (ps_expr (pe_bm PySem.F.plainAttrs_list PySem.F.slot_list_append PySem.F.type_list_append mt_append (pv 4) (pa_cons (pv 7) pa_nil)))))))))
      (pss_one (ps_set (i := 2) scDicts.nd rfl (Or.inl rfl) (pv 4))))))
    (pss_one (ps_ret (pv 2)))), ?_⟩
  intro d0 hd0
  refine ⟨szl (by decide : 1 ≤ 100), fun r0 hr0 => ?_⟩
  have s1 : Same H (upd H d0 (.dK [])) := same_new hd0
  have s2 := s1.trans (same_new (o := .lst [.ref d0]) hr0)
  have nd0 : d0 ≠ r0 := ne_of_none upd_same hr0
  refine ⟨_, rfl, nl, rfl, ⟨_, s2.seq (SqL.of hN)⟩, for_list (K := K) (a := nl) (xs := ns.map V.str) (fun i σ H' => ∃ (rl : Addr) (ds : List Addr) (v3 v4 v5 v6 v7 v8 : Option V), σ = [some (.ref wt), some (.ref nl), some (.ref rl), v3, v4, v5, v6, v7, v8] ∧
      H' rl = some (.lst (ds.map V.ref)) ∧ ds.length ≤ 3 ^ i ∧ (∀ d ∈ ds, DictAt H' d ws (ns.take i) i) ∧ Same H H')
    ⟨r0, [d0], none, none, none, none, none, none, rfl, upd_same, (show 1 ≤ 3 ^ 0 by decide), fun d hd => ?_, s2⟩ (fun i σ H' _ ⟨_, _, _, _, _, _, _, _, _, _, _, _, q⟩ => q.seq (SqL.of hN)) ?_ ?_⟩
  · rw [List.mem_singleton.mp hd]
    exact ⟨[], by rw [upd_ne nd0, upd_same], ⟨fun p hp => by simp at hp, fun n hn => by simp at hn⟩, Nat.le_refl _⟩
  · rintro i x σ H1 hx ⟨rl, ds, v3, v4, v5, v6, v7, v8, rfl, u1, u2, u3, u4⟩
    obtain ⟨nm, hnm, rfl⟩ := map_at hx
    have hi : i < ns.length := (List.getElem?_eq_some_iff.mp hnm).1
    have hp : 3 ^ i ≤ 3 ^ 3 := Nat.pow_le_pow_right (by decide) (by omega)
    -- longer = []
    refine ⟨Nat.zero_le _, fun lg hlg => ?_⟩
    have t1 : Same H1 (upd H1 lg (.lst [])) := same_new hlg
    refine ⟨_, rfl, rl, rfl, ⟨_, t1.seq (SqL.of u1)⟩, for_list (K := K) (a := rl) (xs := ds.map V.ref) (fun r σ H' => ∃ (es : List Addr) (v5 v6 v7 v8 : Option V), σ = [some (.ref wt), some (.ref nl), some (.ref rl), some (.str nm), some (.ref lg), v5, v6, v7, v8] ∧
        H' lg = some (.lst (es.map V.ref)) ∧ es.length ≤ 3 * r ∧ (∀ d ∈ es, DictAt H' d ws (ns.take (i + 1)) (i + 1)) ∧ Same H1 H')
      ⟨[], v5, v6, v7, v8, rfl, upd_same, Nat.zero_le _, fun d hd => by simp at hd, t1⟩ (fun r σ H' _ ⟨_, _, _, _, _, _, _, _, _, q⟩ => q.seq (SqL.of u1)) ?_ ?_⟩
    · rintro r x σ H2 hx2 ⟨es, v5, v6, v7, v8, rfl, w1, w2, w3', w4⟩
      obtain ⟨d, hd, rfl⟩ : ∃ d, ds[r]? = some d ∧ x = .ref d := by
        rw [List.getElem?_map] at hx2
        cases e : ds[r]? with
        | none => rw [e] at hx2; cases hx2
        | some z => rw [e] at hx2; exact ⟨z, rfl, (Option.some.inj hx2).symm⟩
      have hr' : r < ds.length := (List.getElem?_eq_some_iff.mp hd).1
      have hW2 := hW.same (u4.trans w4)
      -- for word in words
      refine ⟨_, rfl, wt, rfl, ⟨_, hW2.sq⟩, for_tup (K := K) (a := wt) (xs := ws.map V.str) (fun j σ H' => ∃ (es : List Addr) (v6 v7 v8 : Option V), σ = [some (.ref wt), some (.ref nl), some (.ref rl), some (.str nm), some (.ref lg), some (.ref d), v6, v7, v8] ∧
          H' lg = some (.lst (es.map V.ref)) ∧ es.length ≤ 3 * r + j ∧ (∀ d ∈ es, DictAt H' d ws (ns.take (i + 1)) (i + 1)) ∧ Same H1 H')
        ⟨es, v6, v7, v8, rfl, w1, w2, w3', w4⟩ (fun j σ H' _ ⟨_, _, _, _, _, _, _, _, q⟩ => (hW.same (u4.trans q)).sq) ?_ ?_⟩
      · rintro j x σ H3 hx3 ⟨es, v6, v7, v8, rfl, x1, x2, x3, x4⟩
        obtain ⟨z, hz, rfl⟩ := map_at hx3
        have hzw : z ∈ ws := List.mem_of_getElem? hz
        have hj : j < ws.length := (List.getElem?_eq_some_iff.mp hz).1
        -- other = {name: word}
        refine fun q hq => ⟨_, rfl, _, rfl, upd_same, [(Sum.inr nm, .str z)], rfl, by show 1 ≤ 15; decide, ?_⟩
        rw [upd_upd]
        have t3 : Same H3 (upd H3 q (.dK [(Sum.inr nm, V.str z)])) := same_new hq
        obtain ⟨kvs, e1, g1, l1⟩ := (u3 d (List.mem_of_getElem? hd)).same x4
        have ndq : d ≠ q := ne_of_none e1 hq
        have ed : (upd H3 q (.dK [(Sum.inr nm, V.str z)])) d = some (.dK kvs) := t3 _ _ e1
        -- the row copied
        refine ⟨d, .dK kvs, ed, trivial, fun od => ⟨_, rfl, d, od, rfl, .inl ⟨kvs, upd_same, ?_⟩⟩⟩
        refine for_it walk_keys (fun j σ H' => ∃ (kv2 : List (Key × V)) (v8 : Option V), σ = [some (.ref wt), some (.ref nl), some (.ref rl), some (.str nm), some (.ref lg), some (.ref d), some (.str z), some (.ref q), v8] ∧
            H' = upd (upd H3 d (.frz od (.dK kvs))) q (.dK kv2) ∧ Copied kvs [(Sum.inr nm, V.str z)] kv2 j)
          ⟨[(Sum.inr nm, V.str z)], v8, rfl, ?_, Copied.zero _ _⟩ (fun j σ H' _ ⟨_, _, _, e, _⟩ => by rw [e, upd_ne ndq, upd_same]) ?_ ?_
        · funext b
          show (if b = d then _ else if b = q then _ else _) = (if b = q then _ else if b = d then _ else _)
          by_cases c : b = d
          · subst c
            rw [if_pos rfl, if_neg ndq, if_pos rfl]
          · rw [if_neg c, if_neg c]
            rfl
        · rintro m x σ H4 H5 hm ⟨kv2, v8, rfl, rfl, cp⟩ ⟨rfl, key, val, hkv, rfl⟩
          obtain ⟨v0, hv0⟩ := valV_there hkv
          have hl2 := cp.len
          refine ⟨_, rfl, _, rfl, d, v0, rfl, .inl ⟨kvs, key, .inr ⟨od, by rw [upd_ne ndq, upd_same]⟩, rfl, hv0.symm⟩, ?_⟩
          refine ⟨_, rfl, _, rfl, q, _, rfl, DPut.k (k := key) upd_same (small1000 (by show kv2.length ≤ 1000; have : kv2.length ≤ 1 + m := hl2; omega)), ?_⟩
          exact ⟨putK kv2 key v0, _, rfl, upd_upd, cp.step hkv hv0⟩
        · rintro σ H4 ⟨kv2, v8, rfl, rfl, cp⟩
          refine ⟨by rw [upd_ne ndq, upd_same], ?_⟩
          rw [upd_lock e1 ndq]
          have t4 : Same H3 (upd H3 q (.dK kv2)) := same_new hq
          have x1' := t4 _ _ x1
          have hes : es.length ≤ 3 * r + j := x2
          refine ⟨_, rfl, .inl ⟨rfl, _, SqL.of x1'⟩, _, rfl, lg, _, _, rfl, rfl, x1', by rw [List.length_map]; exact small1000 (by omega), ?_⟩
          refine ⟨es ++ [q], _, _, _, rfl, by rw [upd_same, List.map_append]; rfl, by rw [List.length_append]; show es.length + 1 ≤ _; omega, fun d' hd' => ?_, fun b o hb => ?_⟩
          · refine DictAt.updl ?_ x1'
            rcases List.mem_append.mp hd' with c | c
            · exact (x3 d' c).same t4
            · rw [List.mem_singleton.mp c, take_snoc hnm]
              exact ⟨kv2, upd_same, g1.more hzw cp, by have : kv2.length ≤ 1 + kvs.length := cp.len; omega⟩
          · rw [upd_ne (ne_of_none hb hlg)]
            exact t4 _ _ (x4 _ _ hb)
      · rintro σ H3 ⟨es, v6, v7, v8, rfl, x1, x2, x3, x4⟩
        rw [List.length_map] at x2
        exact ⟨es, _, _, _, _, rfl, x1, by omega, x3, x4⟩
    · rintro σ H2 ⟨es, v5, v6, v7, v8, rfl, w1, w2, w3', w4⟩
      rw [List.length_map] at w2
      refine ⟨_, rfl, lg, es, _, _, _, _, _, _, rfl, w1, ?_, w3', u4.trans w4⟩
      rw [Nat.pow_succ]
      omega
  · rintro σ H1 ⟨rl, ds, v3, v4, v5, v6, v7, v8, rfl, u1, u2, u3, u4⟩
    rw [List.length_map, List.take_length] at u3
    refine ⟨_, rfl, k rl ds H1 u1 (fun d hd => ?_) u4⟩
    obtain ⟨kvs, e, g, l⟩ := u3 d hd
    exact ⟨kvs, e, g, by omega⟩
end
end K2
namespace K2
open PySem PySem.Spec PyProof.Rows L2
abbrev sEval : Stmt := top 13
abbrev pEval : List Str := ["words", "expression", "table"]
abbrev nEval : List Str := ["words", "expression", "table", "kind", "index"]
theorem scEval : FnScope nEval pEval (defScope sEval) := ⟨rfl, rfl, rfl, by decide +kernel, rfl, by decide +kernel, by decide +kernel⟩
/-- at d stands a dict that tells s of the names ns -/
def Tells (H : Hp) (d : Addr) (ws ns : List Str) (s : Str → Str) : Prop := ∃ kvs, H d = some (.dK kvs) ∧ ∀ m ∈ ns, s m ∈ ws ∧ valV kvs (Sum.inr m) = some (.str (s m))
theorem Tells.same {H H' : Hp} {d : Addr} {ws ns : List Str} {s : Str → Str} (h : Tells H d ws ns s) (b : Same H H') : Tells H' d ws ns s := by
  obtain ⟨kvs, e, g⟩ := h
  exact ⟨kvs, b _ _ e, g⟩
theorem Tells.mem {H : Hp} {d : Addr} {ws ns : List Str} {s : Str → Str} (h : Tells H d ws ns s) : ∀ m ∈ ns, s m ∈ ws := by
  obtain ⟨kvs, e, g⟩ := h
  exact fun m hm => (g m hm).1
def spEval (n : Nat) : Sp := fun vs H Q _ => ∃ (wt d : Addr) (v : V) (e : Ex) (ws ns : List Str) (s : Str → Str), vs = [.ref wt, v, .ref d] ∧ WT H wt (ws.map V.str) ∧ ExAt H v e ∧ e.Ok ws ns ∧ e.deep ≤ n ∧ Tells H d ws ns s ∧ Q (.str (e.ev ws s)) H
abbrev sValue : Stmt := top 62
abbrev pValue : List Str := ["app", "expression", "words"]
theorem scValue : FnScope pValue pValue (defScope sValue) := ⟨rfl, rfl, rfl, by decide +kernel, rfl, by decide +kernel, by decide +kernel⟩
/-- an app stands at a, its words at wt -/
def AppAt (C : Addr) (H : Hp) (a wt : Addr) : Prop := ∃ dx fs, H a = some (.ins C dx fs) ∧ fs.lookup ("words" : Str) = some (.ref wt)
theorem AppAt.same {C : Addr} {H H' : Hp} {a wt : Addr} (h : AppAt C H a wt) (b : Same H H') : AppAt C H' a wt := by
  obtain ⟨dx, fs, e, g⟩ := h
  exact ⟨dx, fs, b _ _ e, g⟩
theorem AppAt.but {C : Addr} {H H' : Hp} {p a wt : Addr} {xs : List V} (h : AppAt C H a wt) (b : But [p] H H') (hp : H p = some (.lst xs)) : AppAt C H' a wt := by
  obtain ⟨dx, fs, e, g⟩ := h
  exact ⟨dx, fs, b.at1 e (ne_of e hp (by intro z; cases z)), g⟩
/-- the class App as the top has made it -/
structure TxA (K : PySem.W.Frag) (mg : Str → Option Value) (C : Addr) : Prop where
  cl : Cls K C
  nW : NoAttr K C "words"
  nC : NoAttr K C "cells"
  nP : NoAttr K C "parts"
  mgC : mg "App" = some (.ref C)
def spValue (C : Addr) (n : Nat) : Sp := fun vs H Q _ => ∃ (a wt d : Addr) (v : V) (e : Ex) (ws ns : List Str) (s : Str → Str), vs = [.ref a, v, .ref d] ∧ AppAt C H a wt ∧ WT H wt (ws.map V.str) ∧ ExAt H v e ∧ e.Ok ws ns ∧ e.deep ≤ n ∧ Tells H d ws ns s ∧ Q (.str (e.ev ws s)) H
section
variable {P : Program} {w : World} {K : PySem.W.Frag} {mg : Str → Option Value} {base : Heap}
theorem has_eval1 {n : Nat} (D : TD K mg "evaluate" sEval pEval) (B : Bi mg) (hE : Has P w K mg base "evaluate" n pEval (spEval n)) : Has P w K mg base "evaluate" (n + 1) pEval (spEval (n + 1)) := by
  refine D.has scEval (fun vs H Q E h => ?_) (fun f cdv A outer s H vs Q E hr h => ?_)
  · obtain ⟨wt, d, v, e, ws, ns, s, rfl, _⟩ := h
    rfl
  obtain ⟨wt, d, v, e, ws, ns, σ, rfl, hW, he, hok, hd, hT, k⟩ := h
  have hu := hu_of hr
  refine ⟨_, pss_cons (ps_set (i := 3) scEval.nd rfl (Or.inl rfl) (pe_ix ix_tup (pv 1) pe_int (fun _ _ => rfl)))
    (pss_cons (ps_if (pt_cmpR op_eq (pv 3) pe_str (nomark _)) (pss_one (ps_ret (pe_ix ix_tup (pv 1) pe_int (fun _ _ => rfl)))) pss_nil)
    (pss_cons (ps_if (pt_cmpR op_eq (pv 3) pe_str (nomark _)) (pss_one (ps_ret (pe_dget hu (pv 2) (pe_ix ix_tup (pv 1) pe_int (fun _ _ => rfl)) (fun _ _ => rfl)))) pss_nil)
    (pss_cons (ps_set (i := 4) scEval.nd rfl (Or.inl rfl) (pe_tix (pv 0) (pcall hE hr (Nat.le_refl _) (pa_cons (pv 0) (pa_cons (pe_ix ix_tup (pv 1) pe_int (fun _ _ => rfl)) (pa_cons (pv 2) pa_nil))))))
    (pss_cons (ps_if (pt_cmpR op_eq (pv 3) pe_str (nomark _)) (pss_one (ps_ret (pe_ix ix_tup (pe_ix ix_tup (pv 1) pe_int (fun _ _ => rfl)) (pv 4) (fun _ _ => rfl)))) pss_nil)
    (pss_one (ps_ret (pe_ix ix_tup (pe_ix ix_tup (pe_ix ix_tup (pv 1) pe_int (fun _ _ => rfl)) (pv 4) (fun _ _ => rfl))
      (pe_tix (pv 0) (pcall hE hr (Nat.le_refl _) (pa_cons (pv 0) (pa_cons (pe_ix ix_tup (pv 1) pe_int (fun _ _ => rfl)) (pa_cons (pv 2) pa_nil))))) (fun _ _ => rfl)))))))), ?_⟩
  cases e with
  | word x =>
    obtain ⟨a, rfl, ha⟩ := he
    refine ⟨_, rfl, a, _, 0, _, rfl, rfl, SqT.of ha, rfl, ?_⟩
    refine ⟨_, rfl, rfl, _, rfl, ?_⟩
    exact ⟨_, rfl, a, _, 1, _, rfl, rfl, SqT.of ha, rfl, k⟩
  | name x =>
    obtain ⟨a, rfl, ha⟩ := he
    obtain ⟨kvs, e1, g1⟩ := hT
    obtain ⟨_, g2⟩ := g1 x hok
    refine ⟨_, rfl, a, _, 0, _, rfl, rfl, SqT.of ha, rfl, ?_⟩
    refine ⟨_, rfl, rfl, _, rfl, ?_⟩
    refine ⟨_, rfl, rfl, _, rfl, ?_⟩
    exact ⟨_, rfl, _, rfl, a, _, 1, _, rfl, rfl, SqT.of ha, rfl, d, .str (σ x), rfl, .inl ⟨kvs, Sum.inr x, .inl e1, rfl, g2.symm⟩, k⟩
  | map r e =>
    obtain ⟨a, b, x, rfl, ha, hb, hx⟩ := he
    have hd' : 1 + e.deep ≤ n + 1 := hd
    have hm := ev_mem hT.mem hok.2
    refine ⟨_, rfl, a, _, 0, _, rfl, rfl, SqT.of ha, rfl, ?_⟩
    refine ⟨_, rfl, rfl, _, rfl, ?_⟩
    refine ⟨_, rfl, rfl, _, rfl, ?_⟩
    refine ⟨_, rfl, wt, rfl, ws, hW, _, rfl, _, rfl, a, _, 2, _, rfl, rfl, SqT.of ha, rfl, _, rfl, wt, d, x, e, ws, ns, σ, rfl, hW, hx, hok.2, by omega, hT, ?_⟩
    refine ⟨_, _, rfl, hW, ix_get hm, fun m h => ix_first h, ?_⟩
    refine ⟨_, rfl, rfl, _, rfl, ?_⟩
    exact ⟨_, rfl, a, _, 1, _, rfl, rfl, SqT.of ha, rfl, _, rfl, b, _, _, _, rfl, rfl, SqT.of hb, atI_nat (by rw [List.getElem?_map, at1_get hok.1.1 hm]; rfl), k⟩
  | pair t e f =>
    obtain ⟨a, b, x, y, rs, rfl, ha, hb, hrs, hx, hy⟩ := he
    have hd' : 1 + max e.deep f.deep ≤ n + 1 := hd
    have hm := ev_mem hT.mem hok.2.1
    have hm2 := ev_mem hT.mem hok.2.2
    obtain ⟨a2, h1, h2⟩ := hrs.get (at2_get hok.1.1 hm)
    refine ⟨_, rfl, a, _, 0, _, rfl, rfl, SqT.of ha, rfl, ?_⟩
    refine ⟨_, rfl, rfl, _, rfl, ?_⟩
    refine ⟨_, rfl, rfl, _, rfl, ?_⟩
    refine ⟨_, rfl, wt, rfl, ws, hW, _, rfl, _, rfl, a, _, 2, _, rfl, rfl, SqT.of ha, rfl, _, rfl, wt, d, x, e, ws, ns, σ, rfl, hW, hx, hok.2.1, by omega, hT, ?_⟩
    refine ⟨_, _, rfl, hW, ix_get hm, fun m h => ix_first h, ?_⟩
    refine ⟨_, rfl, rfl, _, rfl, ?_⟩
    refine ⟨_, rfl, a, _, 1, _, rfl, rfl, SqT.of ha, rfl, _, rfl, b, _, _, _, rfl, rfl, SqT.of hb, atI_nat h1, ?_⟩
    refine ⟨_, rfl, wt, rfl, ws, hW, _, rfl, _, rfl, a, _, 3, _, rfl, rfl, SqT.of ha, rfl, _, rfl, wt, d, y, f, ws, ns, σ, rfl, hW, hy, hok.2.2, by omega, hT, ?_⟩
    refine ⟨_, _, rfl, hW, ix_get hm2, fun m h => ix_first h, ?_⟩
    exact ⟨a2, _, _, _, rfl, rfl, SqT.of h2, atI_nat (by rw [List.getElem?_map, at1_get (at2_ok hok.1 hm).1 hm2]; rfl), k⟩
theorem has_eval (D : TD K mg "evaluate" sEval pEval) (B : Bi mg) : ∀ n : Nat, Has P w K mg base "evaluate" n pEval (spEval n)
  | 0 => Has.none D fun vs H Q E h => by
      obtain ⟨_, _, _, e, _, _, _, _, _, _, _, h5, _⟩ := h
      have := deep_pos e
      omega
  | n + 1 => has_eval1 D B (has_eval D B n)
theorem has_value {n : Nat} {C : Addr} (D : TD K mg "value" sValue pValue) (B : Bi mg) (T : TxA K mg C) (hE : Has P w K mg base "evaluate" n pEval (spEval n)) : Has P w K mg base "value" (n + 1) pValue (spValue C n) := by
  refine D.has scValue (fun vs H Q E h => ?_) (fun f cdv A outer s H vs Q E hr h => ?_)
  · obtain ⟨a, wt, d, v, e, ws, ns, s, rfl, _⟩ := h
    rfl
  obtain ⟨a, wt, d, v, e, ws, ns, σ, rfl, ⟨dx, fs, ha, hl⟩, hW, he, hok, hd, hT, k⟩ := h
  refine ⟨_, pss_one (ps_ret (pcall hE hr (Nat.le_refl _) (pa_cons (pe_fld (pv 0) rfl) (pa_cons (pv 1) (pa_cons (pv 2) pa_nil))))), ?_⟩
  exact ⟨_, rfl, a, C, dx, fs, _, rfl, ha, T.cl, T.nW, hl, _, rfl, _, rfl, wt, d, v, e, ws, ns, σ, rfl, hW, he, hok, hd, hT, k⟩
theorem has_size (D : TD K mg "_law_size" sSize pOne) (B : Bi mg) : ∀ n : Nat, Has P w K mg base "_law_size" n pOne (spInt n)
  | 0 => Has.none D fun vs H Q E h => by
      obtain ⟨_, e, _, _, h5, _⟩ := h
      have := deep_pos e
      omega
  | n + 1 => has_size1 D B (has_size D B n)
theorem has_deep (D : TD K mg "_law_deep" sDeep pOne) (B : Bi mg) : ∀ n : Nat, Has P w K mg base "_law_deep" n pOne (spInt n)
  | 0 => Has.none D fun vs H Q E h => by
      obtain ⟨_, e, _, _, h5, _⟩ := h
      have := deep_pos e
      omega
  | n + 1 => has_deep1 D B (has_deep D B n)
theorem has_used (D : TD K mg "_law_used" sUsed pOne) (B : Bi mg) : ∀ n : Nat, Has P w K mg base "_law_used" n pOne (spUsed n)
  | 0 => Has.none D fun vs H Q E h => by
      obtain ⟨_, e, _, _, h5, _⟩ := h
      have := deep_pos e
      omega
  | n + 1 => has_used1 D B (has_used D B n)
theorem has_put (D : TD K mg "_law_put_in" sPut pPut) (B : Bi mg) : ∀ n : Nat, Has P w K mg base "_law_put_in" n pPut (spPut n)
  | 0 => Has.none D fun vs H Q E h => by
      obtain ⟨_, _, _, e, _, _, _, _, h5, _⟩ := h
      have := deep_pos e
      omega
  | n + 1 => has_put1 D B (has_put D B n)
theorem has_moved (D : TD K mg "_law_moved" sMoved pMoved) (B : Bi mg) (hR : Has P w K mg base "_law_moved_row" 1 pMRow spMRow) : ∀ n : Nat, Has P w K mg base "_law_moved" (n + 1) pMoved (spMoved n)
  | 0 => (Has.none D fun vs H Q E h => by
      obtain ⟨_, _, _, e, _, _, _, _, _, _, _, h5, _⟩ := h
      have := deep_pos e
      omega).mono (Nat.zero_le _)
  | n + 1 => has_moved1 D B hR (has_moved D B hR n)
end
end K2
/-! Rules that the layer has for lists alone: enumerate of a tuple, t[::-1] of a tuple of one item. -/
namespace K2
open PySem PySem.Spec PyProof.Rows L2
open Sem (wp)
/-! ### enumerate of a tuple -/
set_option maxHeartbeats 1000000 in
theorem meets_enumerate_newB1 {v : Value} {o : Obj} {H : Heap → Prop} (B : Begins v o H) :
    Meets (Builtin.«enumerate.__new__» ⟨[.type "enumerate", v], []⟩) (fun _ R s => H s.heap ∧
      R (.ok (.ret (.ref (s.heap.push o).objs.size))) { s with heap := (s.heap.push o).push { cls := .type "enumerate", data := .fields #[.none, .bool false, .ref s.heap.objs.size, rawInt 0, .none, .none] } }) :=
  .of_wp fun prog w A R s h => by
    obtain ⟨hp, g, d, tk, os⟩ := s; obtain ⟨h1, h⟩ := h
    have hsub := sub_enumerate
    have q1 : ∀ {A' : Around} {E : Value → Shared → Prop} {Q : Value → Shared → Prop}, Q (.ref hp.objs.size) ⟨hp.push o, g, d, tk, os⟩ → wpAny (model prog w) A' (pyIter v) Q E ⟨hp, g, d, tk, os⟩ :=
      fun q => B.iter prog w _ _ ⟨hp, g, d, tk, os⟩ _ h1 q
    wp_walk using q1
    refine wpAny_stack_any fun st => wpAny_pure ?_
    split
    · rename_i c _ _ _ _ _
      cases (c == Value.type "enumerate")
      · wp_walk using q1
        exact ⟨_, rfl, h⟩
      · wp_walk using q1
        exact ⟨_, rfl, h⟩
    · wp_walk using q1
      exact ⟨_, rfl, h⟩
theorem enum_begins1 {prog : Program} {w : World} {A : Around} {E : Value → Shared → Prop} {s : Shared} {v : Value} {o : Obj} {H : Heap → Prop} {Q : Value → Shared → Prop} (B : Begins v o H) (h1 : H s.heap)
    (h : ∀ h', IsEnum h' (s.heap.objs.size + 1) s.heap.objs.size 0 .none → h'.get? s.heap.objs.size = some o → h'.objs.size = s.heap.objs.size + 2 →
      (∀ b o, s.heap.get? b = some o → h'.get? b = some o) → Q (.ref (s.heap.objs.size + 1)) { s with heap := h' }) :
    wpAny (model prog w) A (call (.type "enumerate") [v]) Q E s := by
  refine callType_new PySem.F.called_enumerate (by decide) (PySem.F.typeCall_enumerate_1 _) (PySem.F.newCall_enumerate_1 _) (fun obj => PySem.F.args_object_init_2 obj _) PySem.F.entry_enumerate_new
    (meets_enumerate_newB1 B) ⟨h1, ?_⟩
  have hz : (s.heap.push o).objs.size = s.heap.objs.size + 1 := Heap.size_push ..
  show _ ∧ _
  rw [hz]
  have he : IsEnum ((s.heap.push o).push { cls := .type "enumerate", data := .fields #[.none, .bool false, .ref s.heap.objs.size, rawInt 0, .none, .none] }) (s.heap.objs.size + 1) s.heap.objs.size 0 .none := by
    have := Heap.get?_push_size (s.heap.push o) (o := { cls := .type "enumerate", data := .fields #[.none, .bool false, .ref s.heap.objs.size, rawInt 0, .none, .none] }) rfl
    rw [hz] at this; exact this
  refine ⟨⟨_, he, rfl⟩, h _ he (Heap.get?_push_of_some _ (Heap.get?_push_size _ B.free)) (by rw [Heap.size_push, hz]) fun b o x => Heap.get?_push_of_some _ (Heap.get?_push_of_some _ x)⟩
/-- the tuple at a, each item in a new pair -/
def Ett (K : PySem.W.Frag) (a : Addr) : It :=
  ⟨fun i H => ∃ (xs : List V) (x : V), SqT K H a xs ∧ xs[i]? = some x, fun i H v H' => ∃ T x, v = .ref T ∧ H T = none ∧ H' = upd H T (.tup [.int (i : Nat), x]) ∧ ∀ xs, SqT K H a xs → xs[i]? = some x, fun i H => ∃ xs : List V, SqT K H a xs ∧ xs.length = i⟩
theorem turn_enumT {P : Program} {w : World} {K : PySem.W.Frag} {elts : List Expr} {kk : Nat} {tpos : Pos} (a e it : Addr) :
    Turn P w K (.Tuple elts kk tpos) (Ett K a) [e, it] e (fun i h => (∃ old, IsEnum h e it ((i : Nat) : Int) old) ∧ h.IsTupleIter it a i ∧ e ≠ it) where
  mem := by simp
  obj := fun i h st b hb => by
    obtain ⟨⟨old, he⟩, ⟨o, ho, hc, hd⟩, _⟩ := st
    have e' : b = e ∨ b = it := by simpa using hb
    rcases e' with z | z
    · rw [z]; exact ⟨_, he, fun v q => nomatch q⟩
    · rw [z]; exact ⟨o, ho, fun v q => by rw [hd] at q; cases q⟩
  keep := fun i h h' st k => let ⟨⟨old, he⟩, hi, hne⟩ := st; ⟨⟨old, k e (by simp) _ he⟩, hi.at fun o q => k it (by simp) o q, hne⟩
  item := by
    intro X hP hw hK hc i pins s σ H E I hf st hg
    subst hP hw hK
    obtain ⟨⟨old, he⟩, hit, hne⟩ := st
    obtain ⟨xs, x, hq, hx⟩ := hg
    obtain ⟨its, rv, p, hz⟩ := I.tuple hq
    obtain ⟨u, hu, ru⟩ := rv.get hx
    have hel : e < s.heap.objs.size := Heap.lt_size he
    have hil : it < s.heap.objs.size := by obtain ⟨_, q, _⟩ := hit; exact Heap.lt_size q
    have hai : a ≠ it := fun z => by
      obtain ⟨o1, g1, c1, _⟩ := p
      obtain ⟨o2, g2, c2, _⟩ := hit
      rw [z, g2] at g1; cases g1
      rw [c1] at c2
      exact absurd (Value.type.inj c2) (by decide)
    have hae : e ≠ a := fun z => by
      obtain ⟨o1, g1, c1, _⟩ := p
      have g2 : s.heap.get? e = some _ := he
      rw [z, g1] at g2
      cases g2
      exact absurd (Value.type.inj c1) (by decide)
    have D := Draws.tuple (prog := X.prog) (w := X.w) (A := X.A.in1) (I.ok.hd hc) it a hai its.toArray
    have hlen : i < its.toArray.size := by
      have := (List.getElem?_eq_some_iff.mp hu).1
      simpa using this
    refine wpAny_pyNext_enum_itemD D he ⟨hit, p⟩ hlen hne (by simp [hne, hae]) fun y h' tk hy ho hst hT hsz hk => ?_
    have hyu : y = u := by
      have : its.toArray[i]? = some u := by simpa using hu
      rw [this] at hy
      exact (Option.some.inj hy).symm
    subst hyu
    refine ⟨_, rfl, wpAny_letOwnedTupleGo_enum (s := { s with heap := h', toks := tk + 1 }) ho fun h'' he' sb => ?_⟩
    have hT2 : h''.get? s.heap.objs.size = some { cls := .type "tuple", data := .seq #[.int i tk, y] } := (sb.2 _ (Nat.ne_of_gt hel)).trans hT
    have new : ObjOk X.prog X.w (upd H s.heap.objs.size (.tup [.int (i : Nat), x])) h'' s.heap.objs.size (.tup [.int (i : Nat), x]) :=
      ⟨by show 2 ≤ sizeLine; decide, [.int i tk, y], .cons ⟨_, rfl⟩ (.cons ru .nil), ⟨_, hT2, rfl, _, rfl⟩⟩
    have I1 : Inv X pins σ (upd H s.heap.objs.size (.tup [.int (i : Nat), x])) { s with heap := h'', toks := tk + 1 } :=
      I.turnedNew (ch := [e, it]) (fun b ob hb q => (sb.2 b (fun z => hb (by simp [z]))).trans (hk b ob (fun z => hb (by simp [z])) (fun z => hb (by simp [z])) q)) hf (Nat.le_refl _) new
    refine ⟨.ref s.heap.objs.size, _, I1, rfl, ⟨_, x, rfl, I.hok.fresh (Nat.le_refl _), rfl, fun ys hy => by rw [I.tuple_inj hy hq]; exact hx⟩, ⟨⟨y, ?_⟩, hst.1.at fun o q => (sb.2 it (Ne.symm hne)).trans q, hne⟩, fun b hb => ?_⟩
    · have e1 : ((i + 1 : Nat) : Int) = (i : Int) + 1 := by omega
      rw [e1]; exact he'
    · have hb' : b < s.heap.objs.size := by
        have e' : b = e ∨ b = it := by simpa using hb
        rcases e' with z | z
        · rw [z]; exact hel
        · rw [z]; exact hil
      rw [upd_ne (Nat.ne_of_lt hb')]
      exact (hf b hb).1
  done := by
    intro X hP hw hK hc i pins s σ H E I hf st hg
    subst hP hw hK
    obtain ⟨⟨old, he⟩, hit, hne⟩ := st
    obtain ⟨xs, hq, hx⟩ := hg
    obtain ⟨its, rv, p, hz⟩ := I.tuple hq
    obtain ⟨f0, f1, f2, f3, f4, f5⟩ := hf it (by simp)
    have hl := rv.length
    have hai : a ≠ it := fun z => by
      obtain ⟨o1, g1, c1, _⟩ := p
      obtain ⟨o2, g2, c2, _⟩ := hit
      rw [z, g2] at g1; cases g1
      rw [c1] at c2
      exact absurd (Value.type.inj c2) (by decide)
    have D := Draws.tuple (prog := X.prog) (w := X.w) (A := X.A.in1) (I.ok.hd hc) it a hai its.toArray
    have en : i = its.toArray.size := by rw [List.size_toArray]; omega
    exact wpAny_pyNext_enum_endD D he ⟨en ▸ hit, p⟩ fun h' eb => ⟨rfl, I.turned (t' := s.toks) (fun b o hb q => eb b o hb q) f0 f1 f3 f4 f5⟩
  self := fun A i s Q E st h => let ⟨⟨_, he⟩, _⟩ := st; wpAny_pyIter_enum he h
def iEnumT (K : PySem.W.Frag) (ta : TA) : TI := fun σ H R => ta σ H fun vs H1 => ∃ a xs, vs = [.ref a] ∧ SqT K H1 a xs ∧ R (Ett K a) H1
theorem pi_enumT {X : Cx} {e : Expr} {ta : TA} {p pos tpos : Pos} {elts : List Expr} {kk : Nat} (hg : Gl X "enumerate") (hm : X.mg "enumerate" = none) (ha : PA X [e] ta) (hs : starEach [e] X.env = [(false, eval e X.env)] := by rfl) :
    PI X (.Tuple elts kk tpos) (.Call (.Name "enumerate" p) [e] [] pos) (iEnumT X.K ta) := by
  refine ⟨fun pins s σ H R I h => ?_⟩
  refine Call_ (ld_blt I hg hm boot_enumerate (PyProof.Rows.callWith_type1 (thn (ha.run pos pins s σ H _ I h) fun us s1 ⟨vs, H1, I1, r1, q1⟩ => ?_) hs rfl))
  obtain ⟨a, xs, ex, hq, q⟩ := q1
  subst ex
  cases r1 with
  | cons r rr =>
    cases rr
    cases r
    obtain ⟨its, rv, p', hz⟩ := I1.tuple hq
    refine enum_begins1 (begins_tuple a its.toArray) p' fun h' he hit hsz hk => wpAny_pyIter_enum he ?_
    have I2 : Inv X pins σ H1 { s1 with heap := h' } := I1.kept (t' := s1.toks) hk
    refine ⟨s1.heap.objs.size + 1, [s1.heap.objs.size + 1, s1.heap.objs.size], _, _, H1, rfl, I2, turn_enumT a (s1.heap.objs.size + 1) s1.heap.objs.size, ⟨⟨.none, he⟩, ⟨_, hit, rfl, rfl⟩, Nat.succ_ne_self _⟩, fun b hb => ?_, q⟩
    have e' : b = s1.heap.objs.size + 1 ∨ b = s1.heap.objs.size := by simpa using hb
    have hle : s1.heap.objs.size ≤ b := by
      rcases e' with z | z
      · rw [z]; exact Nat.le_add_right _ _
      · rw [z]; exact Nat.le_refl _
    exact I1.fpOk hle (I1.hok.fresh hle)
theorem walk_enumT {K : PySem.W.Frag} {a : Addr} {xs : List V} : Walk (Ett K a) xs.length (fun H => SqT K H a xs) (YPair (fun i => some (.int (i : Nat))) (fun i => xs[i]?)) := by
  refine ⟨fun i _ hi q => ⟨xs, xs[i], q, by simp [hi]⟩, fun _ q => ⟨xs, q, rfl⟩, fun i H v H' _ q y => ?_⟩
  obtain ⟨T, x, h1, h2, h3, h4⟩ := y
  exact ⟨T, .int (i : Nat), x, h1, h2, h3, rfl, h4 xs q⟩

/-! ### t[::-1] of a tuple of one item -/
section
variable {prog : Program} {w : World} {A : Around} {E : Value → Shared → Prop} {s : Shared}
theorem sliceApplied_back {sl : Addr} {t : Tok} {Q : Int × Int × Nat → Shared → Prop} (hs : s.heap.IsSliceOf sl .none .none (.int (-1) t))
    (h : Q (0, -1, 1) s) : wpAny (model prog w) A (Builtin.Slice.sliceApplied (.ref sl) (pure (1 : Int))) Q E s := by
  obtain ⟨os, hos, hcs, hds⟩ := id hs
  unfold Builtin.Slice.sliceApplied Builtin.Slice.sliceFields
  refine wpAny_bind (wpAny_bind (wpAny_field hos hds (x := .none) rfl (wpAny_bind (wpAny_field hos hds (x := .none) rfl (wpAny_bind (wpAny_field hos hds (x := .int (-1) t) rfl (wpAny_pure ?_)))))))
  refine wpAny_bind (slicePart_int ?_)
  show wpAny _ _ (if ((-1 : Int) == 0) = true then _ else _) _ _ s
  rw [if_neg (by decide)]
  refine wpAny_bind (slicePart_none (wpAny_bind (slicePart_none (wpAny_bind (wpAny_pure ?_)))))
  exact wpAny_pure h
theorem getItem_tuple_back1 {t sl : Addr} {x : Value} {tk : Tok} {Q : Value → Shared → Prop} (ht : IsTup s.heap t #[x]) (hs : s.heap.IsSliceOf sl .none .none (.int (-1) tk))
    (h : Q (.ref s.heap.objs.size) { s with heap := s.heap.push { cls := .type "tuple", data := .seq #[x] } }) : wpAny (model prog w) A (getItem (.ref t) (.ref sl)) Q E s := by
  have htake : sizeOk (.seq #[x]) := by
    show 1 ≤ sizeLine
    decide
  obtain ⟨os, hos, hcs, hds⟩ := id hs
  have hTs : s.TypeIs (.ref sl) "slice" := ⟨os, hos, hcs⟩
  unfold getItem
  try with_reducible refine wpAny_holding ?_
  first | refine wpAny_bind (wpAny_pure ?_) | skip
  refine wpAny_bind (wpAny_sequenceKey ht.typeIs (by decide) ?_)
  refine wpAny_bind (wpAny_callSpecial?_slot (name := Str.ofString "__getitem__") ht.typeIs PyProof.Rows.slot_tuple_getitem
    (wpAny_call_entry PyProof.Rows.slot_tuple_getitem ht.typeIs entry_tuple_getitem ?_ (args_tuple_getitem _ _)))
  show wpAny _ _ (Builtin.Tuple.tupleItemsOf (.ref t) >>= _) _ _ s
  refine wpAny_bind (tupleItemsOf_ ht ?_)
  refine wpAny_bind (wpAny_typeOf hTs ?_)
  rw [if_pos (by decide)]
  refine wpAny_bind (sliceApplied_back hs ?_)
  show wpAny _ _ (if ((0 : Int) == 0 && (-1 : Int) == 1 && 1 == 1) = true then _ else _) _ _ s
  rw [if_neg (by decide)]
  first
    | exact wpAny_bind (m := Builtin.Tuple.tupleExact _) (wpAny_newObj_type (wpAny_pure ⟨_, rfl, wpAny_pure h⟩) htake)
    | exact wpAny_bind (m := Builtin.Tuple.tupleExact _) (wpAny_newObj_type (wpAny_bind (wpAny_pure (wpAny_pure ⟨_, rfl, wpAny_pure h⟩))) htake)
    | exact wpAny_bind (wpAny_bind (m := Builtin.Tuple.tupleExact _) (wpAny_newObj_type (wpAny_pure (wpAny_pure ⟨_, rfl, wpAny_pure h⟩)) htake))
    | exact wpAny_bind (wpAny_bind (m := Builtin.Tuple.tupleExact _) (wpAny_newObj_type (wpAny_pure ⟨_, rfl, wpAny_pure h⟩) htake))
end
def tBack1 (K : PySem.W.Frag) (te : TE) : TE := fun σ H Q => te σ H fun x H1 => ∃ a y, x = .ref a ∧ SqT K H1 a [y] ∧ ∀ p, H1 p = none → Q (.ref p) (upd H1 p (.tup [y]))
theorem pe_back1 {X : Cx} {e : Expr} {te : TE} {k : Nat} {p1 p2 p3 pos : Pos} (he : PE X e te) : PE X (.Subscript e (.Slice none none (some (.UnaryOp .USub (.Constant (.int 1) k p1) p2)) p3) pos) (tBack1 X.K te) := by
  refine ⟨fun pins s σ H Q I h => ?_⟩
  refine Subscript_ (thn (he.run pins s σ H _ I h) fun v s1 ⟨x, H1, I1, r1, q1⟩ => ?_)
  obtain ⟨a, y, ex, hx, q⟩ := q1
  subst ex
  cases r1
  have hst : PO X (some (.UnaryOp .USub (.Constant (.int 1) k p1) p2)) (tPart (tUn (rU fun i => .int (-i)) (tC (.int 1)))) := po_some (pe_un un_neg pe_int)
  refine wpAny_Slice (thn (po_none.run pins s1 σ H1 (fun o H2 => o = none ∧ H2 = H1) I1 ⟨rfl, rfl⟩) fun vl s2 ⟨l, H2, I2, pl, el, e2⟩ => ?_)
  subst el e2
  refine thn (po_none.run pins s2 σ H2 (fun o H3 => o = none ∧ H3 = H2) I2 ⟨rfl, rfl⟩) fun vu s3 ⟨u, H3, I3, pu, eu, e3⟩ => ?_
  subst eu e3
  refine thn (hst.run pins s3 σ H3 (fun o H4 => o = some (-1) ∧ H4 = H3) I3 ⟨1, rfl, -1, rfl, rfl, rfl⟩) fun vs s4 ⟨o, H4, I4, ps, eo, e4⟩ => ?_
  subst eo e4
  cases pl
  cases pu
  cases ps with
  | int i tk =>
  have I5 : Inv X pins σ H4 { s4 with heap := s4.heap.push { cls := .type "slice", data := .fields #[.none, .none, .int (-1) tk] } } := I4.kept (t' := s4.toks) fun b ob q => Heap.get?_push_of_some _ q
  obtain ⟨its, r, ht, hz⟩ := I5.tuple hx
  cases r with
  | cons r1 rr =>
  cases rr
  show wpAny (model X.prog X.w) X.A (subscriptTail e (.Slice none none (some (.UnaryOp .USub (.Constant (.int 1) k p1) p2)) p3) (.ref a) (.ref s4.heap.objs.size)) (EP X pins σ Q) X.xe { s4 with heap := s4.heap.push { cls := .type "slice", data := .fields #[.none, .none, .int (-1) tk] } }
  refine tail_any (ops := [.ref a, .ref s4.heap.objs.size]) ht.typeIs (PyProof.Rows.slot_tuple_getitem.lookup) ?_ (by with_unfolding_all rfl)
  refine getItem_tuple_back1 ht (Heap.IsSliceOf.new _ _ _ _) ?_
  refine ⟨.ref _, _, I5.laid (t' := s4.toks) (o := .tup [y]) (fun b ob q => Heap.get?_push_of_some _ q) (Nat.le_refl _) ?_, rfl, q _ (I5.hok.fresh (Nat.le_refl _))⟩
  exact ⟨by show 1 ≤ sizeLine; decide, _, .cons r1 .nil, IsTup.new _ _⟩
theorem pg_tupK (K : PySem.W.Frag) {X : Cx} {es : List Expr} {k : Nat} {t : TGs} {n : Nat} {pos : Pos} (h : PGs X es t) (hK : X.K = K := by rfl) (hc : X.calm = true := by rfl)
    (hn : (assignEach es X.env).length = n := by rfl) (hst : (assignEach es X.env).findIdx? (·.1) = none := by rfl) : PG X (.Tuple es k pos) (gTup K n t) := by
  subst hK
  exact pg_tup hc h hn hst
end K2
/-! The check of an app, as it runs for words alone, no cells, and one part that has nothing. -/
namespace K2
open PySem PySem.Spec PyProof.Rows L2
/-- the module's constants -/
structure Co (mg : Str → Option Value) : Prop where
  name : ∃ t, mg "NAME" = some (.int 0 t)
  params : ∃ t, mg "PARAMS" = some (.int 1 t)
  states : ∃ t, mg "STATES" = some (.int 2 t)
  reads : ∃ t, mg "READS" = some (.int 3 t)
  ask : ∃ t, mg "ASK" = some (.int 4 t)
  memo : ∃ t, mg "MEMO" = some (.int 5 t)
  effect : ∃ t, mg "EFFECT" = some (.int 6 t)
  give : ∃ t, mg "GIVE" = some (.int 7 t)
  presses : ∃ t, mg "PRESSES" = some (.int 8 t)
  body : ∃ t, mg "BODY" = some (.int 9 t)
  places : ∃ t, mg "MOST_PLACES" = some (.int 9 t)
  mstates : ∃ t, mg "MOST_STATES" = some (.int 5 t)
  longest : ∃ t, mg "LONGEST_NAME" = some (.int 8 t)
  letters : ∃ t, mg "LETTERS" = some (.str LET t)
theorem pk {X : Cx} {x : Str} {n : Int} {pos : Pos} (h : ∃ t, X.mg x = some (.int n t)) (hg : Gl X x := by rfl) (hd : (x == ("__debug__" : Str)) = false := by decide) : PE X (.Name x pos) (tC (.int n)) := by
  obtain ⟨t, e⟩ := h
  exact pe_glob hg e ⟨t, rfl⟩ hd
theorem pks {X : Cx} {x : Str} {n : Str} {pos : Pos} (h : ∃ t, X.mg x = some (.str n t)) (hg : Gl X x := by rfl) (hd : (x == ("__debug__" : Str)) = false := by decide) : PE X (.Name x pos) (tC (.str n)) := by
  obtain ⟨t, e⟩ := h
  exact pe_glob hg e ⟨t, rfl⟩ hd
/-- isinstance(t, tuple) of a tuple -/
def rIsTup (K : PySem.W.Frag) : List V → Hp → VK → Prop := fun xs H Q => ∃ a ys, xs = [.ref a, .ty "tuple"] ∧ SqT K H a ys ∧ Q (.bl true) H
theorem call_isTup {X : Cx} : CallR X (.builtin "isinstance") (rIsTup X.K) := by
  intro pins s σ H xs us Q I r h
  obtain ⟨a, ys, rfl, hq, q⟩ := h
  cases r with
  | cons rx rr =>
    cases rr with
    | cons rt rr =>
      cases rr
      cases rt
      cases rx
      obtain ⟨its, rv, ⟨o, h1, h2, _⟩, _⟩ := I.tuple hq
      have e : PySem.W.kitOne X.K (.type "tuple") (.type "tuple") = some true := if_pos (beq_self_eq_true _)
      exact PySem.W.kia_one PySem.W.kitx_tuple I.kIn ⟨o, h1, h2⟩ e (fun z => nomatch z) fun tk => ⟨.bl true, H, I.kept (t' := tk) fun _ _ z => z, rfl, q⟩
/-- the part that has nothing -/
def RootAt (H : Hp) (rt : Addr) : Prop := ∃ e1 e2 e3 e4 e5 : Addr, H rt = some (.tup [.str "top", .ref e1, .ref e2, .ref e3, .non, .non, .non, .non, .ref e4, .ref e5]) ∧
  H e1 = some (.tup []) ∧ H e2 = some (.tup []) ∧ H e3 = some (.tup []) ∧ H e4 = some (.tup []) ∧ H e5 = some (.tup [])
theorem RootAt.mono {H H' : Hp} {rt : Addr} (h : RootAt H rt) (T : Tups H H') : RootAt H' rt := by
  obtain ⟨e1, e2, e3, e4, e5, h0, h1, h2, h3, h4, h5⟩ := h
  exact ⟨e1, e2, e3, e4, e5, T _ _ h0, T _ _ h1, T _ _ h2, T _ _ h3, T _ _ h4, T _ _ h5⟩
theorem RootAt.same {H H' : Hp} {rt : Addr} (h : RootAt H rt) (s : Same H H') : RootAt H' rt := h.mono (Tups.same s)
abbrev sIsT : Stmt := top 34
abbrev pIsT : List Str := ["thing", "most"]
theorem scIsT : FnScope pIsT pIsT (defScope sIsT) := ⟨rfl, rfl, rfl, by decide +kernel, rfl, by decide +kernel, by decide +kernel⟩
def spIsT (K : PySem.W.Frag) : Sp := fun vs H Q _ => ∃ (a : Addr) (m : Int) (xs : List V), vs = [.ref a, .int m] ∧ SqT K H a xs ∧ (xs.length : Int) ≤ m ∧ Q (.bl true) H
abbrev sIsN : Stmt := top 6
abbrev nIsN : List Str := ["thing", "letter"]
theorem scIsN : FnScope nIsN ["thing"] (defScope sIsN) := ⟨rfl, rfl, rfl, by decide +kernel, rfl, by decide +kernel, by decide +kernel⟩
def spIsN : Sp := fun vs H Q _ => ∃ z : Str, vs = [.str z] ∧ IsNm z ∧ ∀ H', Same H H' → Q (.bl true) H'
abbrev sAre : Stmt := top 35
abbrev pAre : List Str := ["thing", "taken"]
abbrev nAre : List Str := ["thing", "taken", "seen", "name"]
theorem scAre : FnScope nAre pAre (defScope sAre) := ⟨rfl, rfl, rfl, by decide +kernel, rfl, by decide +kernel, by decide +kernel⟩
def spAre (K : PySem.W.Frag) : Sp := fun vs H Q _ => ∃ (a t : Addr) (xs ts : List Str), vs = [.ref a, .ref t] ∧ SqT K H a (xs.map V.str) ∧ SqL K H t (ts.map V.str) ∧ (∀ x ∈ xs, IsNm x) ∧ (ts ++ xs).Nodup ∧ ts.length + xs.length ≤ 100 ∧ ∀ H', Same H H' → Q (.bl true) H'
section
variable {P : Program} {w : World} {K : PySem.W.Frag} {mg : Str → Option Value} {base : Heap}
theorem has_isT (D : TD K mg "is_tuple" sIsT pIsT) (B : Bi mg) : Has P w K mg base "is_tuple" 1 pIsT (spIsT K) := by
  refine D.has scIsT (fun vs H Q E h => ?_) (fun f cdv A outer s H vs Q E hr h => ?_)
  · obtain ⟨a, m, xs, rfl, _⟩ := h
    rfl
  obtain ⟨a, m, xs, rfl, hS, hl, k⟩ := h
  refine ⟨_, pss_one (ps_ret (pe_and (pe_callB call_isTup (by rfl) B.isi PyProof.Rows.boot_isinstance (pa_cons (pv 0) (pa_cons (pe_bltn (by rfl) B.tuple (by decide +kernel) (v := .ty "tuple") rfl) pa_nil)))
    (pe_one (pe_cmpR op_le (pe_callB call_len_seq (by rfl) B.len PySem.boot_len (pa_cons (pv 0) pa_nil)) (pv 1) (nomark _))))), ?_⟩
  refine ⟨_, rfl, a, xs, rfl, hS, true, rfl, ?_⟩
  refine ⟨_, rfl, a, xs, rfl, .inr hS, _, rfl, _, _, rfl, rfl, ?_⟩
  show Q (.bl (decide ((xs.length : Int) ≤ m))) H
  rw [decide_eq_true hl]
  exact k
theorem has_isN (D : TD K mg "is_name" sIsN ["thing"]) (B : Bi mg) (M : Co mg) : Has P w K mg base "is_name" 1 ["thing"] spIsN := by
  refine D.has scIsN (fun vs H Q E h => ?_) (fun f cdv A outer s H vs Q E hr h => ?_)
  · obtain ⟨z, rfl, _⟩ := h
    rfl
  obtain ⟨z, rfl, hz, k⟩ := h
  refine ⟨_, pss_cons (ps_if (PW.pt (pw_or (pt_not (pt_val (pe_callB RZ.call_isTy (by rfl) B.isi PyProof.Rows.boot_isinstance (pa_cons (pv 0) (pa_cons (pe_bltn (by rfl) B.str (by decide +kernel) (v := .ty "str") rfl) pa_nil)))))
      (pw_or1 (pt_not (pt_chain op_le op_le pe_int (pe_callB call_len_str (by rfl) B.len PySem.boot_len (pa_cons (pv 0) pa_nil)) (pk M.longest)))))) (pss_one ps_never) pss_nil)
    (pss_one (ps_ret (pe_callB (cr_all rfl) (by rfl) B.all PyProof.Rows.boot_all (pa_cons (pe_lc (own := [("letter", 1)]) (g := gName 1) (by rfl) scIsN.nd (pi_str (pv 0))
      (blkOk_by (own := [("letter", 1)]) (N := nIsN) (sc := defScope sIsN) (by decide +kernel)) (fun _ _ _ _ _ => pg_name (i := 1) scIsN.nd rfl (Or.inl rfl)) (fun _ _ _ _ _ => pts_nil)
      (fun _ _ _ _ _ => pe_cmpR op_in_sign (pv 1) (pks M.letters) rfl)) pa_nil)))), ?_⟩
  have l1 : (1 : Int) ≤ (z.length : Int) := by have := hz.1; omega
  have l8 : (z.length : Int) ≤ 8 := by have := hz.2.1; omega
  refine ⟨_, rfl, .str z, "str", rfl, .str z, true, rfl, ?_⟩
  refine ⟨_, rfl, z, rfl, szl (by have := hz.2.1; omega), _, _, rfl, rfl, true, congrArg V.bl (decide_eq_true l1), _, _, rfl, rfl, true, congrArg V.bl (decide_eq_true l8), ?_⟩
  refine ⟨_, rfl, z, rfl, fun D hD => ?_⟩
  refine lc_it walk_str (fun i H' => H' D = some (.lst ((List.replicate i true).map V.bl)) ∧ Same H H') ⟨upd_same, same_new hD⟩ (fun _ _ _ _ => trivial) ?_ ?_
  · rintro i x H4 H5 hi ⟨u1, u2⟩ ⟨rfl, c, hc, rfl⟩
    refine ⟨rfl, ?_⟩
    have hm : c ∈ LET.cps.toList := hz.2.2 c (Array.mem_toList_iff.mpr (Array.mem_of_getElem? hc))
    have hi8 : i < z.length := hi
    have := hz.2.1
    refine ⟨_, rfl, c, LET, rfl, rfl, _, u1, small1000 (by rw [List.length_map, List.length_replicate]; omega), ?_, fun b o hb => ?_⟩
    · rw [upd_same, decide_eq_true hm, List.replicate_succ', List.map_append]
      rfl
    · rw [upd_ne (ne_of_none hb hD)]
      exact u2 _ _ hb
  · rintro H4 ⟨u1, u2⟩
    refine ⟨D, _, rfl, SqL.of u1, ?_⟩
    have e : (List.replicate z.cps.size true).all id = true := by
      rw [List.all_eq_true]
      intro x hx
      exact (List.mem_replicate.mp hx).2
    rw [e]
    exact k _ u2
theorem has_are (D : TD K mg "are_names" sAre pAre) (B : Bi mg) (hN : Has P w K mg base "is_name" 1 ["thing"] spIsN) : Has P w K mg base "are_names" 2 pAre (spAre K) := by
  refine D.has scAre (fun vs H Q E h => ?_) (fun f cdv A outer s H vs Q E hr h => ?_)
  · obtain ⟨a, t, xs, ts, rfl, _⟩ := h
    rfl
  obtain ⟨a, t, xs, ts, rfl, hA, hT, hnm, hnd, hl, k⟩ := h
  refine ⟨_, pss_cons (ps_set (i := 2) scAre.nd rfl (Or.inl rfl) (pe_callTy call_list_of (by rfl) B.list (by decide +kernel) (pa_cons (pv 1) pa_nil)))
    (pss_cons (ps_for PassesOwn.never rfl (pi_tup (pv 0)) (pg_name (i := 3) scAre.nd rfl (Or.inl rfl))
      (pss_cons (ps_if (PW.pt (pw_or (pt_not (pt_val (pcall hN hr (by decide) (pa_cons (pv 3) pa_nil)))) (pw_or1 (pt_cmpR op_in_seq (pv 3) (pv 2) (by rfl))))) (pss_one (ps_ret pe_bl)) pss_nil)
      (pss_one (ps_expr (pe_bm PySem.F.plainAttrs_list PySem.F.slot_list_append PySem.F.type_list_append mt_append (pv 2) (pa_cons (pv 3) pa_nil))))))
    (pss_one (ps_ret pe_bl))), ?_⟩
  refine ⟨_, rfl, t, _, rfl, .inl hT, fun sn hsn => ?_⟩
  have hA' : ∀ H', Same H H' → SqT K H' a (xs.map V.str) := fun H' s => by
    rcases hA with (h | ⟨o, h⟩) | h
    · exact .inl (.inl (s _ _ h))
    · exact .inl (.inr ⟨o, s _ _ h⟩)
    · exact .inr h
  refine ⟨_, rfl, a, rfl, ⟨_, hA' _ (same_new hsn)⟩, for_tup (K := K) (a := a) (xs := xs.map V.str) (fun i σ H' => ∃ v3 : Option V, σ = [some (.ref a), some (.ref t), some (.ref sn), v3] ∧ H' sn = some (.lst ((ts ++ xs.take i).map V.str)) ∧ Same H H')
    ⟨none, rfl, by rw [upd_same]; simp, same_new hsn⟩ (fun i σ H' _ ⟨_, _, _, q⟩ => hA' _ q) ?_ ?_⟩
  · rintro i x σ H4 hx ⟨v3, rfl, u1, u2⟩
    obtain ⟨z, hz, rfl⟩ := map_at hx
    have hnot : z ∉ ts ++ xs.take i := fun hm => by
      have e : ts ++ xs = (ts ++ xs.take i) ++ (z :: xs.drop (i + 1)) := by
        have hi : i < xs.length := (List.getElem?_eq_some_iff.mp hz).1
        have hzz : xs[i] = z := (List.getElem?_eq_some_iff.mp hz).2
        rw [List.append_assoc, ← hzz, ← List.drop_eq_getElem_cons hi, List.take_append_drop]
      rw [e] at hnd
      exact (List.nodup_append.mp hnd).2.2 z hm z List.mem_cons_self rfl
    refine ⟨_, rfl, z, rfl, hnm z (List.mem_of_getElem? hz), fun H5 s5 => ?_⟩
    refine ⟨true, rfl, ?_⟩
    have u5 := s5 _ _ u1
    refine ⟨_, rfl, _, rfl, sn, _, rfl, .inl (SqL.of u5), rfl, flat_strs _, false, ?_, ?_⟩
    · show V.bl (inV (.str z) ((ts ++ xs.take i).map V.str)) = V.bl false
      rw [inV_str, decide_eq_false hnot]
    · refine ⟨_, rfl, .inl ⟨rfl, _, SqL.of u5⟩, _, rfl, sn, _, _, rfl, rfl, u5, ?_, _, rfl, ?_, fun b o hb => ?_⟩
      · rw [List.length_map, List.length_append, List.length_take]
        exact small1000 (by omega)
      · rw [upd_same, take_snoc hz, ← List.append_assoc, List.map_append (l₂ := [z])]
        rfl
      · rw [upd_ne (ne_of_none hb hsn)]
        exact s5 _ _ (u2 _ _ hb)
  · rintro σ H4 ⟨v3, rfl, u1, u2⟩
    exact k _ u2
end
end K2
namespace K2
open PySem PySem.Spec PyProof.Rows L2
abbrev pPart : List Str := ["part"]
abbrev pWP : List Str := ["words", "part"]
abbrev sStN : Stmt := top 25
theorem scStN : FnScope ["part", "state"] pPart (defScope sStN) := ⟨rfl, rfl, rfl, by decide +kernel, rfl, by decide +kernel, by decide +kernel⟩
abbrev sSteer : Stmt := top 26
theorem scSteer : FnScope pPart pPart (defScope sSteer) := ⟨rfl, rfl, rfl, by decide +kernel, rfl, by decide +kernel, by decide +kernel⟩
abbrev sBody : Stmt := top 29
theorem scBody : FnScope ["part", "rows", "i", "item", "side", "j", "inner"] pPart (defScope sBody) := ⟨rfl, rfl, rfl, by decide +kernel, rfl, by decide +kernel, by decide +kernel⟩
abbrev sChild : Stmt := top 30
theorem scChild : FnScope ["part", "path", "item"] pPart (defScope sChild) := ⟨rfl, rfl, rfl, by decide +kernel, rfl, by decide +kernel, by decide +kernel⟩
/-- a new empty list of the bare part -/
def spNone : Sp := fun vs H Q _ => ∃ rt : Addr, vs = [.ref rt] ∧ RootAt H rt ∧ ∀ (l : Addr) (H' : Hp), H' l = some (.lst []) → Same H H' → Q (.ref l) H'
/-- True of the bare part -/
def spYes : Sp := fun vs H Q _ => ∃ (v : V) (rt : Addr), vs = [v, .ref rt] ∧ RootAt H rt ∧ ∀ H', Same H H' → Q (.bl true) H'
abbrev sRPar : Stmt := top 41
theorem scRPar : FnScope ["params"] ["params"] (defScope sRPar) := ⟨rfl, rfl, rfl, by decide +kernel, rfl, by decide +kernel, by decide +kernel⟩
def spRPar : Sp := fun vs H Q _ => ∃ e : Addr, vs = [.ref e] ∧ H e = some (.tup []) ∧ ∀ H', Same H H' → Q (.bl true) H'
abbrev sRSt : Stmt := top 42
theorem scRSt : FnScope ["words", "part", "taken", "state"] pWP (defScope sRSt) := ⟨rfl, rfl, rfl, by decide +kernel, rfl, by decide +kernel, by decide +kernel⟩
abbrev sRRe : Stmt := top 43
abbrev pCP : List Str := ["cells", "part"]
theorem scRRe : FnScope ["cells", "part", "taken", "unread", "read"] pCP (defScope sRRe) := ⟨rfl, rfl, rfl, by decide +kernel, rfl, by decide +kernel, by decide +kernel⟩
def spRRe : Sp := fun vs H Q _ => ∃ (cl rt : Addr), vs = [.ref cl, .ref rt] ∧ H cl = some (.lst []) ∧ RootAt H rt ∧ ∀ H', Same H H' → Q (.bl true) H'
abbrev sRAsk : Stmt := top 44
theorem scRAsk : FnScope ["part", "ask", "taken", "read"] pPart (defScope sRAsk) := ⟨rfl, rfl, rfl, by decide +kernel, rfl, by decide +kernel, by decide +kernel⟩
def spYes1 : Sp := fun vs H Q _ => ∃ rt : Addr, vs = [.ref rt] ∧ RootAt H rt ∧ ∀ H', Same H H' → Q (.bl true) H'
abbrev sRMem : Stmt := top 46
theorem scRMem : FnScope ["words", "part", "memo"] pWP (defScope sRMem) := ⟨rfl, rfl, rfl, by decide +kernel, rfl, by decide +kernel, by decide +kernel⟩
abbrev sREff : Stmt := top 47
theorem scREff : FnScope ["words", "part"] pWP (defScope sREff) := ⟨rfl, rfl, rfl, by decide +kernel, rfl, by decide +kernel, by decide +kernel⟩
abbrev sRGiv : Stmt := top 48
theorem scRGiv : FnScope ["words", "part", "give"] pWP (defScope sRGiv) := ⟨rfl, rfl, rfl, by decide +kernel, rfl, by decide +kernel, by decide +kernel⟩
abbrev sRPre : Stmt := top 49
theorem scRPre : FnScope ["words", "part", "taken", "press"] pWP (defScope sRPre) := ⟨rfl, rfl, rfl, by decide +kernel, rfl, by decide +kernel, by decide +kernel⟩
/-- a for, a comprehension over the empty tuple -/
theorem for_none {K : PySem.W.Frag} {a : Addr} {g : TG} {tb : TS} {D : Ends} {σ : L2.St} {H : Hp} (h : SqT K H a []) (hd : D.nx σ H) :
    ∃ W : Nat → Nat → L2.St → Hp → Prop, (∃ m, W 0 m σ H) ∧ ∀ i m σ H, W i m σ H →
      ((Itt K a).stop i H ∧ D.nx σ H) ∨ ((Itt K a).go i H ∧ ∃ N : L2.St → Hp → Prop, (∀ σ' H', N σ' H' → ∃ m', m' < m ∧ W (i + 1) m' σ' H') ∧ ∀ x H', (Itt K a).yld i H x H' → g x σ H' fun σ2 H2 => tb { D with nx := N, ct := N, bk := D.nx } σ2 H2) :=
  for_tup (K := K) (a := a) (xs := []) (fun _ σ' H' => σ' = σ ∧ H' = H) ⟨rfl, rfl⟩ (fun _ _ _ _ q => q.2 ▸ h) (fun i x _ _ hx _ => by simp at hx) fun _ _ q => by rw [q.1, q.2]; exact hd
theorem for_noneE {K : PySem.W.Frag} {a : Addr} {g : TG} {tb : TS} {D : Ends} {σ : L2.St} {H : Hp} (h : SqT K H a []) (hd : D.nx σ H) :
    ∃ W : Nat → Nat → L2.St → Hp → Prop, (∃ m, W 0 m σ H) ∧ ∀ i m σ H, W i m σ H →
      ((Ett K a).stop i H ∧ D.nx σ H) ∨ ((Ett K a).go i H ∧ ∃ N : L2.St → Hp → Prop, (∀ σ' H', N σ' H' → ∃ m', m' < m ∧ W (i + 1) m' σ' H') ∧ ∀ x H', (Ett K a).yld i H x H' → g x σ H' fun σ2 H2 => tb { D with nx := N, ct := N, bk := D.nx } σ2 H2) :=
  for_it (walk_enumT (xs := [])) (fun _ σ' H' => σ' = σ ∧ H' = H) ⟨rfl, rfl⟩ (fun _ _ _ _ q => q.2 ▸ h) (fun i x _ _ _ hx => absurd hx (Nat.not_lt_zero _)) fun _ _ q => by rw [q.1, q.2]; exact hd
theorem lc_none {K : PySem.W.Frag} {a : Addr} {g : TG} {tt : TT} {te : TE} {vs : List Nat} {σ : L2.St} {H1 : Hp} {D : Addr} {Qd : Hp → Prop} (h : SqT K (upd H1 D (.lst [])) a []) (hd : Qd (upd H1 D (.lst []))) :
    ∃ W : Nat → Nat → Hp → Prop, (∃ m, W 0 m (upd H1 D (.lst []))) ∧ ∀ i m H, W i m H →
      ((Itt K a).stop i H ∧ Qd H) ∨ ((Itt K a).go i H ∧ ∃ Nx : Hp → Prop, (∀ H', Nx H' → ∃ m', m' < m ∧ W (i + 1) m' H') ∧ ∀ x H', (Itt K a).yld i H x H' → g x (wipe σ vs) H' fun σ2 H2 => wipe σ2 vs = wipe σ vs ∧ tt σ2 H2 fun b H3 =>
        if b = true then te σ2 H3 fun y H4 => ∃ acc, H4 D = some (.lst acc) ∧ acc.length < sizeLine ∧ Nx (upd H4 D (.lst (acc ++ [y]))) else Nx H3) :=
  lc_tup (K := K) (a := a) (xs := []) (fun _ H' => H' = upd H1 D (.lst [])) rfl (fun _ _ _ q => q ▸ h) (fun i x _ hx _ => by simp at hx) fun _ q => by rw [q]; exact hd
theorem lc_noneL {K : PySem.W.Frag} {a : Addr} {g : TG} {tt : TT} {te : TE} {vs : List Nat} {σ : L2.St} {H1 : Hp} {D : Addr} {Qd : Hp → Prop} (h : SqL K (upd H1 D (.lst [])) a []) (hd : Qd (upd H1 D (.lst []))) :
    ∃ W : Nat → Nat → Hp → Prop, (∃ m, W 0 m (upd H1 D (.lst []))) ∧ ∀ i m H, W i m H →
      ((Itl K a).stop i H ∧ Qd H) ∨ ((Itl K a).go i H ∧ ∃ Nx : Hp → Prop, (∀ H', Nx H' → ∃ m', m' < m ∧ W (i + 1) m' H') ∧ ∀ x H', (Itl K a).yld i H x H' → g x (wipe σ vs) H' fun σ2 H2 => wipe σ2 vs = wipe σ vs ∧ tt σ2 H2 fun b H3 =>
        if b = true then te σ2 H3 fun y H4 => ∃ acc, H4 D = some (.lst acc) ∧ acc.length < sizeLine ∧ Nx (upd H4 D (.lst (acc ++ [y]))) else Nx H3) :=
  lc_list (K := K) (a := a) (xs := []) (fun _ H' => H' = upd H1 D (.lst [])) rfl (fun _ _ _ q => q ▸ h) (fun i x _ hx _ => by simp at hx) fun _ q => by rw [q]; exact hd
section
variable {P : Program} {w : World} {K : PySem.W.Frag} {mg : Str → Option Value} {base : Heap}
theorem has_stN (D : TD K mg "state_names" sStN pPart) (M : Co mg) : Has P w K mg base "state_names" 1 pPart spNone := by
  refine D.has scStN (fun vs H Q E h => ?_) (fun f cdv A outer s H vs Q E hr h => ?_)
  · obtain ⟨rt, rfl, _⟩ := h
    rfl
  obtain ⟨rt, rfl, R, k⟩ := h
  obtain ⟨e1, e2, e3, e4, e5, h0, h1, h2, h3, h4, h5⟩ := id R
  refine ⟨_, pss_one (ps_ret (pe_lc (own := [("state", 1)]) (g := gName 1) (by rfl) scStN.nd (pi_tup (pe_ix ix_tup (pv 0) (pk M.states) (fun _ _ => rfl)))
    (blkOk_by (own := [("state", 1)]) (N := ["part", "state"]) (sc := defScope sStN) (by decide +kernel)) (fun _ _ _ _ _ => pg_name (i := 1) scStN.nd rfl (Or.inl rfl)) (fun _ _ _ _ _ => pts_nil) (fun _ _ _ _ _ => pe_no))), ?_⟩
  refine ⟨_, rfl, rt, _, 2, _, rfl, rfl, SqT.of h0, rfl, e2, rfl, ⟨_, SqT.of h2⟩, fun D hD => ?_⟩
  exact lc_none (SqT.of (same_new hD _ _ h2)) (k D _ upd_same (same_new hD))
theorem has_steer (D : TD K mg "steering_names" sSteer pPart) (M : Co mg) (hS : Has P w K mg base "state_names" 1 pPart spNone) : Has P w K mg base "steering_names" 2 pPart spNone := by
  refine D.has scSteer (fun vs H Q E h => ?_) (fun f cdv A outer s H vs Q E hr h => ?_)
  · obtain ⟨rt, rfl, _⟩ := h
    rfl
  obtain ⟨rt, rfl, R, k⟩ := h
  obtain ⟨e1, e2, e3, e4, e5, h0, h1, h2, h3, h4, h5⟩ := id R
  refine ⟨_, pss_one (ps_ret (pe_lst (StX.pa_star (pe_ix ix_tup (pv 0) (pk M.params) (fun _ _ => rfl)) (StX.pa_star (pcall hS hr (by decide) (pa_cons (pv 0) pa_nil)) pa_nil)))), ?_⟩
  refine ⟨_, rfl, rt, _, 1, _, rfl, rfl, SqT.of h0, rfl, e1, [], rfl, .inl (SqT.of h1), ?_⟩
  refine ⟨_, rfl, rt, rfl, R, fun l H1 g1 s1 => ⟨l, [], rfl, .inr (SqL.of g1), Nat.zero_le _, fun p hp => ?_⟩⟩
  exact k p _ upd_same (s1.trans (same_new hp))
theorem has_body (D : TD K mg "body_items" sBody pPart) (B : Bi mg) (M : Co mg) : Has P w K mg base "body_items" 1 pPart spNone := by
  refine D.has scBody (fun vs H Q E h => ?_) (fun f cdv A outer s H vs Q E hr h => ?_)
  · obtain ⟨rt, rfl, _⟩ := h
    rfl
  obtain ⟨rt, rfl, R, k⟩ := h
  obtain ⟨e1, e2, e3, e4, e5, h0, h1, h2, h3, h4, h5⟩ := id R
  refine ⟨_, pss_cons (ps_set (i := 1) scBody.nd rfl (Or.inl rfl) (pe_lst pa_nil))
    (pss_cons (ps_for PassesOwn.never rfl (pi_enumT (by rfl) B.enum (pa_cons (pe_ix ix_tup (pv 0) (pk M.body) (fun _ _ => rfl)) pa_nil)) (pg_tup rfl (pgs_cons (pg_name (i := 2) scBody.nd rfl (Or.inl rfl)) (pgs_cons (pg_name (i := 3) scBody.nd rfl (Or.inl rfl)) pgs_nil)))
      (pss_cons ps_never (pss_one ps_never)))
    (pss_one (ps_ret (pv 1)))), ?_⟩
  refine ⟨Nat.zero_le _, fun l hl => ?_⟩
  have s1 : Same H (upd H l (.lst [])) := same_new hl
  refine ⟨_, rfl, rt, _, 9, _, rfl, rfl, SqT.of (s1 _ _ h0), rfl, e5, [], rfl, SqT.of (s1 _ _ h5), ?_⟩
  exact for_noneE (SqT.of (s1 _ _ h5)) ⟨_, rfl, k l _ upd_same s1⟩
theorem has_child (D : TD K mg "child_items" sChild pPart) (hB : Has P w K mg base "body_items" 1 pPart spNone) : Has P w K mg base "child_items" 2 pPart spNone := by
  refine D.has scChild (fun vs H Q E h => ?_) (fun f cdv A outer s H vs Q E hr h => ?_)
  · obtain ⟨rt, rfl, _⟩ := h
    rfl
  obtain ⟨rt, rfl, R, k⟩ := h
  refine ⟨_, pss_one (ps_ret (pe_lc (own := [("path", 1), ("item", 2)]) (by rfl) scChild.nd (pi_list (pcall hB hr (by decide) (pa_cons (pv 0) pa_nil)))
    (blkOk_by (own := [("path", 1), ("item", 2)]) (N := ["part", "path", "item"]) (sc := defScope sChild) (by decide +kernel))
    (fun _ _ _ _ _ => pg_tupK K (n := 2) (pgs_cons (pg_name (i := 1) scChild.nd rfl (Or.inl rfl)) (pgs_cons (pg_name (i := 2) scChild.nd rfl (Or.inl rfl)) pgs_nil))) (fun _ _ _ _ _ => pts_one pt_no) (fun _ _ _ _ _ => pe_no))), ?_⟩
  refine ⟨_, rfl, rt, rfl, R, fun l H1 g1 s1 => ?_⟩
  refine ⟨l, rfl, ⟨_, SqL.of g1⟩, fun D hD => ?_⟩
  exact lc_noneL (SqL.of (same_new hD _ _ g1)) (k D _ upd_same (s1.trans (same_new hD)))
end
end K2
namespace K2
open PySem PySem.Spec PyProof.Rows L2
section
variable {P : Program} {w : World} {K : PySem.W.Frag} {mg : Str → Option Value} {base : Heap}
theorem has_rpar (D : TD K mg "right_params" sRPar ["params"]) (hT : Has P w K mg base "is_tuple" 1 pIsT (spIsT K)) (hA : Has P w K mg base "are_names" 2 pAre (spAre K)) : Has P w K mg base "right_params" 3 ["params"] spRPar := by
  refine D.has scRPar (fun vs H Q E h => ?_) (fun f cdv A outer s H vs Q E hr h => ?_)
  · obtain ⟨e, rfl, _⟩ := h
    rfl
  obtain ⟨e, rfl, he, k⟩ := h
  refine ⟨_, pss_one (ps_ret (pe_and (pcall hT hr (by decide) (pa_cons (pv 0) (pa_cons pe_int pa_nil))) (pe_one (pcall hA hr (by decide) (pa_cons (pv 0) (pa_cons (pe_lst pa_nil) pa_nil)))))), ?_⟩
  refine ⟨_, rfl, e, 2, [], rfl, SqT.of he, by decide, true, rfl, ?_⟩
  refine ⟨_, rfl, Nat.zero_le _, fun p hp => ?_⟩
  exact ⟨e, p, [], [], rfl, SqT.of (same_new hp _ _ he), SqL.of upd_same, by simp, List.nodup_nil, by decide, fun H' s => k H' ((same_new hp).trans s)⟩
theorem has_rst (D : TD K mg "right_states" sRSt pWP) (B : Bi mg) (M : Co mg) (hT : Has P w K mg base "is_tuple" 1 pIsT (spIsT K)) : Has P w K mg base "right_states" 2 pWP spYes := by
  refine D.has scRSt (fun vs H Q E h => ?_) (fun f cdv A outer s H vs Q E hr h => ?_)
  · obtain ⟨v, rt, rfl, _⟩ := h
    rfl
  obtain ⟨v, rt, rfl, R, k⟩ := h
  obtain ⟨e1, e2, e3, e4, e5, h0, h1, h2, h3, h4, h5⟩ := id R
  refine ⟨_, pss_cons (ps_if (pt_not (pt_val (pcall hT hr (by decide) (pa_cons (pe_ix ix_tup (pv 1) (pk M.states) (fun _ _ => rfl)) (pa_cons pe_int pa_nil))))) (pss_one ps_never) pss_nil)
    (pss_cons (ps_set (i := 2) scRSt.nd rfl (Or.inl rfl) (pe_callTy call_list_of (by rfl) B.list (by decide +kernel) (pa_cons (pe_ix ix_tup (pv 1) (pk M.params) (fun _ _ => rfl)) pa_nil)))
    (pss_cons (ps_for PassesOwn.never rfl (pi_tup (pe_ix ix_tup (pv 1) (pk M.states) (fun _ _ => rfl))) (pg_name (i := 3) scRSt.nd rfl (Or.inl rfl)) (pss_cons ps_never (pss_cons ps_never (pss_one ps_never))))
    (pss_one (ps_ret pe_bl)))), ?_⟩
  refine ⟨_, rfl, rt, _, 2, _, rfl, rfl, SqT.of h0, rfl, e2, 2, [], rfl, SqT.of h2, by decide, true, rfl, ?_⟩
  refine ⟨_, rfl, rt, _, 1, _, rfl, rfl, SqT.of h0, rfl, e1, [], rfl, .inr (SqT.of h1), fun l hl => ?_⟩
  have s1 : Same H (upd H l (.lst [])) := same_new hl
  refine ⟨_, rfl, rt, _, 2, _, rfl, rfl, SqT.of (s1 _ _ h0), rfl, e2, rfl, ⟨_, SqT.of (s1 _ _ h2)⟩, ?_⟩
  exact for_none (SqT.of (s1 _ _ h2)) (k _ s1)
theorem has_rre (D : TD K mg "right_reads" sRRe pCP) (B : Bi mg) (M : Co mg) (hT : Has P w K mg base "is_tuple" 1 pIsT (spIsT K)) (hS : Has P w K mg base "steering_names" 2 pPart spNone) : Has P w K mg base "right_reads" 3 pCP spRRe := by
  refine D.has scRRe (fun vs H Q E h => ?_) (fun f cdv A outer s H vs Q E hr h => ?_)
  · obtain ⟨cl, rt, rfl, _⟩ := h
    rfl
  obtain ⟨cl, rt, rfl, hc, R, k⟩ := h
  obtain ⟨e1, e2, e3, e4, e5, h0, h1, h2, h3, h4, h5⟩ := id R
  refine ⟨_, pss_cons (ps_if (pt_not (pt_val (pcall hT hr (by decide) (pa_cons (pe_ix ix_tup (pv 1) (pk M.reads) (fun _ _ => rfl)) (pa_cons pe_int pa_nil))))) (pss_one ps_never) pss_nil)
    (pss_cons (ps_set (i := 2) scRRe.nd rfl (Or.inl rfl) (pcall hS hr (by decide) (pa_cons (pv 1) pa_nil)))
    (pss_cons (ps_set (i := 3) scRRe.nd rfl (Or.inl rfl) (pe_callTy call_list_of (by rfl) B.list (by decide +kernel) (pa_cons (pv 0) pa_nil)))
    (pss_cons (ps_for PassesOwn.never rfl (pi_tup (pe_ix ix_tup (pv 1) (pk M.reads) (fun _ _ => rfl))) (pg_name (i := 4) scRRe.nd rfl (Or.inl rfl)) (pss_cons ps_never (pss_cons ps_never (pss_cons ps_never (pss_cons ps_never (pss_one ps_never))))))
    (pss_one (ps_ret pe_bl))))), ?_⟩
  refine ⟨_, rfl, rt, _, 3, _, rfl, rfl, SqT.of h0, rfl, e3, 2, [], rfl, SqT.of h3, by decide, true, rfl, ?_⟩
  refine ⟨_, rfl, rt, rfl, R, fun l H1 g1 s1 => ?_⟩
  refine ⟨_, rfl, cl, [], rfl, .inl (SqL.of (s1 _ _ hc)), fun l2 hl2 => ?_⟩
  have s2 := s1.trans (same_new (o := .lst []) hl2)
  refine ⟨_, rfl, rt, _, 3, _, rfl, rfl, SqT.of (s2 _ _ h0), rfl, e3, rfl, ⟨_, SqT.of (s2 _ _ h3)⟩, ?_⟩
  exact for_none (SqT.of (s2 _ _ h3)) (k _ s2)
theorem has_rask (D : TD K mg "right_ask" sRAsk pPart) (M : Co mg) : Has P w K mg base "right_ask" 1 pPart spYes1 := by
  refine D.has scRAsk (fun vs H Q E h => ?_) (fun f cdv A outer s H vs Q E hr h => ?_)
  · obtain ⟨rt, rfl, _⟩ := h
    rfl
  obtain ⟨rt, rfl, R, k⟩ := h
  obtain ⟨e1, e2, e3, e4, e5, h0, h1, h2, h3, h4, h5⟩ := id R
  refine ⟨_, pss_cons (ps_set (i := 1) scRAsk.nd rfl (Or.inl rfl) (pe_ix ix_tup (pv 0) (pk M.ask) (fun _ _ => rfl)))
    (pss_cons (ps_if (pt_cmpR op_isN (pv 1) pe_non (nomark _)) (pss_one (ps_ret pe_bl)) pss_nil) (pss_cons ps_never (pss_one ps_never))), ?_⟩
  refine ⟨_, rfl, rt, _, 4, _, rfl, rfl, SqT.of h0, rfl, ?_⟩
  exact ⟨_, rfl, rfl, _, rfl, k _ (Same.refl _)⟩
theorem has_rmem (D : TD K mg "right_memo" sRMem pWP) (M : Co mg) : Has P w K mg base "right_memo" 1 pWP spYes := by
  refine D.has scRMem (fun vs H Q E h => ?_) (fun f cdv A outer s H vs Q E hr h => ?_)
  · obtain ⟨v, rt, rfl, _⟩ := h
    rfl
  obtain ⟨v, rt, rfl, R, k⟩ := h
  obtain ⟨e1, e2, e3, e4, e5, h0, h1, h2, h3, h4, h5⟩ := id R
  refine ⟨_, pss_cons (ps_set (i := 2) scRMem.nd rfl (Or.inl rfl) (pe_ix ix_tup (pv 1) (pk M.memo) (fun _ _ => rfl)))
    (pss_one (ps_ret (pe_or (pe_cmpR op_isN (pv 2) pe_non (nomark _)) pe_no))), ?_⟩
  refine ⟨_, rfl, rt, _, 5, _, rfl, rfl, SqT.of h0, rfl, ?_⟩
  exact ⟨_, rfl, rfl, true, rfl, k _ (Same.refl _)⟩
theorem has_reff (D : TD K mg "right_effect" sREff pWP) (M : Co mg) : Has P w K mg base "right_effect" 1 pWP spYes := by
  refine D.has scREff (fun vs H Q E h => ?_) (fun f cdv A outer s H vs Q E hr h => ?_)
  · obtain ⟨v, rt, rfl, _⟩ := h
    rfl
  obtain ⟨v, rt, rfl, R, k⟩ := h
  obtain ⟨e1, e2, e3, e4, e5, h0, h1, h2, h3, h4, h5⟩ := id R
  refine ⟨_, pss_one (ps_ret (pe_or (pe_cmpR op_isN (pe_ix ix_tup (pv 1) (pk M.effect) (fun _ _ => rfl)) pe_non (nomark _)) pe_no)), ?_⟩
  exact ⟨_, rfl, rt, _, 6, _, rfl, rfl, SqT.of h0, rfl, rfl, true, rfl, k _ (Same.refl _)⟩
theorem has_rgiv (D : TD K mg "right_give" sRGiv pWP) (M : Co mg) : Has P w K mg base "right_give" 1 pWP spYes := by
  refine D.has scRGiv (fun vs H Q E h => ?_) (fun f cdv A outer s H vs Q E hr h => ?_)
  · obtain ⟨v, rt, rfl, _⟩ := h
    rfl
  obtain ⟨v, rt, rfl, R, k⟩ := h
  obtain ⟨e1, e2, e3, e4, e5, h0, h1, h2, h3, h4, h5⟩ := id R
  refine ⟨_, pss_cons (ps_set (i := 2) scRGiv.nd rfl (Or.inl rfl) (pe_ix ix_tup (pv 1) (pk M.give) (fun _ _ => rfl)))
    (pss_cons (ps_if (pt_cmpR op_isN (pv 2) pe_non (nomark _)) (pss_one (ps_ret pe_bl)) pss_nil) (pss_one ps_never)), ?_⟩
  refine ⟨_, rfl, rt, _, 7, _, rfl, rfl, SqT.of h0, rfl, ?_⟩
  exact ⟨_, rfl, rfl, _, rfl, k _ (Same.refl _)⟩
theorem has_rpre (D : TD K mg "right_presses" sRPre pWP) (M : Co mg) (hT : Has P w K mg base "is_tuple" 1 pIsT (spIsT K)) : Has P w K mg base "right_presses" 2 pWP spYes := by
  refine D.has scRPre (fun vs H Q E h => ?_) (fun f cdv A outer s H vs Q E hr h => ?_)
  · obtain ⟨v, rt, rfl, _⟩ := h
    rfl
  obtain ⟨v, rt, rfl, R, k⟩ := h
  obtain ⟨e1, e2, e3, e4, e5, h0, h1, h2, h3, h4, h5⟩ := id R
  refine ⟨_, pss_cons (ps_if (pt_not (pt_val (pcall hT hr (by decide) (pa_cons (pe_ix ix_tup (pv 1) (pk M.presses) (fun _ _ => rfl)) (pa_cons pe_int pa_nil))))) (pss_one ps_never) pss_nil)
    (pss_cons (ps_set (i := 2) scRPre.nd rfl (Or.inl rfl) (pe_lst pa_nil))
    (pss_cons (ps_for PassesOwn.never rfl (pi_tup (pe_ix ix_tup (pv 1) (pk M.presses) (fun _ _ => rfl))) (pg_name (i := 3) scRPre.nd rfl (Or.inl rfl)) (pss_cons ps_never (pss_cons ps_never (pss_cons ps_never (pss_cons ps_never (pss_one ps_never))))))
    (pss_one (ps_ret pe_bl)))), ?_⟩
  refine ⟨_, rfl, rt, _, 8, _, rfl, rfl, SqT.of h0, rfl, e4, 2, [], rfl, SqT.of h4, by decide, true, rfl, ?_⟩
  refine ⟨Nat.zero_le _, fun l hl => ?_⟩
  have s1 : Same H (upd H l (.lst [])) := same_new hl
  refine ⟨_, rfl, rt, _, 8, _, rfl, rfl, SqT.of (s1 _ _ h0), rfl, e4, rfl, ⟨_, SqT.of (s1 _ _ h4)⟩, ?_⟩
  exact for_none (SqT.of (s1 _ _ h4)) (k _ s1)
end
end K2
namespace K2
open PySem PySem.Spec PyProof.Rows L2
abbrev sWCell : Stmt := top 37
abbrev pWC : List Str := ["words", "cells"]
theorem scWCell : FnScope ["words", "cells", "taken", "k", "cell"] pWC (defScope sWCell) := ⟨rfl, rfl, rfl, by decide +kernel, rfl, by decide +kernel, by decide +kernel⟩
def spWCell : Sp := fun vs H Q _ => ∃ (v : V) (c : Addr), vs = [v, .ref c] ∧ H c = some (.tup []) ∧ ∀ H', Same H H' → Q .non H'
abbrev sWPart : Stmt := top 38
theorem scWPart : FnScope ["parts", "taken", "k", "part"] ["parts"] (defScope sWPart) := ⟨rfl, rfl, rfl, by decide +kernel, rfl, by decide +kernel, by decide +kernel⟩
def spWPart : Sp := fun vs H Q _ => ∃ (ps rt : Addr), vs = [.ref ps] ∧ H ps = some (.tup [.ref rt]) ∧ RootAt H rt ∧ ∀ H', Same H H' → Q .non H'
abbrev sFirst : Stmt := top 40
abbrev pFirst : List Str := ["words", "cells", "later", "part", "is_root"]
theorem scFirst : FnScope ["words", "cells", "later", "part", "is_root", "item"] pFirst (defScope sFirst) := ⟨rfl, rfl, rfl, by decide +kernel, rfl, by decide +kernel, by decide +kernel⟩
def spFirst : Sp := fun vs H Q _ => ∃ (v v2 : V) (cl rt : Addr), vs = [v, .ref cl, v2, .ref rt, .bl true] ∧ H cl = some (.lst []) ∧ RootAt H rt ∧ ∀ H', Same H H' → Q (.int 0) H'
abbrev sWItem : Stmt := top 39
abbrev pWItem : List Str := ["words", "cells", "parts"]
theorem scWItem : FnScope ["words", "cells", "parts", "k", "part", "j"] pWItem (defScope sWItem) := ⟨rfl, rfl, rfl, by decide +kernel, rfl, by decide +kernel, by decide +kernel⟩
def spWItem : Sp := fun vs H Q _ => ∃ (v : V) (cl ps rt : Addr), vs = [v, .ref cl, .ref ps] ∧ H cl = some (.lst []) ∧ H ps = some (.tup [.ref rt]) ∧ RootAt H rt ∧ ∀ H', Same H H' → Q .non H'
theorem nm_top : IsNm (Str.ofString "top") := isNm_of (by decide +kernel)
/-- a for over the pairs (0, x) of a tuple of one item -/
theorem for_oneE {K : PySem.W.Frag} {a : Addr} {y : V} {g : TG} {tb : TS} {D : Ends} {σ : L2.St} {H : Hp} (ha : H a = some (.tup [y]))
    (hs : ∀ (T : Addr), H T = none → g (.ref T) σ (upd H T (.tup [.int 0, y])) fun σ2 H2 => tb { D with nx := fun σ' H' => D.nx σ' H' ∧ H' a = some (.tup [y]), ct := fun σ' H' => D.nx σ' H' ∧ H' a = some (.tup [y]), bk := D.nx } σ2 H2) :
    ∃ W : Nat → Nat → L2.St → Hp → Prop, (∃ m, W 0 m σ H) ∧ ∀ i m σ H, W i m σ H →
      ((Ett K a).stop i H ∧ D.nx σ H) ∨ ((Ett K a).go i H ∧ ∃ N : L2.St → Hp → Prop, (∀ σ' H', N σ' H' → ∃ m', m' < m ∧ W (i + 1) m' σ' H') ∧ ∀ x H', (Ett K a).yld i H x H' → g x σ H' fun σ2 H2 => tb { D with nx := N, ct := N, bk := D.nx } σ2 H2) := by
  refine ⟨fun i m σ' H' => (i = 0 ∧ m = 1 ∧ σ' = σ ∧ H' = H) ∨ (i = 1 ∧ m = 0 ∧ D.nx σ' H' ∧ H' a = some (.tup [y])), ⟨1, .inl ⟨rfl, rfl, rfl, rfl⟩⟩, ?_⟩
  rintro i m σ' H' (⟨rfl, rfl, rfl, rfl⟩ | ⟨rfl, rfl, hn, s⟩)
  · refine .inr ⟨⟨[y], y, SqT.of ha, rfl⟩, fun σ2 H2 => D.nx σ2 H2 ∧ H2 a = some (.tup [y]), fun σ2 H2 q => ⟨0, by decide, .inr ⟨rfl, rfl, q.1, q.2⟩⟩, ?_⟩
    rintro x H2 ⟨T, z, rfl, hT, rfl, hz⟩
    have ez : y = z := Option.some.inj (hz _ (SqT.of ha))
    subst ez
    exact hs T hT
  · exact .inl ⟨⟨[y], SqT.of s, rfl⟩, hn⟩
section
variable {P : Program} {w : World} {K : PySem.W.Frag} {mg : Str → Option Value} {base : Heap}
theorem has_wcell (D : TD K mg "wrong_cell" sWCell pWC) (B : Bi mg) (hT : Has P w K mg base "is_tuple" 1 pIsT (spIsT K)) : Has P w K mg base "wrong_cell" 2 pWC spWCell := by
  refine D.has scWCell (fun vs H Q E h => ?_) (fun f cdv A outer s H vs Q E hr h => ?_)
  · obtain ⟨v, c, rfl, _⟩ := h
    rfl
  obtain ⟨v, c, rfl, hc, k⟩ := h
  refine ⟨_, pss_cons (ps_if (pt_not (pt_val (pcall hT hr (by decide) (pa_cons (pv 1) (pa_cons pe_int pa_nil))))) (pss_one ps_never) pss_nil)
    (pss_cons (ps_set (i := 2) scWCell.nd rfl (Or.inl rfl) (pe_lst pa_nil))
    (pss_cons (ps_for PassesOwn.never rfl (pi_enumT (by rfl) B.enum (pa_cons (pv 1) pa_nil)) (pg_tup rfl (pgs_cons (pg_name (i := 3) scWCell.nd rfl (Or.inl rfl)) (pgs_cons (pg_name (i := 4) scWCell.nd rfl (Or.inl rfl)) pgs_nil)))
      (pss_cons ps_never (pss_one ps_never)))
    (pss_one (ps_ret pe_non)))), ?_⟩
  refine ⟨_, rfl, c, 2, [], rfl, SqT.of hc, by decide, true, rfl, ?_⟩
  refine ⟨Nat.zero_le _, fun l hl => ?_⟩
  have s1 : Same H (upd H l (.lst [])) := same_new hl
  refine ⟨_, rfl, c, [], rfl, SqT.of (s1 _ _ hc), ?_⟩
  exact for_noneE (SqT.of (s1 _ _ hc)) (k _ s1)
theorem has_wpart (D : TD K mg "wrong_part" sWPart ["parts"]) (B : Bi mg) (M : Co mg) (hT : Has P w K mg base "is_tuple" 1 pIsT (spIsT K)) (hA : Has P w K mg base "are_names" 2 pAre (spAre K)) : Has P w K mg base "wrong_part" 3 ["parts"] spWPart := by
  refine D.has scWPart (fun vs H Q E h => ?_) (fun f cdv A outer s H vs Q E hr h => ?_)
  · obtain ⟨ps, rt, rfl, _⟩ := h
    rfl
  obtain ⟨ps, rt, rfl, hp, R, k⟩ := h
  refine ⟨_, pss_cons (ps_if (PW.pt (pw_or (pt_not (pt_val (pcall hT hr (by decide) (pa_cons (pv 0) (pa_cons pe_int pa_nil))))) (pw_or1 (pt_not (pt_truth (pv 0) (by intro _; rfl)))))) (pss_one ps_never) pss_nil)
    (pss_cons (ps_set (i := 1) scWPart.nd rfl (Or.inl rfl) (pe_lst pa_nil))
    (pss_cons (ps_for PassesOwn.never rfl (pi_enumT (by rfl) B.enum (pa_cons (pv 0) pa_nil)) (pg_tup rfl (pgs_cons (pg_name (i := 2) scWPart.nd rfl (Or.inl rfl)) (pgs_cons (pg_name (i := 3) scWPart.nd rfl (Or.inl rfl)) pgs_nil)))
      (pss_cons (ps_if (PW.pt (pw_or (pt_not (pt_val (pe_callB call_isTup (by rfl) B.isi PyProof.Rows.boot_isinstance (pa_cons (pv 3) (pa_cons (pe_bltn (by rfl) B.tuple (by decide +kernel) (v := .ty "tuple") rfl) pa_nil)))))
          (pw_or (pt_cmpR op_ne (pe_callB call_len_seq (by rfl) B.len PySem.boot_len (pa_cons (pv 3) pa_nil)) pe_int (nomark _))
          (pw_or1 (pt_not (pt_val (pcall hA hr (by decide) (pa_cons (pe_slice sl_tup (pv 3) po_none (po_some pe_int)) (pa_cons (pv 1) pa_nil))))))))) (pss_one ps_never) pss_nil)
      (pss_one (ps_expr (pe_bm PySem.F.plainAttrs_list PySem.F.slot_list_append PySem.F.type_list_append mt_append (pv 1) (pa_cons (pe_ix ix_tup (pv 3) (pk M.name) (fun _ _ => rfl)) pa_nil))))))
    (pss_one (ps_ret pe_non)))), ?_⟩
  refine ⟨_, rfl, ps, 4, _, rfl, SqT.of hp, (show ((1 : Nat) : Int) ≤ 4 by decide), true, rfl, ?_⟩
  refine ⟨_, rfl, true, .inr (.inl ⟨_, SqT.of hp, rfl⟩), ?_⟩
  refine ⟨Nat.zero_le _, fun l hl => ?_⟩
  have s1 : Same H (upd H l (.lst [])) := same_new hl
  refine ⟨_, rfl, ps, _, rfl, SqT.of (s1 _ _ hp), ?_⟩
  refine for_oneE (s1 _ _ hp) fun T hT2 => ?_
  have s2 := s1.trans (same_new (o := .tup [.int 0, .ref rt]) hT2)
  obtain ⟨e1, e2, e3, e4, e5, h0, h1, h2, h3, h4, h5⟩ := R.same s2
  refine ⟨T, _, rfl, SqT.of upd_same, rfl, _, _, rfl, _, _, rfl, rfl, ?_⟩
  refine ⟨_, rfl, rt, _, rfl, SqT.of h0, true, rfl, ?_⟩
  refine ⟨_, rfl, rt, _, rfl, .inr (SqT.of h0), rfl, false, rfl, ?_⟩
  refine ⟨_, rfl, 1, rfl, rt, _, rfl, SqT.of h0, (show ¬ (HT.sIx 10 0 none = 0 ∧ HT.sIx 10 10 (some 1) = 10) by decide), fun q hq => ?_⟩
  have ec : cutV [V.str "top", V.ref e1, V.ref e2, V.ref e3, V.non, V.non, V.non, V.non, V.ref e4, V.ref e5] none (some 1) = [(Str.ofString "top")].map V.str := rfl
  rw [ec]
  have s3 := s2.trans (same_new (o := .tup ([(Str.ofString "top")].map V.str)) hq)
  have s13 : Same (upd H l (.lst [])) (upd (upd (upd H l (.lst [])) T (.tup [.int 0, .ref rt])) q (.tup ([(Str.ofString "top")].map V.str))) := (same_new hT2).trans (same_new hq)
  have hl3 := s13 _ _ (upd_same (H := H) (a := l) (o := .lst []))
  refine ⟨_, rfl, q, l, [Str.ofString "top"], [], rfl, SqT.of upd_same, SqL.of hl3, fun x hx => by rw [List.mem_singleton.mp hx]; exact nm_top, by simp, by decide, fun H' s4 => ?_⟩
  refine ⟨true, rfl, ?_⟩
  have s14 := s13.trans s4
  obtain ⟨f1, f2, f3, f4, f5, g0, g1, g2, g3, g4, g5⟩ := R.same (s1.trans s14)
  refine ⟨_, rfl, .inl ⟨rfl, _, SqL.of (s4 _ _ hl3)⟩, _, rfl, rt, _, 0, _, rfl, rfl, SqT.of g0, rfl, l, _, _, rfl, rfl, s4 _ _ hl3, (by decide), ?_⟩
  have hpl : ps ≠ l := ne_of_none hp hl
  refine ⟨k _ fun b o hb => ?_, ?_⟩
  · rw [upd_ne (ne_of_none hb hl)]
    exact (s1.trans s14) _ _ hb
  · rw [upd_ne hpl]
    exact (s1.trans s14) _ _ hp
theorem has_first (D : TD K mg "first_wrong" sFirst pFirst) (B : Bi mg) (M : Co mg) (hT : Has P w K mg base "is_tuple" 1 pIsT (spIsT K)) (h1 : Has P w K mg base "right_params" 3 ["params"] spRPar) (h2 : Has P w K mg base "right_states" 2 pWP spYes)
    (h3 : Has P w K mg base "right_reads" 3 pCP spRRe) (h4 : Has P w K mg base "right_ask" 1 pPart spYes1) (h5 : Has P w K mg base "right_memo" 1 pWP spYes) (h6 : Has P w K mg base "right_effect" 1 pWP spYes) (h7 : Has P w K mg base "right_give" 1 pWP spYes)
    (h8 : Has P w K mg base "right_presses" 2 pWP spYes) : Has P w K mg base "first_wrong" 4 pFirst spFirst := by
  refine D.has scFirst (fun vs H Q E h => ?_) (fun f cdv A outer s H vs Q E hr h => ?_)
  · obtain ⟨v, v2, cl, rt, rfl, _⟩ := h
    rfl
  obtain ⟨v, v2, cl, rt, rfl, hc, R, k⟩ := h
  refine ⟨_, pss_cons (ps_if (PW.pt (pw_or (pt_not (pt_val (pcall h1 hr (by decide) (pa_cons (pe_ix ix_tup (pv 3) (pk M.params) (fun _ _ => rfl)) pa_nil)))) (pw_or1 (PW.pt (pw_and (pt_val (pv 4)) (pw_and1 (pt_truth (pe_ix ix_tup (pv 3) (pk M.params) (fun _ _ => rfl)) (by intro _; rfl)))))))) (pss_one ps_never) pss_nil)
    (pss_cons (ps_if (pt_not (pt_val (pcall h2 hr (by decide) (pa_cons (pv 0) (pa_cons (pv 3) pa_nil))))) (pss_one ps_never) pss_nil)
    (pss_cons (ps_if (pt_not (pt_val (pcall h3 hr (by decide) (pa_cons (pv 1) (pa_cons (pv 3) pa_nil))))) (pss_one ps_never) pss_nil)
    (pss_cons (ps_if (pt_not (pt_val (pcall h4 hr (by decide) (pa_cons (pv 3) pa_nil)))) (pss_one ps_never) pss_nil)
    (pss_cons (ps_if (pt_not (pt_val (pcall h5 hr (by decide) (pa_cons (pv 0) (pa_cons (pv 3) pa_nil))))) (pss_one ps_never) pss_nil)
    (pss_cons (ps_if (pt_not (pt_val (pcall h6 hr (by decide) (pa_cons (pv 0) (pa_cons (pv 3) pa_nil))))) (pss_one ps_never) pss_nil)
    (pss_cons (ps_if (pt_not (pt_val (pcall h7 hr (by decide) (pa_cons (pv 0) (pa_cons (pv 3) pa_nil))))) (pss_one ps_never) pss_nil)
    (pss_cons (ps_if (pt_not (pt_val (pcall h8 hr (by decide) (pa_cons (pv 0) (pa_cons (pv 3) pa_nil))))) (pss_one ps_never) pss_nil)
    (pss_cons (ps_if (pt_not (pt_val (pcall hT hr (by decide) (pa_cons (pe_ix ix_tup (pv 3) (pk M.body) (fun _ _ => rfl)) (pa_cons pe_int pa_nil))))) (pss_one ps_never) pss_nil)
    (pss_cons (ps_if (pt_not (pt_val (pe_callB (cr_all rfl) (by rfl) B.all PyProof.Rows.boot_all (pa_cons (pe_lc (own := [("item", 5)]) (g := gName 5) (by rfl) scFirst.nd (pi_tup (pe_ix ix_tup (pv 3) (pk M.body) (fun _ _ => rfl)))
      (blkOk_by (own := [("item", 5)]) (N := ["words", "cells", "later", "part", "is_root", "item"]) (sc := defScope sFirst) (by decide +kernel)) (fun _ _ _ _ _ => pg_name (i := 5) scFirst.nd rfl (Or.inl rfl)) (fun _ _ _ _ _ => pts_nil) (fun _ _ _ _ _ => pe_no)) pa_nil)))) (pss_one ps_never) pss_nil)
    (pss_one (ps_ret pe_int)))))))))))  , ?_⟩
  obtain ⟨e1, e2, e3, e4, e5, g0, g1, g2, g3, g4, g5⟩ := id R
  refine ⟨_, rfl, rt, _, 1, _, rfl, rfl, SqT.of g0, rfl, e1, rfl, g1, fun H1 s1 => ⟨true, rfl, ?_⟩⟩
  refine ⟨_, rfl, true, rfl, ?_⟩
  refine ⟨_, rfl, rt, _, 1, _, rfl, rfl, SqT.of (s1 _ _ g0), rfl, false, .inr (.inl ⟨[], SqT.of (s1 _ _ g1), rfl⟩), ?_⟩
  refine ⟨_, rfl, _, rfl, v, rt, rfl, R.same s1, fun H2 s2 => ⟨true, rfl, ?_⟩⟩
  have t2 := s1.trans s2
  refine ⟨_, rfl, _, rfl, cl, rt, rfl, t2 _ _ hc, R.same t2, fun H3 s3 => ⟨true, rfl, ?_⟩⟩
  have t3 := t2.trans s3
  refine ⟨_, rfl, rt, rfl, R.same t3, fun H4 s4 => ⟨true, rfl, ?_⟩⟩
  have t4 := t3.trans s4
  refine ⟨_, rfl, _, rfl, v, rt, rfl, R.same t4, fun H5 s5 => ⟨true, rfl, ?_⟩⟩
  have t5 := t4.trans s5
  refine ⟨_, rfl, _, rfl, v, rt, rfl, R.same t5, fun H6 s6 => ⟨true, rfl, ?_⟩⟩
  have t6 := t5.trans s6
  refine ⟨_, rfl, _, rfl, v, rt, rfl, R.same t6, fun H7 s7 => ⟨true, rfl, ?_⟩⟩
  have t7 := t6.trans s7
  refine ⟨_, rfl, _, rfl, v, rt, rfl, R.same t7, fun H8 s8 => ⟨true, rfl, ?_⟩⟩
  have t8 := t7.trans s8
  refine ⟨_, rfl, rt, _, 9, _, rfl, rfl, SqT.of (t8 _ _ g0), rfl, e5, 3, [], rfl, SqT.of (t8 _ _ g5), by decide, true, rfl, ?_⟩
  refine ⟨_, rfl, rt, _, 9, _, rfl, rfl, SqT.of (t8 _ _ g0), rfl, e5, rfl, ⟨_, SqT.of (t8 _ _ g5)⟩, fun D hD => ?_⟩
  refine lc_none (SqT.of (same_new hD _ _ (t8 _ _ g5))) ?_
  refine ⟨D, [], rfl, SqL.of upd_same, true, rfl, ?_⟩
  exact k _ (t8.trans (same_new hD))
theorem has_witem (D : TD K mg "wrong_item" sWItem pWItem) (B : Bi mg) (hF : Has P w K mg base "first_wrong" 4 pFirst spFirst) : Has P w K mg base "wrong_item" 5 pWItem spWItem := by
  refine D.has scWItem (fun vs H Q E h => ?_) (fun f cdv A outer s H vs Q E hr h => ?_)
  · obtain ⟨v, cl, ps, rt, rfl, _⟩ := h
    rfl
  obtain ⟨v, cl, ps, rt, rfl, hc, hp, R, k⟩ := h
  refine ⟨_, pss_cons (ps_for PassesOwn.never rfl (pi_enumT (by rfl) B.enum (pa_cons (pv 2) pa_nil)) (pg_tup rfl (pgs_cons (pg_name (i := 3) scWItem.nd rfl (Or.inl rfl)) (pgs_cons (pg_name (i := 4) scWItem.nd rfl (Or.inl rfl)) pgs_nil)))
      (pss_cons (ps_set (i := 5) scWItem.nd rfl (Or.inl rfl) (pcall hF hr (by decide) (pa_cons (pv 0) (pa_cons (pv 1) (pa_cons (pe_slice sl_tup (pv 2) (po_some (pe_op op_add (pv 3) pe_int)) po_none) (pa_cons (pv 4) (pa_cons (pe_cmpR op_eq (pv 3) pe_int (nomark _)) pa_nil)))))))
      (pss_one (ps_if (pt_cmpR op_gt (pv 5) pe_int (nomark _)) (pss_one ps_never) pss_nil))))
    (pss_one (ps_ret pe_non)), ?_⟩
  refine ⟨_, rfl, ps, _, rfl, SqT.of hp, ?_⟩
  refine for_oneE hp fun T hT2 => ?_
  have s1 : Same H (upd H T (.tup [.int 0, .ref rt])) := same_new hT2
  refine ⟨T, _, rfl, SqT.of upd_same, rfl, _, _, rfl, _, _, rfl, rfl, ?_⟩
  refine ⟨_, rfl, _, rfl, _, rfl, _, rfl, _, _, rfl, rfl, _, rfl, ps, _, rfl, SqT.of (s1 _ _ hp), (show ¬ (HT.sIx 1 0 (some 1) = 0 ∧ HT.sIx 1 1 none = 1) by decide), fun q hq => ?_⟩
  have s2 : ∀ xs, Same H (upd (upd H T (.tup [.int 0, .ref rt])) q (.tup xs)) := fun xs => s1.trans (same_new hq)
  refine ⟨_, rfl, _, rfl, rfl, v, _, cl, rt, rfl, s2 _ _ _ hc, R.same (s2 _), fun H3 s3 => ?_⟩
  refine ⟨_, rfl, _, _, rfl, rfl, false, rfl, ?_⟩
  exact ⟨k _ ((s2 _).trans s3), s3 _ _ (s2 _ _ _ hp)⟩
end
end K2
namespace K2
open PySem PySem.Spec PyProof.Rows L2
abbrev sFits : Stmt := top 54
abbrev nFits : List Str := ["parts", "places", "states", "part", "inner", "root", "path", "item", "name"]
theorem scFits : FnScope nFits ["parts"] (defScope sFits) := ⟨rfl, rfl, rfl, by decide +kernel, rfl, by decide +kernel, by decide +kernel⟩
def spFits : Sp := fun vs H Q _ => ∃ (ps rt : Addr), vs = [.ref ps] ∧ H ps = some (.tup [.ref rt]) ∧ RootAt H rt ∧ ∀ H', Same H H' → Q (.bl true) H'
abbrev sWPath : Stmt := top 36
abbrev nWPath : List Str := ["words", "cells", "parts", "path", "cell"]
theorem scWPath : FnScope nWPath pWItem (defScope sWPath) := ⟨rfl, rfl, rfl, by decide +kernel, rfl, by decide +kernel, by decide +kernel⟩
/-- words for an app -/
structure Wds (ws : List Str) : Prop where
  w2 : 2 ≤ ws.length
  w3 : ws.length ≤ 3
  nd : ws.Nodup
  nm : ∀ x ∈ ws, IsNm x
def spWPath : Sp := fun vs H Q _ => ∃ (wt c ps rt : Addr) (ws : List Str), vs = [.ref wt, .ref c, .ref ps] ∧ WT H wt (ws.map V.str) ∧ Wds ws ∧ H c = some (.tup []) ∧ H ps = some (.tup [.ref rt]) ∧ RootAt H rt ∧ ∀ H', Same H H' → Q .non H'
section
variable {P : Program} {w : World} {K : PySem.W.Frag} {mg : Str → Option Value} {base : Heap}
theorem has_fits (D : TD K mg "fits" sFits ["parts"]) (B : Bi mg) (M : Co mg) (hC : Has P w K mg base "child_items" 2 pPart spNone) : Has P w K mg base "fits" 3 ["parts"] spFits := by
  refine D.has scFits (fun vs H Q E h => ?_) (fun f cdv A outer s H vs Q E hr h => ?_)
  · obtain ⟨ps, rt, rfl, _⟩ := h
    rfl
  obtain ⟨ps, rt, rfl, hp, R, k⟩ := h
  have hu := hu_of hr
  refine ⟨_, pss_cons (ps_set (i := 1) scFits.nd rfl (Or.inr rfl) pe_dnewK)
    (pss_cons (ps_set (i := 2) scFits.nd rfl (Or.inr rfl) pe_dnewK)
    (pss_cons (ps_for PassesOwn.never rfl (pi_tup (pe_back1 (pv 0))) (pg_name (i := 3) scFits.nd rfl (Or.inl rfl))
      (pss_cons (ps_setLc (i := 4) (own := [("path", 6), ("item", 7)]) (by rfl) scFits.nd rfl rfl (sw_true rfl rfl rfl (by decide +kernel)) (pi_list (pcall hC hr (by decide) (pa_cons (pv 3) pa_nil)))
        (blkOk_by (own := [("path", 6), ("item", 7)]) (N := nFits) (sc := defScope sFits) (by decide +kernel)) (fun _ _ _ _ _ => pg_tupK K (n := 2) (pgs_cons (pg_name (i := 6) scFits.nd rfl (Or.inl rfl)) (pgs_cons (pg_name (i := 7) scFits.nd rfl (Or.inl rfl)) pgs_nil))) (fun _ _ _ _ _ => pts_nil) (fun _ _ _ _ _ => pe_no))
      (pss_cons (ps_dput hu (pv 1) (pe_ix ix_tup (pv 3) (pk M.name) (fun _ _ => rfl)) (pe_op op_add pe_int (pe_callB (cr_sum rfl) (by rfl) B.sum PyProof.Rows.boot_sum (pa_cons (pe_lc (own := [("name", 8)]) (g := gName 8) (by rfl) scFits.nd (pi_list (pv 4))
        (blkOk_by (own := [("name", 8)]) (N := nFits) (sc := defScope sFits) (by decide +kernel)) (fun _ _ _ _ _ => pg_name (i := 8) scFits.nd rfl (Or.inl rfl)) (fun _ _ _ _ _ => pts_nil) (fun _ _ _ _ _ => pe_no)) pa_nil))) rfl)
      (pss_one (ps_dput hu (pv 2) (pe_ix ix_tup (pv 3) (pk M.name) (fun _ _ => rfl)) (pe_op op_add (pe_callB call_len_seq (by rfl) B.len PySem.boot_len (pa_cons (pe_ix ix_tup (pv 3) (pk M.states) (fun _ _ => rfl)) pa_nil)) (pe_callB (cr_sum rfl) (by rfl) B.sum PyProof.Rows.boot_sum (pa_cons (pe_lc (own := [("name", 8)]) (g := gName 8) (by rfl) scFits.nd (pi_list (pv 4))
        (blkOk_by (own := [("name", 8)]) (N := nFits) (sc := defScope sFits) (by decide +kernel)) (fun _ _ _ _ _ => pg_name (i := 8) scFits.nd rfl (Or.inl rfl)) (fun _ _ _ _ _ => pts_nil) (fun _ _ _ _ _ => pe_no)) pa_nil))) rfl)))))
    (pss_cons (ps_set (i := 5) scFits.nd rfl (Or.inl rfl) (pe_ix ix_tup (pe_ix ix_tup (pv 0) pe_int (fun _ _ => rfl)) (pk M.name) (fun _ _ => rfl)))
    (pss_one (ps_ret (pe_and (pe_cmpR op_le (pe_dget hu (pv 1) (pv 5) (fun _ _ => rfl)) (pk M.places) (nomark _)) (pe_one (pe_cmpR op_le (pe_dget hu (pv 2) (pv 5) (fun _ _ => rfl)) (pk M.mstates) (nomark _))))))))), ?_⟩
  intro pl hpl
  have s1 : Same H (upd H pl (.dK [])) := same_new hpl
  intro sl hsl
  have s2 := s1.trans (same_new (o := .dK []) hsl)
  have nps : pl ≠ sl := ne_of_none upd_same hsl
  refine ⟨_, rfl, ps, .ref rt, rfl, SqT.of (s2 _ _ hp), fun q hq => ?_⟩
  have s3 := s2.trans (same_new (o := .tup [.ref rt]) hq)
  have hsl0 : H sl = none := s1.free hsl
  have npq : pl ≠ q := ne_of_none (same_new (o := .dK []) hsl _ _ upd_same) hq
  have nsq : sl ≠ q := ne_of_none upd_same hq
  refine ⟨q, rfl, ⟨_, SqT.of upd_same⟩, for_tup (K := K) (a := q) (xs := [.ref rt]) (fun i σ H' => ∃ v3 v4 : Option V, σ = [some (.ref ps), some (.ref pl), some (.ref sl), v3, v4, none, none, none, none] ∧
      (i = 0 → H' pl = some (.dK []) ∧ H' sl = some (.dK [])) ∧ (0 < i → H' pl = some (.dK [(Sum.inr "top", .int 1)]) ∧ H' sl = some (.dK [(Sum.inr "top", .int 0)])) ∧ Same H H' ∧ H' q = some (.tup [.ref rt]))
    ⟨none, none, rfl, fun _ => ⟨by rw [upd_ne npq, upd_ne nps, upd_same], by rw [upd_ne nsq, upd_same]⟩, fun h => absurd h (Nat.lt_irrefl _), s3, upd_same⟩ (fun i σ H' _ ⟨_, _, _, _, _, _, e⟩ => SqT.of e) ?_ ?_⟩
  · rintro i x σ H3 hx ⟨v3, v4, rfl, z1, _, z3, z4⟩
    have hi : i < 1 := (List.getElem?_eq_some_iff.mp hx).1
    obtain rfl : i = 0 := by omega
    obtain rfl : V.ref rt = x := Option.some.inj hx
    obtain ⟨y1, y2⟩ := z1 rfl
    -- inner
    refine ⟨_, rfl, rt, rfl, R.same z3, fun l H4 g1 t1 => ⟨l, rfl, ⟨_, SqL.of g1⟩, fun D1 hD1 => ?_⟩⟩
    refine lc_noneL (SqL.of (same_new hD1 _ _ g1)) ?_
    have t2 : Same H3 (upd H4 D1 (.lst [])) := t1.trans (same_new hD1)
    have t02 := z3.trans t2
    -- places[..] = 1 + sum([])
    refine ⟨_, rfl, D1, rfl, ⟨_, SqL.of upd_same⟩, fun D2 hD2 => ?_⟩
    refine lc_noneL (SqL.of (same_new hD2 _ _ upd_same)) ?_
    have t3 := t2.trans (same_new (o := .lst []) hD2)
    have t03 := z3.trans t3
    obtain ⟨e1, e2, e3, e4, e5, h0, h1, h2, h3, h4, h5⟩ := R.same t03
    refine ⟨D2, [], rfl, SqL.of upd_same, _, _, rfl, rfl, _, rfl, _, rfl, rt, _, 0, _, rfl, rfl, SqT.of h0, rfl, pl, _, rfl, DPut.k (k := Sum.inr (Str.ofString "top")) (t3 _ _ y1) (by decide), ?_⟩
    have hq3 := t3 _ _ z4
    have hs3 := t3 _ _ y2
    have k3 : Same H (upd (upd (upd H4 D1 (.lst [])) D2 (.lst [])) pl (.dK [(Sum.inr "top", .int 1)])) := fun b o hb => by
      rw [upd_ne (ne_of_none hb hpl)]
      exact t03 _ _ hb
    have hd1 : (upd (upd (upd H4 D1 (.lst [])) D2 (.lst [])) pl (.dK [(Sum.inr "top", .int 1)])) D1 = some (.lst []) := by
      have : D1 ≠ pl := fun z => by
        have := t1 _ _ y1
        rw [← z, hD1] at this
        cases this
      rw [upd_ne this]
      exact same_new hD2 _ _ upd_same
    obtain ⟨e1, e2, e3, e4, e5, h0, h1, h2, h3, h4, h5⟩ := R.same k3
    -- states[..] = len(()) + sum([])
    refine ⟨_, rfl, rt, _, 2, _, rfl, rfl, SqT.of h0, rfl, e2, [], rfl, .inr (SqT.of h2), _, rfl, D1, rfl, ⟨_, SqL.of hd1⟩, fun D3 hD3 => ?_⟩
    refine lc_noneL (SqL.of (same_new hD3 _ _ hd1)) ?_
    have t4 := same_new (o := .lst []) hD3
    have k4 := k3.trans t4
    obtain ⟨e1, e2, e3, e4, e5, h0, h1, h2, h3, h4, h5⟩ := R.same k4
    have hs4 : (upd (upd (upd (upd H4 D1 (.lst [])) D2 (.lst [])) pl (.dK [(Sum.inr "top", .int 1)])) D3 (.lst [])) sl = some (.dK []) := t4 _ _ (by rw [upd_ne nps.symm]; exact hs3)
    refine ⟨D3, [], rfl, SqL.of upd_same, _, _, rfl, rfl, _, rfl, _, rfl, rt, _, 0, _, rfl, rfl, SqT.of h0, rfl, sl, _, rfl, DPut.k (k := Sum.inr (Str.ofString "top")) hs4 (by decide), ?_⟩
    refine ⟨_, _, rfl, fun z => absurd z (by decide), fun _ => ⟨?_, upd_same⟩, fun b o hb => ?_, ?_⟩
    · rw [upd_ne nps]
      exact t4 _ _ upd_same
    · rw [upd_ne (ne_of_none hb hsl0)]
      exact k4 _ _ hb
    · rw [upd_ne nsq.symm]
      exact t4 _ _ (by rw [upd_ne npq.symm]; exact hq3)
  · rintro σ H3 ⟨v3, v4, rfl, _, z2, z3, z4⟩
    obtain ⟨y1, y2⟩ := z2 (show 0 < 1 by decide)
    obtain ⟨e1, e2, e3, e4, e5, h0, h1, h2, h3, h4, h5⟩ := R.same z3
    refine ⟨_, rfl, ps, _, 0, _, rfl, rfl, SqT.of (z3 _ _ hp), rfl, rt, _, 0, _, rfl, rfl, SqT.of h0, rfl, ?_⟩
    refine ⟨_, rfl, _, rfl, pl, .int 1, rfl, .inl ⟨_, Sum.inr (Str.ofString "top"), .inl y1, rfl, ?_⟩, _, _, rfl, rfl, true, rfl, ?_⟩
    · exact (valV_pos (p := ((Sum.inr (Str.ofString "top") : Key), V.int 1)) (r := []) rfl).symm
    · refine ⟨_, rfl, _, rfl, sl, .int 0, rfl, .inl ⟨_, Sum.inr (Str.ofString "top"), .inl y2, rfl, (valV_pos (p := ((Sum.inr (Str.ofString "top") : Key), V.int 0)) (r := []) rfl).symm⟩, _, _, rfl, rfl, ?_⟩
      exact k _ z3
theorem has_wpath (D : TD K mg "wrong_path" sWPath pWItem) (B : Bi mg) (hT : Has P w K mg base "is_tuple" 1 pIsT (spIsT K)) (hA : Has P w K mg base "are_names" 2 pAre (spAre K)) (hC : Has P w K mg base "wrong_cell" 2 pWC spWCell)
    (hP : Has P w K mg base "wrong_part" 3 ["parts"] spWPart) (hI : Has P w K mg base "wrong_item" 5 pWItem spWItem) (hF : Has P w K mg base "fits" 3 ["parts"] spFits) : Has P w K mg base "wrong_path" 6 pWItem spWPath := by
  refine D.has scWPath (fun vs H Q E h => ?_) (fun f cdv A outer s H vs Q E hr h => ?_)
  · obtain ⟨wt, c, ps, rt, ws, rfl, _⟩ := h
    rfl
  obtain ⟨wt, c, ps, rt, ws, rfl, hW, S, hc, hp, R, k⟩ := h
  refine ⟨_, pss_cons (ps_if (PW.pt (pw_or (pt_not (pt_val (pcall hT hr (by decide) (pa_cons (pv 0) (pa_cons pe_int pa_nil))))) (pw_or (pt_cmpR op_lt (pe_callB call_len_seq (by rfl) B.len PySem.boot_len (pa_cons (pv 0) pa_nil)) pe_int (nomark _))
        (pw_or1 (pt_not (pt_val (pcall hA hr (by decide) (pa_cons (pv 0) (pa_cons (pe_lst pa_nil) pa_nil))))))))) (pss_one ps_never) pss_nil)
    (pss_cons (ps_set (i := 3) scWPath.nd rfl (Or.inl rfl) (pcall hC hr (by decide) (pa_cons (pv 0) (pa_cons (pv 1) pa_nil))))
    (pss_cons (ps_if (pt_cmpR op_isN (pv 3) pe_non (nomark _)) (pss_one (ps_set (i := 3) scWPath.nd rfl (Or.inl rfl) (pcall hP hr (by decide) (pa_cons (pv 2) pa_nil)))) pss_nil)
    (pss_cons (ps_if (pt_cmpR op_isN (pv 3) pe_non (nomark _)) (pss_one (ps_set (i := 3) scWPath.nd rfl (Or.inl rfl) (pcall hI hr (by decide) (pa_cons (pv 0) (pa_cons (pe_lc (own := [("cell", 4)]) (g := gName 4) (by rfl) scWPath.nd (pi_tup (pv 1))
        (blkOk_by (own := [("cell", 4)]) (N := nWPath) (sc := defScope sWPath) (by decide +kernel)) (fun _ _ _ _ _ => pg_name (i := 4) scWPath.nd rfl (Or.inl rfl)) (fun _ _ _ _ _ => pts_nil) (fun _ _ _ _ _ => pe_no)) (pa_cons (pv 2) pa_nil)))))) pss_nil)
    (pss_cons (ps_if (PW.pt (pw_and (pt_cmpR op_isN (pv 3) pe_non (nomark _)) (pw_and1 (pt_not (pt_val (pcall hF hr (by decide) (pa_cons (pv 2) pa_nil))))))) (pss_one ps_never) pss_nil)
    (pss_one (ps_ret (pv 3))))))), ?_⟩
  have w3 := S.w3
  have w2 := S.w2
  have hwl : ((ws.map V.str).length : Int) = ws.length := by rw [List.length_map]
  refine ⟨_, rfl, wt, 3, _, rfl, hW.sq, by omega, true, rfl, ?_⟩
  refine ⟨_, rfl, wt, _, rfl, .inr hW.sq, _, _, rfl, rfl, false, congrArg V.bl (decide_eq_false (by omega)), ?_⟩
  refine ⟨_, rfl, Nat.zero_le _, fun l hl => ?_⟩
  have s1 : Same H (upd H l (.lst [])) := same_new hl
  refine ⟨wt, l, ws, [], rfl, (hW.same s1).sq, SqL.of upd_same, S.nm, by simpa using S.nd, (show 0 + ws.length ≤ 100 by omega), fun H2 s2 => ⟨true, rfl, ?_⟩⟩
  have t2 := s1.trans s2
  refine ⟨_, rfl, _, rfl, _, c, rfl, t2 _ _ hc, fun H3 s3 => ?_⟩
  have t3 := t2.trans s3
  refine ⟨_, rfl, rfl, true, rfl, ?_⟩
  refine ⟨_, rfl, ps, rt, rfl, t3 _ _ hp, R.same t3, fun H4 s4 => ?_⟩
  have t4 := t3.trans s4
  refine ⟨_, rfl, rfl, true, rfl, ?_⟩
  refine ⟨_, rfl, _, rfl, c, rfl, ⟨_, SqT.of (t4 _ _ hc)⟩, fun D1 hD1 => ?_⟩
  have t5 := t4.trans (same_new (o := .lst []) hD1)
  refine lc_none (SqT.of (t5 _ _ hc)) ?_
  refine ⟨_, rfl, _, D1, ps, rt, rfl, upd_same, t5 _ _ hp, R.same t5, fun H6 s6 => ?_⟩
  have t6 := t5.trans s6
  refine ⟨_, rfl, rfl, true, rfl, ?_⟩
  refine ⟨_, rfl, ps, rt, rfl, t6 _ _ hp, R.same t6, fun H7 s7 => ⟨true, rfl, ?_⟩⟩
  exact ⟨_, rfl, k _ (t6.trans s7)⟩
end
/-! ### App(words, cells, parts) -/
theorem putF_len (f : Str) (v : V) : ∀ fs : List (Str × V), (putF f v fs).length ≤ fs.length + 1
  | [] => Nat.le_refl _
  | (g, y) :: r => by
    have ih := putF_len f v r
    show (if g = f then (g, v) :: r else (g, y) :: putF f v r).length ≤ r.length + 1 + 1
    by_cases e : g = f
    · rw [if_pos e]; exact Nat.le_succ _
    · rw [if_neg e]; exact Nat.succ_le_succ ih
abbrev sAInit : Stmt := inClass (top 60) 0
abbrev pAInit : List Str := ["self", "words", "cells", "parts"]
theorem scAInit : FnScope ["self", "words", "cells", "parts", "path"] pAInit (defScope sAInit) := ⟨rfl, rfl, rfl, by decide +kernel, rfl, by decide +kernel, by decide +kernel⟩
def spAInit (C : Addr) : Sp := fun vs H Q _ => ∃ (p dx wt c ps rt : Addr) (ws : List Str), vs = [.ref p, .ref wt, .ref c, .ref ps] ∧ H p = some (.ins C dx []) ∧ WT H wt (ws.map V.str) ∧ Wds ws ∧ H c = some (.tup []) ∧ H ps = some (.tup [.ref rt]) ∧ RootAt H rt ∧
  ∀ H', AppAt C H' p wt → (∀ b o, H b = some o → b ≠ p → H' b = some o) → Q .non H'
section
variable {P : Program} {w : World} {K : PySem.W.Frag} {mg : Str → Option Value} {base : Heap}
theorem ok_ainit {f C : Addr} {fd : FuncData} (F : Fun K "__init__" "App.__init__" sAInit f fd) (T : TxA K mg C) (hW : Has P w K mg base "wrong_path" 6 pWItem spWPath) : FnOk P w K mg base CX0 7 f fd pAInit (spAInit C) := by
  refine F.ok scAInit (fun vs H Q E h => ?_) (fun cdv A outer s H vs Q E hr h => ?_)
  · obtain ⟨p, dx, wt, c, ps, rt, ws, rfl, _⟩ := h
    rfl
  obtain ⟨p, dx, wt, c, ps, rt, ws, rfl, hp, hWt, S, hc, hps, R, k⟩ := h
  refine ⟨_, pss_cons (ps_set (i := 4) scAInit.nd rfl (Or.inl rfl) (pcall hW hr (by decide) (pa_cons (pv 1) (pa_cons (pv 2) (pa_cons (pv 3) pa_nil)))))
    (pss_cons (ps_if (pt_cmpR op_notN (pv 4) pe_non (nomark _)) (pss_one ps_never) pss_nil)
    (pss_cons (ps_fld (pv 0) (pv 1) rfl) (pss_cons (ps_fld (pv 0) (pv 2) rfl) (pss_one (ps_fld (pv 0) (pv 3) rfl))))), ?_⟩
  refine ⟨_, rfl, _, rfl, _, rfl, wt, c, ps, rt, ws, rfl, hWt, S, hc, hps, R, fun H1 s1 => ?_⟩
  refine ⟨_, rfl, rfl, false, rfl, ?_⟩
  refine ⟨_, rfl, _, rfl, p, C, dx, [], rfl, s1 _ _ hp, T.cl, T.nW, (by show 0 < 1000; decide), ?_⟩
  refine ⟨_, rfl, _, rfl, p, C, dx, _, rfl, upd_same, T.cl, T.nC, (by show 1 < 1000; decide), ?_⟩
  refine ⟨_, rfl, _, rfl, p, C, dx, _, rfl, upd_same, T.cl, T.nP, ?_, ?_⟩
  · have l1 := putF_len "cells" (V.ref c) (putF "words" (V.ref wt) [])
    have l2 := putF_len "words" (V.ref wt) []
    have l3 : ([] : List (Str × V)).length = 0 := rfl
    omega
  · refine k _ ⟨dx, _, upd_same, ?_⟩ fun b o hb hn => ?_
    · rw [lookup_putF, if_neg (by decide +kernel), lookup_putF, if_neg (by decide +kernel), lookup_putF, if_pos rfl]
    · rw [upd_ne hn, upd_ne hn, upd_ne hn]
      exact s1 _ _ hb
end
end K2
namespace K2
open PySem PySem.Spec PyProof.Rows L2
abbrev sLaw : Stmt := top 80
abbrev nLaw : List Str := ["_law_script", "_law_pool_here", "_law_words", "_law_names_here", "_law_root", "_law_app", "_law_order_here", "_law_turned", "_law_expr_here", "_law_used_here", "_law_name_here", "_law_other", "_law_whole", "_law_moved_here", "_law_known", "_law_told", "_law_inner", "_law_changed", "_law_old"]
theorem scLaw : FnScope nLaw ["_law_script"] (defScope sLaw) := ⟨rfl, rfl, rfl, by decide +kernel, rfl, by decide +kernel, by decide +kernel⟩
def spLaw (K : PySem.W.Frag) : Sp := fun vs H Q _ => ∃ (a : Addr) (ns : List Int), vs = [.ref a] ∧ SqL K H a (ns.map V.int) ∧ ∀ H', Q (.bl true) H'
/-- words, names and the bare part stand -/
structure Sg1 (H : Hp) (pp sc wt nl rt : Addr) (ws ns : List Str) : Prop where
  G : Ground H pp sc wt nl ws ns
  S : Sizes ws ns
  D : Wds ws
  R : RootAt H rt
/-- .. the order, both apps -/
structure Sg2 (C : Addr) (H : Hp) (pp sc wt nl ap ot tp : Addr) (ws ns os : List Str) : Prop where
  G : Ground H pp sc wt nl ws ns
  S : Sizes ws ns
  O : WT H ot (os.map V.str)
  T : Turned ws os
  A1 : AppAt C H ap wt
  A2 : AppAt C H tp ot
theorem Sg2.to {C : Addr} {H H' : Hp} {pp sc wt nl ap ot tp : Addr} {ws ns os : List Str} (h : Sg2 C H pp sc wt nl ap ot tp ws ns os) (P : PoolAt H' pp sc) (b : But [pp] H H') : Sg2 C H' pp sc wt nl ap ot tp ws ns os := by
  obtain ⟨px, hpx⟩ := h.G.P.lst
  exact ⟨h.G.to P b, h.S, h.O.but1 b hpx, h.T, h.A1.but b hpx, h.A2.but b hpx⟩
theorem Sg2.same {C : Addr} {H H' : Hp} {pp sc wt nl ap ot tp : Addr} {ws ns os : List Str} (h : Sg2 C H pp sc wt nl ap ot tp ws ns os) (b : Same H H') : Sg2 C H' pp sc wt nl ap ot tp ws ns os :=
  h.to (h.G.P.same b) (But.same b)
/-- the word that a dict tells of a name -/
def sgOf (kvs : List (Key × V)) (n : Str) : Str := match valV kvs (Sum.inr n) with
  | some (.str z) => z
  | _ => Str.empty
theorem sgOf_eq {kvs : List (Key × V)} {n z : Str} (h : valV kvs (Sum.inr n) = some (.str z)) : sgOf kvs n = z := by
  unfold sgOf
  rw [h]
theorem tell_of {H : Hp} {d : Addr} {kvs : List (Key × V)} {ws ns : List Str} (h : H d = some (.dK kvs)) (g : Good ws ns kvs) : Tells H d ws ns (sgOf kvs) := by
  refine ⟨kvs, h, fun m hm => ?_⟩
  obtain ⟨z, e⟩ := g.has m hm
  obtain ⟨_, z', _, e2, hz⟩ := g.val e
  have : z = z' := V.str.inj e2
  rw [sgOf_eq e]
  exact ⟨this ▸ hz, e⟩
theorem Tells.turn {H : Hp} {d : Addr} {ws os ns : List Str} {s : Str → Str} (h : Tells H d ws ns s) (T : Turned ws os) : Tells H d os ns s := by
  obtain ⟨kvs, e, g⟩ := h
  exact ⟨kvs, e, fun m hm => ⟨(T.2.2 _).mpr (g m hm).1, (g m hm).2⟩⟩
theorem tell_put {H : Hp} {q : Addr} {kvs kv2 : List (Key × V)} {ws ns : List Str} {nm inn : Str} (h : H q = some (.dK (putK kv2 (Sum.inr nm) (.str inn)))) (g : Good ws ns kvs) (c : Copied kvs [] kv2 kvs.length) (hi : inn ∈ ws) :
    Tells H q ws ns (fun m => if m = nm then inn else sgOf kvs m) := by
  refine ⟨_, h, fun m hm => ?_⟩
  rw [valV_put]
  show (if m = nm then inn else sgOf kvs m) ∈ ws ∧ (if (Sum.inr m : Key) = Sum.inr nm then some (V.str inn) else valV kv2 (Sum.inr m)) = some (V.str (if m = nm then inn else sgOf kvs m))
  by_cases e : m = nm
  · rw [if_pos e, e, if_pos rfl]
    exact ⟨hi, rfl⟩
  · have e' : ¬ (Sum.inr m : Key) = Sum.inr nm := fun z => e (Sum.inr.inj z)
    rw [if_neg e, if_neg e']
    obtain ⟨z, hz⟩ := g.has m hm
    obtain ⟨_, z', _, e2, hw⟩ := g.val hz
    have : z = z' := V.str.inj e2
    rw [sgOf_eq hz]
    exact ⟨this ▸ hw, c.all hz⟩
theorem upd_comm {H : Hp} {a b : Addr} {o u : HO} (n : a ≠ b) : upd (upd H a o) b u = upd (upd H b u) a o := by
  funext c
  unfold upd
  by_cases e : c = b
  · subst e
    rw [if_pos rfl, if_neg (fun z => n z.symm), if_pos rfl]
  · rw [if_neg e]
    by_cases e2 : c = a
    · rw [if_pos e2, if_pos e2]
    · rw [if_neg e2, if_neg e2, if_neg e]
theorem notin_no {z : Str} {ws : List Str} (h : z ∈ ws) : V.bl (if true = true then !inV (.str z) (ws.map V.str) else inV (.str z) (ws.map V.str)) = V.bl false := by
  rw [if_pos rfl, inV_str, decide_eq_true h]
  rfl
theorem ne_no (z : Str) : V.bl (!decide (V.str z = V.str z)) = V.bl false := by
  rw [decide_eq_true rfl]
  rfl
theorem same_made {H : Hp} {x dx C : Addr} (hx : H x = none) (hdx : H dx = none) : Same H (upd (upd H dx (.own x)) x (.ins C dx [])) := fun b o e => by
  rw [upd_ne (ne_of_none e hx), upd_ne (ne_of_none e hdx)]
  exact e
section
variable {P : Program} {w : World} {K : PySem.W.Frag} {mg : Str → Option Value} {base : Heap}
/-- all that the law calls -/
structure Calls (P : Program) (w : World) (K : PySem.W.Frag) (mg : Str → Option Value) (base : Heap) (C fi : Addr) (fdi : FuncData) : Prop where
  B : Bi mg
  T : TxA K mg C
  Mk : Mk K C fi
  init : FnOk P w K mg base CX0 7 fi fdi pAInit (spAInit C)
  bi : Binds K fdi pAInit []
  pool : Has P w K mg base "_law_pool" 1 ["_law_script"] (spPool K)
  draw : Has P w K mg base "_law_draw" 1 pDraw spDraw
  names : Has P w K mg base "_law_names" 3 pNames spNames
  leaf : Has P w K mg base "_law_leaf" 2 pLeaf spLeaf
  grow : Has P w K mg base "_law_grow" 6 pGrow (spGrow 4)
  expr : Has P w K mg base "_law_expr" 7 pExpr spExpr
  size : Has P w K mg base "_law_size" 6 pOne (spInt 6)
  deep : Has P w K mg base "_law_deep" 6 pOne (spInt 6)
  used : Has P w K mg base "_law_used" 4 pOne (spUsed 4)
  put : Has P w K mg base "_law_put_in" 4 pPut (spPut 4)
  moved : Has P w K mg base "_law_moved" 7 pMoved (spMoved 6)
  order : Has P w K mg base "_law_order" 2 pOrder spOrder
  dicts : Has P w K mg base "_law_dicts" 1 pDicts spDicts
  value : Has P w K mg base "value" 7 pValue (spValue C 6)
theorem ok_law {C fi f : Addr} {fdi fd : FuncData} (F : Fun K "law" "law" sLaw f fd) (Z : Calls P w K mg base C fi fdi) : FnOk P w K mg base CX0 9 f fd ["_law_script"] (spLaw K) := by
  have B := Z.B
  have T := Z.T
  refine F.ok scLaw (fun vs H Q E h => ?_) (fun cdv A outer s H vs Q E hr h => ?_)
  · obtain ⟨a, ns, rfl, _⟩ := h
    rfl
  obtain ⟨a, script, rfl, hS, k⟩ := h
  have hu := hu_of hr
  refine ⟨_, pss_cons (ps_set (i := 1) scLaw.nd rfl (Or.inl rfl) (pcall Z.pool hr (by decide) (pa_cons (pv 0) pa_nil)))
    (pss_cons (ps_set (i := 2) scLaw.nd rfl (Or.inl rfl) (pe_callTy call_tupW (by rfl) B.tuple (by decide +kernel) (pa_cons (pcall Z.names hr (by decide) (pa_cons (pv 1) (pa_cons (pe_op op_add pe_int (pcall Z.draw hr (by decide) (pa_cons (pv 1) (pa_cons pe_int pa_nil)))) (pa_cons (pe_lst pa_nil) pa_nil)))) pa_nil)))
    (pss_cons (ps_set (i := 3) scLaw.nd rfl (Or.inl rfl) (pcall Z.names hr (by decide) (pa_cons (pv 1) (pa_cons (pe_op op_add pe_int (pcall Z.draw hr (by decide) (pa_cons (pv 1) (pa_cons pe_int pa_nil)))) (pa_cons (pe_lst pa_nil) pa_nil)))))
    (C8.pss_cut (ps_set (i := 4) scLaw.nd rfl (Or.inl rfl) (pe_tup (pa_cons pe_str (pa_cons (pe_tup pa_nil) (pa_cons (pe_tup pa_nil) (pa_cons (pe_tup pa_nil) (pa_cons pe_non (pa_cons pe_non (pa_cons pe_non (pa_cons pe_non (pa_cons (pe_tup pa_nil) (pa_cons (pe_tup pa_nil) pa_nil))))))))))))
    (pss_cons (ps_set (i := 5) scLaw.nd rfl (Or.inl rfl) (pe_make Z.Mk Z.init hr rfl T.mgC Z.bi .nil pass0 (pa_cons (pv 2) (pa_cons (pe_tup pa_nil) (pa_cons (pe_tup (pa_cons (pv 4) pa_nil)) pa_nil)))))
    (pss_cons (ps_set (i := 6) scLaw.nd rfl (Or.inl rfl) (pcall Z.order hr (by decide) (pa_cons (pv 1) (pa_cons (pv 2) pa_nil))))
    (C8.pss_cut (ps_set (i := 7) scLaw.nd rfl (Or.inl rfl) (pe_make Z.Mk Z.init hr rfl T.mgC Z.bi .nil pass0 (pa_cons (pv 6) (pa_cons (pe_tup pa_nil) (pa_cons (pe_tup (pa_cons (pv 4) pa_nil)) pa_nil)))))
    (pss_cons (ps_set (i := 8) scLaw.nd rfl (Or.inl rfl) (pcall Z.expr hr (by decide) (pa_cons (pv 1) (pa_cons (pv 2) (pa_cons (pv 3) pa_nil)))))
    (C8.pss_cut (ps_if (pt_cmpR op_eq (pcall Z.draw hr (by decide) (pa_cons (pv 1) (pa_cons pe_int pa_nil))) pe_int (nomark _))
      (pss_one (ps_set (i := 8) scLaw.nd rfl (Or.inl rfl) (pcall Z.grow hr (by decide) (pa_cons (pv 1) (pa_cons (pv 2) (pa_cons (pv 3) (pa_cons pe_int (pa_cons pe_int pa_nil)))))))) pss_nil)
    (pss_cons (ps_set (i := 9) scLaw.nd rfl (Or.inl rfl) (pcall Z.used hr (by decide) (pa_cons (pv 8) pa_nil)))
    (C8.pss_cut (ps_if (PW.pt (pw_or (pt_cmpR (op_eqD hr.units) (pv 9) (pe_lst pa_nil) (nomark _)) (pw_or1 (pt_cmpR op_eq (pcall Z.draw hr (by decide) (pa_cons (pv 1) (pa_cons pe_int pa_nil))) pe_int (nomark _)))))
      (pss_one (ps_set (i := 9) scLaw.nd rfl (Or.inl rfl) (pv 3))) pss_nil)
    (pss_cons (ps_set (i := 10) scLaw.nd rfl (Or.inl rfl) (pe_ix ix_list (pv 9) (pcall Z.draw hr (by decide) (pa_cons (pv 1) (pa_cons (pe_callB call_len_seq (by rfl) B.len PySem.boot_len (pa_cons (pv 9) pa_nil)) pa_nil))) (fun _ _ => rfl)))
    (pss_cons (ps_set (i := 11) scLaw.nd rfl (Or.inl rfl) (pcall Z.grow hr (by decide) (pa_cons (pv 1) (pa_cons (pv 2) (pa_cons (pv 3) (pa_cons (pe_op op_add pe_int (pcall Z.draw hr (by decide) (pa_cons (pv 1) (pa_cons pe_int pa_nil)))) (pa_cons pe_int pa_nil)))))))
    (C8.pss_cut (ps_if (PW.pt (pw_or (pt_cmpR op_gt (pcall Z.size hr (by decide) (pa_cons (pcall Z.put hr (by decide) (pa_cons (pv 8) (pa_cons (pv 10) (pa_cons (pv 11) pa_nil)))) pa_nil)) pe_int (nomark _))
        (pw_or1 (pt_cmpR op_gt (pcall Z.deep hr (by decide) (pa_cons (pcall Z.put hr (by decide) (pa_cons (pv 8) (pa_cons (pv 10) (pa_cons (pv 11) pa_nil)))) pa_nil)) pe_int (nomark _)))))
      (pss_one (ps_set (i := 11) scLaw.nd rfl (Or.inl rfl) (pcall Z.leaf hr (by decide) (pa_cons (pv 1) (pa_cons (pv 2) (pa_cons (pv 3) pa_nil)))))) pss_nil)
    (pss_cons (ps_set (i := 12) scLaw.nd rfl (Or.inl rfl) (pcall Z.put hr (by decide) (pa_cons (pv 8) (pa_cons (pv 10) (pa_cons (pv 11) pa_nil)))))
    (pss_cons (ps_set (i := 13) scLaw.nd rfl (Or.inl rfl) (pcall Z.moved hr (by decide) (pa_cons (pv 12) (pa_cons (pv 2) (pa_cons (pv 6) pa_nil)))))
    (pss_cons (ps_for PassesOwn.never rfl (pi_list (pcall Z.dicts hr (by decide) (pa_cons (pv 2) (pa_cons (pv 3) pa_nil)))) (pg_name (i := 14) scLaw.nd rfl (Or.inl rfl))
      (pss_cons (ps_set (i := 15) scLaw.nd rfl (Or.inl rfl) (pcall Z.value hr (by decide) (pa_cons (pv 5) (pa_cons (pv 12) (pa_cons (pv 14) pa_nil)))))
      (pss_cons (ps_set (i := 16) scLaw.nd rfl (Or.inl rfl) (pcall Z.value hr (by decide) (pa_cons (pv 5) (pa_cons (pv 11) (pa_cons (pv 14) pa_nil)))))
      (pss_cons (ps_if (PW.pt (pw_or (pt_not (pt_val (pe_callB RZ.call_isTy (by rfl) B.isi PyProof.Rows.boot_isinstance (pa_cons (pv 15) (pa_cons (pe_bltn (by rfl) B.str (by decide +kernel) (v := .ty "str") rfl) pa_nil)))))
          (pw_or (pt_not (pt_val (pe_callB RZ.call_isTy (by rfl) B.isi PyProof.Rows.boot_isinstance (pa_cons (pv 16) (pa_cons (pe_bltn (by rfl) B.str (by decide +kernel) (v := .ty "str") rfl) pa_nil)))))
          (pw_or (pt_cmpR op_notIn_seq (pv 15) (pv 2) (by rfl)) (pw_or1 (pt_cmpR op_notIn_seq (pv 16) (pv 2) (by rfl))))))) (pss_one ps_never) pss_nil)
      (pss_cons (ps_if (pt_cmpR op_ne (pcall Z.value hr (by decide) (pa_cons (pv 7) (pa_cons (pv 13) (pa_cons (pv 14) pa_nil)))) (pv 15) (nomark _)) (pss_one ps_never) pss_nil)
      (pss_cons (ps_set (i := 17) scLaw.nd rfl (Or.inl rfl) pe_dnewK)
      (pss_cons (ps_lock (ps_for PassesOwn.never rfl (pi_keys (pv 14)) (pg_name (i := 18) scLaw.nd rfl (Or.inl rfl)) (pss_one (ps_dput hu (pv 17) (pv 18) (pe_dget hu (pv 14) (pv 18) (fun _ _ => rfl)) rfl))))
      (pss_cons (ps_dput hu (pv 17) (pv 10) (pv 16) rfl)
      (pss_one (ps_if (pt_cmpR op_ne (pcall Z.value hr (by decide) (pa_cons (pv 5) (pa_cons (pv 8) (pa_cons (pv 17) pa_nil)))) (pv 15) (nomark _)) (pss_one ps_never) pss_nil))))))))))
    (pss_one (ps_ret pe_bl)))))))))))))))))), ?_⟩
  -- the pool
  refine ⟨_, rfl, a, script, rfl, hS, fun pp sc H1 P1 s1 => ?_⟩
  -- the words
  refine ⟨_, rfl, _, rfl, pp, sc, 2, rfl, P1, by decide, by decide, fun d1 H2 a1 a2 P2 b2 => ⟨_, _, rfl, rfl, Nat.zero_le _, fun tk htk => ?_⟩⟩
  obtain ⟨t1, t2⟩ := P2.fresh htk
  refine ⟨pp, sc, tk, 2 + d1, rfl, P2.upd t1 t2, upd_same, t1, t2, by omega, by omega, fun l zs H3 g1 g2 g3 g4 g5 P3 b3 => ?_⟩
  refine ⟨l, _, rfl, SqL.of g5, fun wt o hwt hod => ?_⟩
  obtain ⟨w1, w2⟩ := P3.fresh hwt
  have P4 := P3.upd (o := .frz o (.tup (zs.map V.str))) w1 w2
  have W4 : WT (upd H3 wt (.frz o (.tup (zs.map V.str)))) wt (zs.map V.str) := ⟨o, upd_same, hod⟩
  have Dz : Wds zs := ⟨by omega, by omega, g3, g4⟩
  generalize (upd H3 wt (.frz o (.tup (zs.map V.str)))) = H4 at P4 W4 ⊢
  -- the names
  refine ⟨_, rfl, _, rfl, pp, sc, 4, rfl, P4, by decide, by decide, fun d2 H5 c1 c2 P5 b5 => ⟨_, _, rfl, rfl, Nat.zero_le _, fun tk2 htk2 => ?_⟩⟩
  obtain ⟨px, hpx⟩ := P4.lst
  have W5 := W4.but1 b5 hpx
  obtain ⟨t3, t4⟩ := P5.fresh htk2
  refine ⟨pp, sc, tk2, 1 + d2, rfl, P5.upd t3 t4, upd_same, t3, t4, by omega, by omega, fun nl ns H6 e1 e2 e3 e4 e5 P6 b6 => ?_⟩
  have W5' : WT (upd H5 tk2 (.lst [])) wt (zs.map V.str) := W5.same (same_new htk2)
  obtain ⟨py, hpy⟩ := P5.lst
  have W6 : WT H6 wt (zs.map V.str) := W5'.but b6 (nin2 (by
    obtain ⟨u, hu1, _⟩ := W5
    exact ne_of hu1 hpy (by intro z; cases z)) (W5.ne htk2))
  have nnp : nl ≠ pp := (P5.upd (o := .lst []) t3 t4).fresh e1 |>.1
  have G6 : Ground H6 pp sc wt nl zs ns := ⟨P6, W6, e5, nnp⟩
  have S6 : Sizes zs ns := ⟨by have := Dz.w2; omega, Dz.w3, by omega, by omega, e4⟩
  -- the bare part
  refine ⟨fun σ' H' => ∃ rt : Addr, σ' = [some (.ref a), some (.ref pp), some (.ref wt), some (.ref nl), some (.ref rt), none, none, none, none, none, none, none, none, none, none, none, none, none, none] ∧ Sg1 H' pp sc wt nl rt zs ns, ?_, ?_⟩
  · refine ⟨Nat.zero_le _, fun f1 hf1 => ⟨Nat.zero_le _, fun f2 hf2 => ⟨Nat.zero_le _, fun f3 hf3 => ⟨Nat.zero_le _, fun f4 hf4 => ⟨Nat.zero_le _, fun f5 hf5 => ⟨szl (by decide : 10 ≤ 100), fun rt hrt => ?_⟩⟩⟩⟩⟩⟩
    have y1 := same_new (o := .tup []) hf1
    have y2 := same_new (o := .tup []) hf2
    have y3 := same_new (o := .tup []) hf3
    have y4 := same_new (o := .tup []) hf4
    have y5 := same_new (o := .tup []) hf5
    have y6 := same_new (o := .tup [.str "top", .ref f1, .ref f2, .ref f3, .non, .non, .non, .non, .ref f4, .ref f5]) hrt
    have yy := ((((y1.trans y2).trans y3).trans y4).trans y5).trans y6
    refine ⟨rt, rfl, G6.to (P6.same yy) (But.same yy), S6, Dz, f1, f2, f3, f4, f5, upd_same, ?_, ?_, ?_, ?_, ?_⟩
    · exact ((((y2.trans y3).trans y4).trans y5).trans y6) _ _ upd_same
    · exact (((y3.trans y4).trans y5).trans y6) _ _ upd_same
    · exact ((y4.trans y5).trans y6) _ _ upd_same
    · exact (y5.trans y6) _ _ upd_same
    · exact y6 _ _ upd_same
  clear P6 W6 G6 S6 Dz b6 b5 W5' W5 W4 P5 P4 P3 P2 P1 s1 b2 b3 e5 e1 g5 g1 hpx hpy hS
  rintro σ' H7 ⟨rt, rfl, L1⟩
  -- app = App(words, (), (root,))
  refine ⟨_, rfl, Nat.zero_le _, fun c hc => ⟨_, rfl, szl (by decide : 1 ≤ 100), fun ps hps x dx hx hdx ndx => ?_⟩⟩
  have z1 := same_new (o := .tup []) hc
  have z2 := same_new (o := .tup [V.ref rt]) hps
  have z12 := z1.trans z2
  have mk := same_made (C := C) hx hdx
  have z3 := z12.trans mk
  refine ⟨x, dx, wt, c, ps, rt, zs, rfl, upd_same, L1.G.W.same z3, L1.D, mk _ _ (z2 _ _ upd_same), mk _ _ upd_same, L1.R.same z3, fun H8 A8 keep => ⟨rfl, ?_⟩⟩
  have s8 : Same H7 H8 := z12.trans (Same.made hx hdx keep)
  -- order
  refine ⟨_, rfl, _, rfl, pp, sc, wt, zs, rfl, L1.G.P.same s8, L1.G.W.same s8, L1.D.nd, L1.D.w3, fun ot os H9 hot0 O9 T9 P9 b9 => ?_⟩
  obtain ⟨px, hpx⟩ := (L1.G.P.same s8).lst
  have G9 := (L1.G.to (L1.G.P.same s8) (But.same s8)).to P9 b9
  have A9 := A8.but b9 hpx
  have R9 := (L1.R.same s8).mono (b9.tups1 hpx)
  have Do : Wds os := ⟨by rw [T9.1]; exact L1.D.w2, by rw [T9.1]; exact L1.D.w3, T9.2.1, fun y hy => L1.D.nm y ((T9.2.2 y).mp hy)⟩
  have S9 := L1.S
  -- turned
  refine ⟨fun σ' H' => ∃ (ap tp : Addr), σ' = [some (.ref a), some (.ref pp), some (.ref wt), some (.ref nl), some (.ref rt), some (.ref ap), some (.ref ot), some (.ref tp), none, none, none, none, none, none, none, none, none, none, none] ∧ Sg2 C H' pp sc wt nl ap ot tp zs ns os, ?_, ?_⟩
  · clear z1 z2 z12 mk z3 s8 keep A8 L1
    refine ⟨_, rfl, Nat.zero_le _, fun c2 hc2 => ⟨_, rfl, szl (by decide : 1 ≤ 100), fun ps2 hps2 x2 dx2 hx2 hdx2 ndx2 => ?_⟩⟩
    have z1 := same_new (o := .tup []) hc2
    have z2 := same_new (o := .tup [V.ref rt]) hps2
    have z12 := z1.trans z2
    have mk := same_made (C := C) hx2 hdx2
    have z3 := z12.trans mk
    refine ⟨x2, dx2, ot, c2, ps2, rt, os, rfl, upd_same, O9.same z3, Do, mk _ _ (z2 _ _ upd_same), mk _ _ upd_same, R9.same z3, fun H8 A8 keep => ⟨rfl, ?_⟩⟩
    have s8 : Same H9 H8 := z12.trans (Same.made hx2 hdx2 keep)
    exact ⟨x, x2, rfl, G9.to (P9.same s8) (But.same s8), S9, O9.same s8, T9, A9.same s8, A8⟩
  clear z1 z2 z12 mk z3 s8 keep A8 L1 G9 A9 R9 O9 P9 b9 hpx hc hps hx hdx
  rintro σ' H10 ⟨ap, tp, rfl, L2⟩
  -- the expression
  refine ⟨_, rfl, _, rfl, _, rfl, pp, sc, wt, nl, zs, ns, rfl, L2.G, L2.S, fun v e H11 x1 x2 x3 P11 b11 => ?_⟩
  have L3 := L2.to P11 b11
  refine ⟨fun σ' H' => ∃ (v : V) (e : Ex), σ' = [some (.ref a), some (.ref pp), some (.ref wt), some (.ref nl), some (.ref rt), some (.ref ap), some (.ref ot), some (.ref tp), some v, none, none, none, none, none, none, none, none, none, none] ∧
    Sg2 C H' pp sc wt nl ap ot tp zs ns os ∧ ExAt H' v e ∧ e.Ok zs ns ∧ e.deep ≤ 4, ?_, ?_⟩
  · refine ⟨_, rfl, pp, sc, 3, rfl, P11, by decide, by decide, fun d3 H12 m1 m2 P12 b12 => ?_⟩
    have L4 := L3.to P12 b12
    obtain ⟨px, hpx⟩ := P11.lst
    refine ⟨rfl, _, rfl, ?_⟩
    refine ite2 (fun _ => ?_) (fun _ => ?_)
    · refine ⟨_, rfl, _, rfl, _, rfl, pp, sc, wt, nl, zs, ns, 5, 2, rfl, L4.G, L4.S, by decide, by decide, by decide, by decide, by decide, fun v' e' H13 q1 q2 q3 P13 b13 => ?_⟩
      exact ⟨v', e', rfl, L4.to P13 b13, q1, q2, by omega⟩
    · exact ⟨v, e, rfl, L4, x1.mono (b12.tups1 hpx), x2, x3⟩
  clear L3 P11 b11 x1 x2 x3 L2
  rintro σ' H14 ⟨v2, e2, rfl, L5, x1, x2, x3⟩
  -- the names in it
  refine ⟨_, rfl, v2, e2, rfl, x1, x3, by decide, fun ul H15 ul0 g15 s15 => ?_⟩
  have L6 := L5.same s15
  have x1' := x1.same s15
  have hus : ∀ u ∈ e2.used, u ∈ ns := used_ok x2
  have hul16 : e2.used.length ≤ 16 := by
    have h1 := used_len e2
    have h2 : 2 ^ e2.deep ≤ 2 ^ 4 := Nat.pow_le_pow_right (by decide) x3
    omega
  have nul : ul ≠ pp := by
    obtain ⟨px, hpx⟩ := L5.G.P.lst
    exact (ne_of_none hpx ul0).symm
  refine ⟨fun σ' H' => ∃ (ul : Addr) (us : List Str), σ' = [some (.ref a), some (.ref pp), some (.ref wt), some (.ref nl), some (.ref rt), some (.ref ap), some (.ref ot), some (.ref tp), some v2, some (.ref ul), none, none, none, none, none, none, none, none, none] ∧
    Sg2 C H' pp sc wt nl ap ot tp zs ns os ∧ ExAt H' v2 e2 ∧ H' ul = some (.lst (us.map V.str)) ∧ 0 < us.length ∧ us.length ≤ 16 ∧ (∀ u ∈ us, u ∈ ns) ∧ ul ≠ pp, ?_, ?_⟩
  · refine ⟨_, rfl, Nat.zero_le _, fun q hq => ?_⟩
    have y1 := same_new (o := .lst []) hq
    have L7 := L6.same y1
    have n4 := L7.S.n4
    refine ⟨.list (e2.used.map PyData.str), .list [], .lst (SqL.of (y1 _ _ g15)) (dp_strs _), .lst (SqL.of upd_same) .nil, shaped_strs fun u hu' => L7.S.nm u (hus u hu'), rfl, _, rfl, ?_⟩
    refine ite2 (fun _ => ?_) (fun c => ?_)
    · exact ⟨_, rfl, nl, ns, rfl, L7, x1'.same y1, L7.G.N, L7.S.n0, by omega, fun u hu' => hu', L7.G.ne⟩
    · have hne : 0 < e2.used.length := by
        rcases Nat.eq_zero_or_pos e2.used.length with z | z
        · exfalso
          apply c
          show PyData.eqv (.list (e2.used.map PyData.str)) (.list []) = true
          rw [eqv_strs, List.eq_nil_of_length_eq_zero z]
          rfl
        · exact z
      refine ⟨_, rfl, pp, sc, 4, rfl, L7.G.P, by decide, by decide, fun d4 H16 m1 m2 P16 b16 => ?_⟩
      have L8 := L7.to P16 b16
      obtain ⟨px, hpx⟩ := L7.G.P.lst
      have x8 := (x1'.same y1).mono (b16.tups1 hpx)
      refine ⟨rfl, _, rfl, ?_⟩
      refine ite2 (fun _ => ?_) (fun _ => ?_)
      · exact ⟨_, rfl, nl, ns, rfl, L8, x8, L8.G.N, L8.S.n0, by omega, fun u hu' => hu', L8.G.ne⟩
      · exact ⟨ul, e2.used, rfl, L8, x8, b16.at1 (y1 _ _ g15) nul, hne, hul16, hus, nul⟩
  clear L6 L5 x1 x1' hus hul16 nul g15 s15 ul0
  rintro σ' H17 ⟨ul, us, rfl, L9, x1, hU, u0, u16, hus, nul⟩
  -- the name
  have hul : ((us.map V.str).length : Int) = us.length := by rw [List.length_map]
  refine ⟨_, rfl, _, rfl, _, rfl, ul, _, rfl, .inl (SqL.of hU), pp, sc, _, rfl, L9.G.P, by omega, by omega, fun d5 H18 m1 m2 P18 b18 => ?_⟩
  rw [hul] at m2
  obtain ⟨nm, hnm, hnmu⟩ := str_at m1 m2
  obtain ⟨px, hpx⟩ := L9.G.P.lst
  have L10 := L9.to P18 b18
  have x10 := x1.mono (b18.tups1 hpx)
  refine ⟨ul, _, d5, _, rfl, rfl, SqL.of (b18.at1 hU nul), hnm, ?_⟩
  have hnn : nm ∈ ns := hus nm hnmu
  -- the second expression
  refine ⟨_, rfl, _, rfl, _, rfl, _, rfl, pp, sc, 5, rfl, P18, by decide, by decide, fun d6 H19 m3 m4 P19 b19 => ⟨_, _, rfl, rfl, ?_⟩⟩
  obtain ⟨py, hpy⟩ := P18.lst
  have L11 := L10.to P19 b19
  have x11 := x10.mono (b19.tups1 hpy)
  refine ⟨pp, sc, wt, nl, zs, ns, 1 + d6, 2, rfl, L11.G, L11.S, by omega, by omega, by decide, by decide, by decide, fun vo o H20 q1 q2 q3 P20 b20 => ?_⟩
  obtain ⟨pz, hpz⟩ := P19.lst
  have L12 := L11.to P20 b20
  have x12 := x11.mono (b20.tups1 hpz)
  refine ⟨fun σ' H' => ∃ (vo : V) (o : Ex), σ' = [some (.ref a), some (.ref pp), some (.ref wt), some (.ref nl), some (.ref rt), some (.ref ap), some (.ref ot), some (.ref tp), some v2, some (.ref ul), some (.str nm), some vo, none, none, none, none, none, none, none] ∧
    Sg2 C H' pp sc wt nl ap ot tp zs ns os ∧ ExAt H' v2 e2 ∧ ExAt H' vo o ∧ o.Ok zs ns ∧ o.deep ≤ 3, ?_, ?_⟩
  · have o3 : o.deep ≤ 3 := by omega
    have pd : (Ex.put nm o e2).deep ≤ 6 := by
      have := put_deep (n := nm) (o := o) (k := 2) (by omega) e2
      omega
    have leaf : ∀ H', Sg2 C H' pp sc wt nl ap ot tp zs ns os → ExAt H' v2 e2 → spLeaf [V.ref pp, .ref wt, .ref nl] H' (fun v' H'' => ∃ (vo' : V) (o' : Ex), [some (V.ref a), some (.ref pp), some (.ref wt), some (.ref nl), some (.ref rt), some (.ref ap), some (.ref ot), some (.ref tp), some v2, some (.ref ul), some (.str nm), some v', none, none, none, none, none, none, none] = [some (V.ref a), some (.ref pp), some (.ref wt), some (.ref nl), some (.ref rt), some (.ref ap), some (.ref ot), some (.ref tp), some v2, some (.ref ul), some (.str nm), some vo', none, none, none, none, none, none, none] ∧
        Sg2 C H'' pp sc wt nl ap ot tp zs ns os ∧ ExAt H'' v2 e2 ∧ ExAt H'' vo' o' ∧ o'.Ok zs ns ∧ o'.deep ≤ 3) E0 := fun H' L hx => by
      obtain ⟨pq, hpq⟩ := L.G.P.lst
      refine ⟨pp, sc, wt, nl, zs, ns, rfl, L.G.P, L.G.W, L.G.N, L.G.ne, L.S.w0, L.S.w3, L.S.n0, L.S.n4, L.S.nm, fun v' e' H'' r1 r2 r3 P'' b'' => ?_⟩
      exact ⟨v', e', rfl, L.to P'' b'', hx.mono (b''.tups1 hpq), r1, r2, by omega⟩
    refine ⟨_, rfl, _, rfl, _, rfl, v2, vo, nm, e2, o, rfl, x12, q1, x3, fun vp H21 p1 s21 => ?_⟩
    refine ⟨vp, _, rfl, p1, pd, fun z => ⟨_, _, rfl, rfl, _, rfl, ?_⟩⟩
    have L13 := L12.same s21
    refine ite2 (fun _ => ?_) (fun _ => ?_)
    · exact ⟨_, rfl, _, rfl, _, rfl, leaf H21 L13 (x12.same s21)⟩
    · refine ⟨_, rfl, _, rfl, _, rfl, v2, vo, nm, e2, o, rfl, x12.same s21, q1.same s21, x3, fun vp2 H22 p2 s22 => ?_⟩
      refine ⟨vp2, _, rfl, p2, pd, fun z2 => ⟨_, _, rfl, rfl, _, rfl, ?_⟩⟩
      have L14 := L13.same s22
      refine ite2 (fun _ => ?_) (fun _ => ?_)
      · exact ⟨_, rfl, _, rfl, _, rfl, leaf H22 L14 ((x12.same s21).same s22)⟩
      · exact ⟨vo, o, rfl, L14, (x12.same s21).same s22, (q1.same s21).same s22, q2, o3⟩
  clear L12 x12 L11 x11 L10 x10 L9 x1 P20 b20 P19 b19 P18 b18 q1 q2 q3 hpx hpy hpz hU
  rintro σ' H23 ⟨vo, o, rfl, L, xe, xo, ok, od⟩
  -- the first one with the second put in, and moved
  have pd : (Ex.put nm o e2).deep ≤ 6 := by
    have := put_deep (n := nm) (o := o) (k := 2) od e2
    omega
  have pok : (Ex.put nm o e2).Ok zs ns := put_ok ok x2
  refine ⟨_, rfl, _, rfl, _, rfl, v2, vo, nm, e2, o, rfl, xe, xo, x3, fun vw H24 xw s24 => ?_⟩
  have L1 := L.same s24
  refine ⟨_, rfl, _, rfl, _, rfl, vw, wt, ot, Ex.put nm o e2, zs, os, ns, rfl, xw, ⟨L1.G.W, L1.O, L1.T, L1.S.w3⟩, pok, pd, fun vm H25 xm s25 => ?_⟩
  have L2 := L1.same s25
  -- the dicts
  refine ⟨_, rfl, _, rfl, wt, nl, zs, ns, rfl, L2.G.W, L2.G.N, L2.S.w3, L2.S.n4, fun l ds H26 g1 g2 s26 => ?_⟩
  have L3 := L2.same s26
  have s46 := s25.trans s26
  have s36 := s24.trans s46
  have ye := xe.same s36
  have yo := xo.same s36
  have yw := xw.same s46
  have ym := xm.same s26
  refine ⟨l, rfl, ⟨_, SqL.of g1⟩, for_list (K := K) (a := l) (xs := ds.map V.ref) (fun i σ H' => ∃ v14 v15 v16 v17 v18 : Option V, σ = [some (.ref a), some (.ref pp), some (.ref wt), some (.ref nl), some (.ref rt), some (.ref ap), some (.ref ot), some (.ref tp), some v2, some (.ref ul), some (.str nm), some vo, some vw, some vm, v14, v15, v16, v17, v18] ∧ Same H26 H')
    ⟨none, none, none, none, none, rfl, Same.refl _⟩ (fun i σ H' _ ⟨_, _, _, _, _, _, q⟩ => q.seq (SqL.of g1)) ?_ ?_⟩
  · rintro i x σ H27 hx ⟨v14, v15, v16, v17, v18, rfl, s27⟩
    obtain ⟨d, hd, rfl⟩ : ∃ d, ds[i]? = some d ∧ x = .ref d := by
      rw [List.getElem?_map] at hx
      cases e : ds[i]? with
      | none => rw [e] at hx; cases hx
      | some z => rw [e] at hx; exact ⟨z, rfl, (Option.some.inj hx).symm⟩
    obtain ⟨kvs, hkv, good, kl⟩ := (g2 d (List.mem_of_getElem? hd)).same s27
    have tell := tell_of hkv good
    have tello : Tells H27 d os ns (sgOf kvs) := tell.turn L.T
    have L4 := L3.same s27
    have hm1 := ev_mem tell.mem pok
    have hm2 := ev_mem tell.mem ok
    have od6 : o.deep ≤ 6 := by omega
    -- told, inner
    refine ⟨_, rfl, _, rfl, _, rfl, ap, wt, d, vw, Ex.put nm o e2, zs, ns, sgOf kvs, rfl, L4.A1, L4.G.W, yw.same s27, pok, pd, tell, ?_⟩
    refine ⟨_, rfl, _, rfl, _, rfl, ap, wt, d, vo, o, zs, ns, sgOf kvs, rfl, L4.A1, L4.G.W, yo.same s27, ok, od6, tell, ?_⟩
    refine ⟨_, rfl, .str _, "str", rfl, .str _, true, rfl, ?_⟩
    refine ⟨_, rfl, .str _, "str", rfl, .str _, true, rfl, ?_⟩
    refine ⟨_, rfl, _, rfl, wt, _, rfl, .inr L4.G.W.sq, rfl, flat_strs _, false, notin_no hm1, ?_⟩
    refine ⟨_, rfl, _, rfl, wt, _, rfl, .inr L4.G.W.sq, rfl, flat_strs _, false, notin_no hm2, ?_⟩
    -- the same in the turned app
    refine ⟨_, rfl, _, rfl, _, rfl, tp, ot, d, vm, (Ex.put nm o e2).mv zs os, os, ns, sgOf kvs, rfl, L4.A2, L4.O, ym.same s27, mv_ok L.T pok, by rw [mv_deep]; exact pd, tello, ?_⟩
    rw [ev_mv L.T tell.mem pok]
    refine ⟨_, rfl, rfl, false, ne_no _, ?_⟩
    -- changed
    intro q hq
    have ndq : d ≠ q := ne_of_none hkv hq
    have t1 : Same H27 (upd H27 q (.dK [])) := same_new hq
    refine ⟨d, .dK kvs, t1 _ _ hkv, trivial, fun od => ⟨_, rfl, d, od, rfl, .inl ⟨kvs, upd_same, ?_⟩⟩⟩
    refine for_it walk_keys (fun j σ H' => ∃ (kv2 : List (Key × V)) (v18 : Option V), σ = [some (.ref a), some (.ref pp), some (.ref wt), some (.ref nl), some (.ref rt), some (.ref ap), some (.ref ot), some (.ref tp), some v2, some (.ref ul), some (.str nm), some vo, some vw, some vm, some (.ref d), some (.str ((Ex.put nm o e2).ev zs (sgOf kvs))), some (.str (o.ev zs (sgOf kvs))), some (.ref q), v18] ∧
        H' = upd (upd H27 d (.frz od (.dK kvs))) q (.dK kv2) ∧ Copied kvs [] kv2 j)
      ⟨[], _, rfl, upd_comm ndq.symm, Copied.zero _ _⟩ (fun j σ H' _ ⟨_, _, _, e, _⟩ => by rw [e, upd_ne ndq, upd_same]) ?_ ?_
    · rintro m x σ H4 H5 hm ⟨kv2, v18, rfl, rfl, cp⟩ ⟨rfl, key, val, hk, rfl⟩
      obtain ⟨v0, hv0⟩ := valV_there hk
      have hl2 : kv2.length ≤ 0 + m := cp.len
      refine ⟨_, rfl, _, rfl, d, v0, rfl, .inl ⟨kvs, key, .inr ⟨od, by rw [upd_ne ndq, upd_same]⟩, rfl, hv0.symm⟩, ?_⟩
      refine ⟨_, rfl, _, rfl, q, _, rfl, DPut.k (k := key) upd_same (small1000 (by omega)), ?_⟩
      exact ⟨putK kv2 key v0, _, rfl, upd_upd, cp.step hk hv0⟩
    · rintro σ H4 ⟨kv2, v18, rfl, rfl, cp⟩
      refine ⟨by rw [upd_ne ndq, upd_same], ?_⟩
      rw [upd_lock hkv ndq]
      have hl2 : kv2.length ≤ 0 + kvs.length := cp.len
      -- changed[name] = inner
      refine ⟨_, rfl, _, rfl, _, rfl, q, _, rfl, DPut.k (k := Sum.inr nm) upd_same (small1000 (by omega)), ?_⟩
      rw [upd_upd]
      have t2 : Same H27 (upd H27 q (.dK (putK kv2 (Sum.inr nm) (.str (o.ev zs (sgOf kvs)))))) := same_new hq
      have L5 := L4.same t2
      have tell3 : Tells (upd H27 q (.dK (putK kv2 (Sum.inr nm) (.str (o.ev zs (sgOf kvs)))))) q zs ns (fun m => if m = nm then o.ev zs (sgOf kvs) else sgOf kvs m) :=
        tell_put upd_same good cp hm2
      refine ⟨_, rfl, _, rfl, _, rfl, ap, wt, q, v2, e2, zs, ns, _, rfl, L5.A1, L5.G.W, (ye.same s27).same t2, x2, by omega, tell3, ?_⟩
      rw [← ev_put]
      refine ⟨_, rfl, rfl, false, ne_no _, ?_⟩
      exact ⟨_, _, _, _, _, rfl, s27.trans t2⟩
  · rintro σ H27 ⟨v14, v15, v16, v17, v18, rfl, s27⟩
    exact k _
end
end K2
/-! What the top has left, and the end. -/
namespace K2
open PySem PySem.Spec PyProof.Rows L2
theorem td_mk {K : PySem.W.Frag} {h : Heap} {mg : Str → Option Value} {x : Str} {st : Stmt} {ps : List Str} {f : Addr} {oc : Value} {od an : Option Addr} {osl : Array (Option Value)} {kV doc pm cdv ct : Value} (X : K.In h) (G : h.Ns mainGlobals mg)
    (hb : ∀ (kV doc pm : Value) (an : Option Addr) (cdv ct : Value) (us : List Value), us.length = ps.length → bindArgs (PySem.W.fnOf x x (defArgs st) (defBody st) (defScope st) .none kV doc pm an cdv ct) ⟨us, []⟩ = pure (ps.zip us))
    (a : PySem.W.nsIn K mainGlobals x = some (some (.ref f))) (l : K.lookup f = some ⟨oc, od, .func (PySem.W.fnOf x x (defArgs st) (defBody st) (defScope st) .none kV doc pm an cdv ct), osl⟩)
    (c : PySem.W.codeIn K cdv x = true) (k : PySem.W.keepIn K (.ref f) = true) : TD K mg x st ps := by
  have F := fun_mk (st := st) l c k
  exact ⟨f, _, F, PySem.W.mg_of X G a, F.binds hb⟩
theorem int_mk {K : PySem.W.Frag} {h : Heap} {mg : Str → Option Value} {x : Str} {n : Int} {t : Tok} (X : K.In h) (G : h.Ns mainGlobals mg) (a : PySem.W.nsIn K mainGlobals x = some (some (.int n t))) : ∃ t, mg x = some (.int n t) := ⟨t, PySem.W.mg_of X G a⟩
theorem str_mk {K : PySem.W.Frag} {h : Heap} {mg : Str → Option Value} {x n : Str} {t : Tok} (X : K.In h) (G : h.Ns mainGlobals mg) (a : PySem.W.nsIn K mainGlobals x = some (some (.str n t))) : ∃ t, mg x = some (.str n t) := ⟨t, PySem.W.mg_of X G a⟩
/-- every def of the text that runs -/
structure Top (K : PySem.W.Frag) (mg : Str → Option Value) : Prop where
  isN : TD K mg "is_name" sIsN ["thing"]
  eval : TD K mg "evaluate" sEval pEval
  stN : TD K mg "state_names" sStN pPart
  steer : TD K mg "steering_names" sSteer pPart
  body : TD K mg "body_items" sBody pPart
  child : TD K mg "child_items" sChild pPart
  isT : TD K mg "is_tuple" sIsT pIsT
  are : TD K mg "are_names" sAre pAre
  wpath : TD K mg "wrong_path" sWPath pWItem
  wcell : TD K mg "wrong_cell" sWCell pWC
  wpart : TD K mg "wrong_part" sWPart ["parts"]
  witem : TD K mg "wrong_item" sWItem pWItem
  first : TD K mg "first_wrong" sFirst pFirst
  rpar : TD K mg "right_params" sRPar ["params"]
  rst : TD K mg "right_states" sRSt pWP
  rre : TD K mg "right_reads" sRRe pCP
  rask : TD K mg "right_ask" sRAsk pPart
  rmem : TD K mg "right_memo" sRMem pWP
  reff : TD K mg "right_effect" sREff pWP
  rgiv : TD K mg "right_give" sRGiv pWP
  rpre : TD K mg "right_presses" sRPre pWP
  fits : TD K mg "fits" sFits ["parts"]
  value : TD K mg "value" sValue pValue
  draw : TD K mg "_law_draw" sDraw pDraw
  pool : TD K mg "_law_pool" sPool ["_law_script"]
  name : TD K mg "_law_name" sName ["_law_pool_here", "_law_taken"]
  names : TD K mg "_law_names" sNames pNames
  row : TD K mg "_law_row" sRow pRow
  leaf : TD K mg "_law_leaf" sLeaf pLeaf
  grow : TD K mg "_law_grow" sGrow pGrow
  expr : TD K mg "_law_expr" sExpr pExpr
  size : TD K mg "_law_size" sSize pOne
  deep : TD K mg "_law_deep" sDeep pOne
  used : TD K mg "_law_used" sUsed pOne
  put : TD K mg "_law_put_in" sPut pPut
  mrow : TD K mg "_law_moved_row" sMRow pMRow
  moved : TD K mg "_law_moved" sMoved pMoved
  order : TD K mg "_law_order" sOrder pOrder
  dicts : TD K mg "_law_dicts" sDicts pDicts
theorem b_isN (kV doc pm : Value) (an : Option Addr) (cdv ct : Value) (us : List Value) (hl : us.length = (["thing"] : List Str).length) : bindArgs (PySem.W.fnOf "is_name" "is_name" (defArgs sIsN) (defBody sIsN) (defScope sIsN) .none kV doc pm an cdv ct) ⟨us, []⟩ = pure ((["thing"] : List Str).zip us) :=
  match us, hl with | [_], _ => rfl
theorem b_eval (kV doc pm : Value) (an : Option Addr) (cdv ct : Value) (us : List Value) (hl : us.length = (pEval : List Str).length) : bindArgs (PySem.W.fnOf "evaluate" "evaluate" (defArgs sEval) (defBody sEval) (defScope sEval) .none kV doc pm an cdv ct) ⟨us, []⟩ = pure ((pEval : List Str).zip us) :=
  match us, hl with | [_, _, _], _ => rfl
theorem b_stN (kV doc pm : Value) (an : Option Addr) (cdv ct : Value) (us : List Value) (hl : us.length = (pPart : List Str).length) : bindArgs (PySem.W.fnOf "state_names" "state_names" (defArgs sStN) (defBody sStN) (defScope sStN) .none kV doc pm an cdv ct) ⟨us, []⟩ = pure ((pPart : List Str).zip us) :=
  match us, hl with | [_], _ => rfl
theorem b_steer (kV doc pm : Value) (an : Option Addr) (cdv ct : Value) (us : List Value) (hl : us.length = (pPart : List Str).length) : bindArgs (PySem.W.fnOf "steering_names" "steering_names" (defArgs sSteer) (defBody sSteer) (defScope sSteer) .none kV doc pm an cdv ct) ⟨us, []⟩ = pure ((pPart : List Str).zip us) :=
  match us, hl with | [_], _ => rfl
theorem b_body (kV doc pm : Value) (an : Option Addr) (cdv ct : Value) (us : List Value) (hl : us.length = (pPart : List Str).length) : bindArgs (PySem.W.fnOf "body_items" "body_items" (defArgs sBody) (defBody sBody) (defScope sBody) .none kV doc pm an cdv ct) ⟨us, []⟩ = pure ((pPart : List Str).zip us) :=
  match us, hl with | [_], _ => rfl
theorem b_child (kV doc pm : Value) (an : Option Addr) (cdv ct : Value) (us : List Value) (hl : us.length = (pPart : List Str).length) : bindArgs (PySem.W.fnOf "child_items" "child_items" (defArgs sChild) (defBody sChild) (defScope sChild) .none kV doc pm an cdv ct) ⟨us, []⟩ = pure ((pPart : List Str).zip us) :=
  match us, hl with | [_], _ => rfl
theorem b_isT (kV doc pm : Value) (an : Option Addr) (cdv ct : Value) (us : List Value) (hl : us.length = (pIsT : List Str).length) : bindArgs (PySem.W.fnOf "is_tuple" "is_tuple" (defArgs sIsT) (defBody sIsT) (defScope sIsT) .none kV doc pm an cdv ct) ⟨us, []⟩ = pure ((pIsT : List Str).zip us) :=
  match us, hl with | [_, _], _ => rfl
theorem b_are (kV doc pm : Value) (an : Option Addr) (cdv ct : Value) (us : List Value) (hl : us.length = (pAre : List Str).length) : bindArgs (PySem.W.fnOf "are_names" "are_names" (defArgs sAre) (defBody sAre) (defScope sAre) .none kV doc pm an cdv ct) ⟨us, []⟩ = pure ((pAre : List Str).zip us) :=
  match us, hl with | [_, _], _ => rfl
theorem b_wpath (kV doc pm : Value) (an : Option Addr) (cdv ct : Value) (us : List Value) (hl : us.length = (pWItem : List Str).length) : bindArgs (PySem.W.fnOf "wrong_path" "wrong_path" (defArgs sWPath) (defBody sWPath) (defScope sWPath) .none kV doc pm an cdv ct) ⟨us, []⟩ = pure ((pWItem : List Str).zip us) :=
  match us, hl with | [_, _, _], _ => rfl
theorem b_wcell (kV doc pm : Value) (an : Option Addr) (cdv ct : Value) (us : List Value) (hl : us.length = (pWC : List Str).length) : bindArgs (PySem.W.fnOf "wrong_cell" "wrong_cell" (defArgs sWCell) (defBody sWCell) (defScope sWCell) .none kV doc pm an cdv ct) ⟨us, []⟩ = pure ((pWC : List Str).zip us) :=
  match us, hl with | [_, _], _ => rfl
theorem b_wpart (kV doc pm : Value) (an : Option Addr) (cdv ct : Value) (us : List Value) (hl : us.length = (["parts"] : List Str).length) : bindArgs (PySem.W.fnOf "wrong_part" "wrong_part" (defArgs sWPart) (defBody sWPart) (defScope sWPart) .none kV doc pm an cdv ct) ⟨us, []⟩ = pure ((["parts"] : List Str).zip us) :=
  match us, hl with | [_], _ => rfl
theorem b_witem (kV doc pm : Value) (an : Option Addr) (cdv ct : Value) (us : List Value) (hl : us.length = (pWItem : List Str).length) : bindArgs (PySem.W.fnOf "wrong_item" "wrong_item" (defArgs sWItem) (defBody sWItem) (defScope sWItem) .none kV doc pm an cdv ct) ⟨us, []⟩ = pure ((pWItem : List Str).zip us) :=
  match us, hl with | [_, _, _], _ => rfl
theorem b_first (kV doc pm : Value) (an : Option Addr) (cdv ct : Value) (us : List Value) (hl : us.length = (pFirst : List Str).length) : bindArgs (PySem.W.fnOf "first_wrong" "first_wrong" (defArgs sFirst) (defBody sFirst) (defScope sFirst) .none kV doc pm an cdv ct) ⟨us, []⟩ = pure ((pFirst : List Str).zip us) :=
  match us, hl with | [_, _, _, _, _], _ => rfl
theorem b_rpar (kV doc pm : Value) (an : Option Addr) (cdv ct : Value) (us : List Value) (hl : us.length = (["params"] : List Str).length) : bindArgs (PySem.W.fnOf "right_params" "right_params" (defArgs sRPar) (defBody sRPar) (defScope sRPar) .none kV doc pm an cdv ct) ⟨us, []⟩ = pure ((["params"] : List Str).zip us) :=
  match us, hl with | [_], _ => rfl
theorem b_rst (kV doc pm : Value) (an : Option Addr) (cdv ct : Value) (us : List Value) (hl : us.length = (pWP : List Str).length) : bindArgs (PySem.W.fnOf "right_states" "right_states" (defArgs sRSt) (defBody sRSt) (defScope sRSt) .none kV doc pm an cdv ct) ⟨us, []⟩ = pure ((pWP : List Str).zip us) :=
  match us, hl with | [_, _], _ => rfl
theorem b_rre (kV doc pm : Value) (an : Option Addr) (cdv ct : Value) (us : List Value) (hl : us.length = (pCP : List Str).length) : bindArgs (PySem.W.fnOf "right_reads" "right_reads" (defArgs sRRe) (defBody sRRe) (defScope sRRe) .none kV doc pm an cdv ct) ⟨us, []⟩ = pure ((pCP : List Str).zip us) :=
  match us, hl with | [_, _], _ => rfl
theorem b_rask (kV doc pm : Value) (an : Option Addr) (cdv ct : Value) (us : List Value) (hl : us.length = (pPart : List Str).length) : bindArgs (PySem.W.fnOf "right_ask" "right_ask" (defArgs sRAsk) (defBody sRAsk) (defScope sRAsk) .none kV doc pm an cdv ct) ⟨us, []⟩ = pure ((pPart : List Str).zip us) :=
  match us, hl with | [_], _ => rfl
theorem b_rmem (kV doc pm : Value) (an : Option Addr) (cdv ct : Value) (us : List Value) (hl : us.length = (pWP : List Str).length) : bindArgs (PySem.W.fnOf "right_memo" "right_memo" (defArgs sRMem) (defBody sRMem) (defScope sRMem) .none kV doc pm an cdv ct) ⟨us, []⟩ = pure ((pWP : List Str).zip us) :=
  match us, hl with | [_, _], _ => rfl
theorem b_reff (kV doc pm : Value) (an : Option Addr) (cdv ct : Value) (us : List Value) (hl : us.length = (pWP : List Str).length) : bindArgs (PySem.W.fnOf "right_effect" "right_effect" (defArgs sREff) (defBody sREff) (defScope sREff) .none kV doc pm an cdv ct) ⟨us, []⟩ = pure ((pWP : List Str).zip us) :=
  match us, hl with | [_, _], _ => rfl
theorem b_rgiv (kV doc pm : Value) (an : Option Addr) (cdv ct : Value) (us : List Value) (hl : us.length = (pWP : List Str).length) : bindArgs (PySem.W.fnOf "right_give" "right_give" (defArgs sRGiv) (defBody sRGiv) (defScope sRGiv) .none kV doc pm an cdv ct) ⟨us, []⟩ = pure ((pWP : List Str).zip us) :=
  match us, hl with | [_, _], _ => rfl
theorem b_rpre (kV doc pm : Value) (an : Option Addr) (cdv ct : Value) (us : List Value) (hl : us.length = (pWP : List Str).length) : bindArgs (PySem.W.fnOf "right_presses" "right_presses" (defArgs sRPre) (defBody sRPre) (defScope sRPre) .none kV doc pm an cdv ct) ⟨us, []⟩ = pure ((pWP : List Str).zip us) :=
  match us, hl with | [_, _], _ => rfl
theorem b_fits (kV doc pm : Value) (an : Option Addr) (cdv ct : Value) (us : List Value) (hl : us.length = (["parts"] : List Str).length) : bindArgs (PySem.W.fnOf "fits" "fits" (defArgs sFits) (defBody sFits) (defScope sFits) .none kV doc pm an cdv ct) ⟨us, []⟩ = pure ((["parts"] : List Str).zip us) :=
  match us, hl with | [_], _ => rfl
theorem b_value (kV doc pm : Value) (an : Option Addr) (cdv ct : Value) (us : List Value) (hl : us.length = (pValue : List Str).length) : bindArgs (PySem.W.fnOf "value" "value" (defArgs sValue) (defBody sValue) (defScope sValue) .none kV doc pm an cdv ct) ⟨us, []⟩ = pure ((pValue : List Str).zip us) :=
  match us, hl with | [_, _, _], _ => rfl
theorem b_draw (kV doc pm : Value) (an : Option Addr) (cdv ct : Value) (us : List Value) (hl : us.length = (pDraw : List Str).length) : bindArgs (PySem.W.fnOf "_law_draw" "_law_draw" (defArgs sDraw) (defBody sDraw) (defScope sDraw) .none kV doc pm an cdv ct) ⟨us, []⟩ = pure ((pDraw : List Str).zip us) :=
  match us, hl with | [_, _], _ => rfl
theorem b_pool (kV doc pm : Value) (an : Option Addr) (cdv ct : Value) (us : List Value) (hl : us.length = (["_law_script"] : List Str).length) : bindArgs (PySem.W.fnOf "_law_pool" "_law_pool" (defArgs sPool) (defBody sPool) (defScope sPool) .none kV doc pm an cdv ct) ⟨us, []⟩ = pure ((["_law_script"] : List Str).zip us) :=
  match us, hl with | [_], _ => rfl
theorem b_name (kV doc pm : Value) (an : Option Addr) (cdv ct : Value) (us : List Value) (hl : us.length = (["_law_pool_here", "_law_taken"] : List Str).length) : bindArgs (PySem.W.fnOf "_law_name" "_law_name" (defArgs sName) (defBody sName) (defScope sName) .none kV doc pm an cdv ct) ⟨us, []⟩ = pure ((["_law_pool_here", "_law_taken"] : List Str).zip us) :=
  match us, hl with | [_, _], _ => rfl
theorem b_names (kV doc pm : Value) (an : Option Addr) (cdv ct : Value) (us : List Value) (hl : us.length = (pNames : List Str).length) : bindArgs (PySem.W.fnOf "_law_names" "_law_names" (defArgs sNames) (defBody sNames) (defScope sNames) .none kV doc pm an cdv ct) ⟨us, []⟩ = pure ((pNames : List Str).zip us) :=
  match us, hl with | [_, _, _], _ => rfl
theorem b_row (kV doc pm : Value) (an : Option Addr) (cdv ct : Value) (us : List Value) (hl : us.length = (pRow : List Str).length) : bindArgs (PySem.W.fnOf "_law_row" "_law_row" (defArgs sRow) (defBody sRow) (defScope sRow) .none kV doc pm an cdv ct) ⟨us, []⟩ = pure ((pRow : List Str).zip us) :=
  match us, hl with | [_, _], _ => rfl
theorem b_leaf (kV doc pm : Value) (an : Option Addr) (cdv ct : Value) (us : List Value) (hl : us.length = (pLeaf : List Str).length) : bindArgs (PySem.W.fnOf "_law_leaf" "_law_leaf" (defArgs sLeaf) (defBody sLeaf) (defScope sLeaf) .none kV doc pm an cdv ct) ⟨us, []⟩ = pure ((pLeaf : List Str).zip us) :=
  match us, hl with | [_, _, _], _ => rfl
theorem b_grow (kV doc pm : Value) (an : Option Addr) (cdv ct : Value) (us : List Value) (hl : us.length = (pGrow : List Str).length) : bindArgs (PySem.W.fnOf "_law_grow" "_law_grow" (defArgs sGrow) (defBody sGrow) (defScope sGrow) .none kV doc pm an cdv ct) ⟨us, []⟩ = pure ((pGrow : List Str).zip us) :=
  match us, hl with | [_, _, _, _, _], _ => rfl
theorem b_expr (kV doc pm : Value) (an : Option Addr) (cdv ct : Value) (us : List Value) (hl : us.length = (pExpr : List Str).length) : bindArgs (PySem.W.fnOf "_law_expr" "_law_expr" (defArgs sExpr) (defBody sExpr) (defScope sExpr) .none kV doc pm an cdv ct) ⟨us, []⟩ = pure ((pExpr : List Str).zip us) :=
  match us, hl with | [_, _, _], _ => rfl
theorem b_size (kV doc pm : Value) (an : Option Addr) (cdv ct : Value) (us : List Value) (hl : us.length = (pOne : List Str).length) : bindArgs (PySem.W.fnOf "_law_size" "_law_size" (defArgs sSize) (defBody sSize) (defScope sSize) .none kV doc pm an cdv ct) ⟨us, []⟩ = pure ((pOne : List Str).zip us) :=
  match us, hl with | [_], _ => rfl
theorem b_deep (kV doc pm : Value) (an : Option Addr) (cdv ct : Value) (us : List Value) (hl : us.length = (pOne : List Str).length) : bindArgs (PySem.W.fnOf "_law_deep" "_law_deep" (defArgs sDeep) (defBody sDeep) (defScope sDeep) .none kV doc pm an cdv ct) ⟨us, []⟩ = pure ((pOne : List Str).zip us) :=
  match us, hl with | [_], _ => rfl
theorem b_used (kV doc pm : Value) (an : Option Addr) (cdv ct : Value) (us : List Value) (hl : us.length = (pOne : List Str).length) : bindArgs (PySem.W.fnOf "_law_used" "_law_used" (defArgs sUsed) (defBody sUsed) (defScope sUsed) .none kV doc pm an cdv ct) ⟨us, []⟩ = pure ((pOne : List Str).zip us) :=
  match us, hl with | [_], _ => rfl
theorem b_put (kV doc pm : Value) (an : Option Addr) (cdv ct : Value) (us : List Value) (hl : us.length = (pPut : List Str).length) : bindArgs (PySem.W.fnOf "_law_put_in" "_law_put_in" (defArgs sPut) (defBody sPut) (defScope sPut) .none kV doc pm an cdv ct) ⟨us, []⟩ = pure ((pPut : List Str).zip us) :=
  match us, hl with | [_, _, _], _ => rfl
theorem b_mrow (kV doc pm : Value) (an : Option Addr) (cdv ct : Value) (us : List Value) (hl : us.length = (pMRow : List Str).length) : bindArgs (PySem.W.fnOf "_law_moved_row" "_law_moved_row" (defArgs sMRow) (defBody sMRow) (defScope sMRow) .none kV doc pm an cdv ct) ⟨us, []⟩ = pure ((pMRow : List Str).zip us) :=
  match us, hl with | [_, _, _], _ => rfl
theorem b_moved (kV doc pm : Value) (an : Option Addr) (cdv ct : Value) (us : List Value) (hl : us.length = (pMoved : List Str).length) : bindArgs (PySem.W.fnOf "_law_moved" "_law_moved" (defArgs sMoved) (defBody sMoved) (defScope sMoved) .none kV doc pm an cdv ct) ⟨us, []⟩ = pure ((pMoved : List Str).zip us) :=
  match us, hl with | [_, _, _], _ => rfl
theorem b_order (kV doc pm : Value) (an : Option Addr) (cdv ct : Value) (us : List Value) (hl : us.length = (pOrder : List Str).length) : bindArgs (PySem.W.fnOf "_law_order" "_law_order" (defArgs sOrder) (defBody sOrder) (defScope sOrder) .none kV doc pm an cdv ct) ⟨us, []⟩ = pure ((pOrder : List Str).zip us) :=
  match us, hl with | [_, _], _ => rfl
theorem b_dicts (kV doc pm : Value) (an : Option Addr) (cdv ct : Value) (us : List Value) (hl : us.length = (pDicts : List Str).length) : bindArgs (PySem.W.fnOf "_law_dicts" "_law_dicts" (defArgs sDicts) (defBody sDicts) (defScope sDicts) .none kV doc pm an cdv ct) ⟨us, []⟩ = pure ((pDicts : List Str).zip us) :=
  match us, hl with | [_, _], _ => rfl
section
variable {P : Program} {w : World} {K : PySem.W.Frag} {mg : Str → Option Value} {base : Heap}
theorem wpath_of (Z : Top K mg) (B : Bi mg) (M : Co mg) : Has P w K mg base "wrong_path" 6 pWItem spWPath := by
  have isT := has_isT (P := P) (w := w) (base := base) Z.isT B
  have isN := has_isN (P := P) (w := w) (base := base) Z.isN B M
  have are := has_are (P := P) (w := w) (base := base) Z.are B isN
  have stN := has_stN (P := P) (w := w) (base := base) Z.stN M
  have steer := has_steer (P := P) (w := w) (base := base) Z.steer M stN
  have body := has_body (P := P) (w := w) (base := base) Z.body B M
  have child := has_child (P := P) (w := w) (base := base) Z.child body
  have first := has_first (P := P) (w := w) (base := base) Z.first B M isT (has_rpar Z.rpar isT are) (has_rst Z.rst B M isT) (has_rre Z.rre B M isT steer) (has_rask Z.rask M) (has_rmem Z.rmem M) (has_reff Z.reff M) (has_rgiv Z.rgiv M) (has_rpre Z.rpre M isT)
  exact has_wpath Z.wpath B isT are (has_wcell Z.wcell B isT) (has_wpart Z.wpart B M isT are) (has_witem Z.witem B first) (has_fits Z.fits B M child)
theorem calls_of {C fi : Addr} {fdi : FuncData} (Z : Top K mg) (B : Bi mg) (M : Co mg) (T : TxA K mg C) (mk : Mk K C fi) (F : Fun K "__init__" "App.__init__" sAInit fi fdi) (bi : Binds K fdi pAInit []) : Calls P w K mg base C fi fdi := by
  have draw := has_draw (P := P) (w := w) (base := base) Z.draw B
  have row := has_row (P := P) (w := w) (base := base) Z.row B draw
  have leaf := has_leaf (P := P) (w := w) (base := base) Z.leaf B draw
  have grow := has_grow (P := P) (w := w) (base := base) Z.grow B draw row leaf 4
  have mrow := has_mrow (P := P) (w := w) (base := base) Z.mrow B
  exact ⟨B, T, mk, ok_ainit F T (wpath_of Z B M), bi, has_pool Z.pool B, draw, has_names Z.names B (has_name Z.name B draw), leaf, grow, has_expr Z.expr B draw grow, has_size Z.size B 6, has_deep Z.deep B 6, has_used Z.used B 4, has_put Z.put B 4,
    has_moved Z.moved B mrow 6, has_order Z.order B draw, has_dicts Z.dicts B, has_value Z.value B T (has_eval Z.eval B 6)⟩
end
theorem all_mk {l : PySem.W.OpenLaw} {w : World} {K : PySem.W.Frag} {h : Heap} {mg : Str → Option Value} {fa C f1 f4 : Addr} (X : K.In h) (G : h.Ns mainGlobals mg) (hfa : mg "law" = some (.ref fa)) (Z : Top K mg) (B : Bi mg) (M : Co mg)
    {od1 an1 od4 an4 : Option Addr} {sl1 sl4 : Array (Option Value)} {oc1 kV1 dc1 pm1 cd1 ct1 oc4 kV4 dc4 pm4 cd4 ct4 : Value}
    (aC : PySem.W.nsIn K mainGlobals "App" = some (some (.ref C)))
    (a1 : PySem.W.findIn K (.ref C) "__init__" = some (some (.ref f1))) (i1 : PySem.W.isFn K (.ref f1) = true) (l1 : K.lookup f1 = some ⟨oc1, od1, .func (PySem.W.fnOf "__init__" "App.__init__" (defArgs sAInit) (defBody sAInit) (defScope sAInit) .none kV1 dc1 pm1 an1 cd1 ct1), sl1⟩) (c1 : PySem.W.codeIn K cd1 "App.__init__" = true) (k1 : PySem.W.keepIn K (.ref f1) = true)
    (a4 : PySem.W.nsIn K mainGlobals "law" = some (some (.ref f4))) (l4 : K.lookup f4 = some ⟨oc4, od4, .func (PySem.W.fnOf "law" "law" (defArgs sLaw) (defBody sLaw) (defScope sLaw) .none kV4 dc4 pm4 an4 cd4 ct4), sl4⟩) (c4 : PySem.W.codeIn K cd4 "law" = true) (k4 : PySem.W.keepIn K (.ref f4) = true)
    (pg : PySem.W.plainGet K C Str.empty = true) (hd : PySem.W.hasDictIn K C = true) (po : PySem.W.plainOver K C = true) (sa : PySem.W.findIn K (.ref C) "__setattr__" = some (some (.builtin "object.__setattr__"))) (mk : PySem.W.makesIn K C = true) (kc : PySem.W.keepIn K (.ref C) = true)
    (nW : PySem.W.findIn K (.ref C) "words" = some none) (nC : PySem.W.findIn K (.ref C) "cells" = some none) (nP : PySem.W.findIn K (.ref C) "parts" = some none) :
    ∃ fd : FuncData, (∀ (s : Shared) (v : Value), BindsTo s fd ⟨[v], []⟩ [("_law_script", v)]) ∧ ∀ base : Heap, K.In base → base.Ns mainGlobals mg → FnOk l.prog w K mg base CX0 9 fa fd ["_law_script"] (spLaw K) := by
  have e := hfa.symm.trans (PySem.W.mg_of X G a4)
  cases e
  have T : TxA K mg C := ⟨⟨pg, hd, po, sa⟩, nW, nC, nP, PySem.W.mg_of X G aC⟩
  have F1 := fun_mk (st := sAInit) l1 c1 k1
  have b1 := F1.binds (ps := pAInit) fun _ _ _ _ _ _ us hl => match us, hl with | [_, _, _, _], _ => rfl
  exact ⟨PySem.W.fnOf "law" "law" (defArgs sLaw) (defBody sLaw) (defScope sLaw) .none kV4 dc4 pm4 an4 cd4 ct4, fun s v => .of_eq rfl, fun base _ _ =>
    ok_law (fun_mk (st := sLaw) l4 c4 k4) (calls_of Z B M T ⟨mk, a1, i1, kc⟩ F1 b1)⟩
theorem walk {l : PySem.W.OpenLaw} {q : Program} {loose : List Str} {XP : (Str → Option Value) → Heap → Prop} {YP : World → Heap → Prop} {d : DefRec} {K : Params → PySem.W.Frag} (hn : l.most = some 63) (hdf : d.params.defaults = [])
    (hY : ∀ (w : World) (h : Heap), YP w h → (K w.params).In h)
    (F : ∀ (w : World) (mg : Str → Option Value) (fa : Addr) (h : Heap), (K w.params).In h → h.Ns mainGlobals mg → mg d.name = some (.ref fa) →
      ∃ fd : FuncData, (∀ (s : Shared) (u : Value), BindsTo s fd ⟨[u], []⟩ [("_law_script", u)]) ∧ ∀ base : Heap, (K w.params).In base → base.Ns mainGlobals mg → FnOk l.prog w (K w.params) mg base CX0 9 fa fd ["_law_script"] (spLaw (K w.params))) :
    PySem.W.WalkO q loose XP YP l.row.toRowW d [] (fun f vs => PySem.call f vs) :=
  L2.walk_of (n := 63) (k := 9) (x := "_law_script") (CX := fun _ => CX0) (sp := fun w => spLaw (K w.params)) hn (by decide) hdf ⟨rfl, by decide, by decide⟩ hY F (fun _ _ a ns hl _ hS => ⟨a, ns, rfl, hS, fun _ => rfl⟩) fun _ _ _ _ _ z => z
end K2
open PySem PySem.W PyProof.Rows
set_option maxRecDepth 100000 in
set_option maxHeartbeats 0 in
theorem PySem.Challenge.cw_drawnwhole_k02_whole_expressions_put_in_holds : PySem.Challenge.rw_drawnwhole_k02_whole_expressions_put_in.Holds := by
  w_on; o_law; k_head; (case hw => w_witness2)
  k_fill
  refine K2.walk (l := PySem.Challenge.rw_drawnwhole_k02_whole_expressions_put_in) rfl rfl (fun w h Y => PySem.W.kIn_of Y) ?F
  case F =>
    intro w mg fa h KX G hmg
    refine' K2.all_mk KX G hmg ?q_Z ?q_B ?q_M ?q_aC ?q_a1 ?q_i1 ?q_l1 ?q_c1 ?q_k1 ?q_a4 ?q_l4 ?q_c4 ?q_k4 ?q_pg ?q_hd ?q_po ?q_sa ?q_mk ?q_kc ?q_nW ?q_nC ?q_nP
    case q_Z =>
      refine' ⟨?t_isN, ?t_eval, ?t_stN, ?t_steer, ?t_body, ?t_child, ?t_isT, ?t_are, ?t_wpath, ?t_wcell, ?t_wpart, ?t_witem, ?t_first, ?t_rpar, ?t_rst, ?t_rre, ?t_rask, ?t_rmem, ?t_reff, ?t_rgiv, ?t_rpre, ?t_fits, ?t_value, ?t_draw, ?t_pool, ?t_name, ?t_names, ?t_row, ?t_leaf, ?t_grow, ?t_expr, ?t_size, ?t_deep, ?t_used, ?t_put, ?t_mrow, ?t_moved, ?t_order, ?t_dicts⟩
      case t_isN => (refine' K2.td_mk KX G K2.b_isN ?x_a ?x_l ?x_c ?x_k; (case x_a => k_is); (case x_l => k_is); (case x_c => k_is); (case x_k => k_is))
      case t_eval => (refine' K2.td_mk KX G K2.b_eval ?x_a ?x_l ?x_c ?x_k; (case x_a => k_is); (case x_l => k_is); (case x_c => k_is); (case x_k => k_is))
      case t_stN => (refine' K2.td_mk KX G K2.b_stN ?x_a ?x_l ?x_c ?x_k; (case x_a => k_is); (case x_l => k_is); (case x_c => k_is); (case x_k => k_is))
      case t_steer => (refine' K2.td_mk KX G K2.b_steer ?x_a ?x_l ?x_c ?x_k; (case x_a => k_is); (case x_l => k_is); (case x_c => k_is); (case x_k => k_is))
      case t_body => (refine' K2.td_mk KX G K2.b_body ?x_a ?x_l ?x_c ?x_k; (case x_a => k_is); (case x_l => k_is); (case x_c => k_is); (case x_k => k_is))
      case t_child => (refine' K2.td_mk KX G K2.b_child ?x_a ?x_l ?x_c ?x_k; (case x_a => k_is); (case x_l => k_is); (case x_c => k_is); (case x_k => k_is))
      case t_isT => (refine' K2.td_mk KX G K2.b_isT ?x_a ?x_l ?x_c ?x_k; (case x_a => k_is); (case x_l => k_is); (case x_c => k_is); (case x_k => k_is))
      case t_are => (refine' K2.td_mk KX G K2.b_are ?x_a ?x_l ?x_c ?x_k; (case x_a => k_is); (case x_l => k_is); (case x_c => k_is); (case x_k => k_is))
      case t_wpath => (refine' K2.td_mk KX G K2.b_wpath ?x_a ?x_l ?x_c ?x_k; (case x_a => k_is); (case x_l => k_is); (case x_c => k_is); (case x_k => k_is))
      case t_wcell => (refine' K2.td_mk KX G K2.b_wcell ?x_a ?x_l ?x_c ?x_k; (case x_a => k_is); (case x_l => k_is); (case x_c => k_is); (case x_k => k_is))
      case t_wpart => (refine' K2.td_mk KX G K2.b_wpart ?x_a ?x_l ?x_c ?x_k; (case x_a => k_is); (case x_l => k_is); (case x_c => k_is); (case x_k => k_is))
      case t_witem => (refine' K2.td_mk KX G K2.b_witem ?x_a ?x_l ?x_c ?x_k; (case x_a => k_is); (case x_l => k_is); (case x_c => k_is); (case x_k => k_is))
      case t_first => (refine' K2.td_mk KX G K2.b_first ?x_a ?x_l ?x_c ?x_k; (case x_a => k_is); (case x_l => k_is); (case x_c => k_is); (case x_k => k_is))
      case t_rpar => (refine' K2.td_mk KX G K2.b_rpar ?x_a ?x_l ?x_c ?x_k; (case x_a => k_is); (case x_l => k_is); (case x_c => k_is); (case x_k => k_is))
      case t_rst => (refine' K2.td_mk KX G K2.b_rst ?x_a ?x_l ?x_c ?x_k; (case x_a => k_is); (case x_l => k_is); (case x_c => k_is); (case x_k => k_is))
      case t_rre => (refine' K2.td_mk KX G K2.b_rre ?x_a ?x_l ?x_c ?x_k; (case x_a => k_is); (case x_l => k_is); (case x_c => k_is); (case x_k => k_is))
      case t_rask => (refine' K2.td_mk KX G K2.b_rask ?x_a ?x_l ?x_c ?x_k; (case x_a => k_is); (case x_l => k_is); (case x_c => k_is); (case x_k => k_is))
      case t_rmem => (refine' K2.td_mk KX G K2.b_rmem ?x_a ?x_l ?x_c ?x_k; (case x_a => k_is); (case x_l => k_is); (case x_c => k_is); (case x_k => k_is))
      case t_reff => (refine' K2.td_mk KX G K2.b_reff ?x_a ?x_l ?x_c ?x_k; (case x_a => k_is); (case x_l => k_is); (case x_c => k_is); (case x_k => k_is))
      case t_rgiv => (refine' K2.td_mk KX G K2.b_rgiv ?x_a ?x_l ?x_c ?x_k; (case x_a => k_is); (case x_l => k_is); (case x_c => k_is); (case x_k => k_is))
      case t_rpre => (refine' K2.td_mk KX G K2.b_rpre ?x_a ?x_l ?x_c ?x_k; (case x_a => k_is); (case x_l => k_is); (case x_c => k_is); (case x_k => k_is))
      case t_fits => (refine' K2.td_mk KX G K2.b_fits ?x_a ?x_l ?x_c ?x_k; (case x_a => k_is); (case x_l => k_is); (case x_c => k_is); (case x_k => k_is))
      case t_value => (refine' K2.td_mk KX G K2.b_value ?x_a ?x_l ?x_c ?x_k; (case x_a => k_is); (case x_l => k_is); (case x_c => k_is); (case x_k => k_is))
      case t_draw => (refine' K2.td_mk KX G K2.b_draw ?x_a ?x_l ?x_c ?x_k; (case x_a => k_is); (case x_l => k_is); (case x_c => k_is); (case x_k => k_is))
      case t_pool => (refine' K2.td_mk KX G K2.b_pool ?x_a ?x_l ?x_c ?x_k; (case x_a => k_is); (case x_l => k_is); (case x_c => k_is); (case x_k => k_is))
      case t_name => (refine' K2.td_mk KX G K2.b_name ?x_a ?x_l ?x_c ?x_k; (case x_a => k_is); (case x_l => k_is); (case x_c => k_is); (case x_k => k_is))
      case t_names => (refine' K2.td_mk KX G K2.b_names ?x_a ?x_l ?x_c ?x_k; (case x_a => k_is); (case x_l => k_is); (case x_c => k_is); (case x_k => k_is))
      case t_row => (refine' K2.td_mk KX G K2.b_row ?x_a ?x_l ?x_c ?x_k; (case x_a => k_is); (case x_l => k_is); (case x_c => k_is); (case x_k => k_is))
      case t_leaf => (refine' K2.td_mk KX G K2.b_leaf ?x_a ?x_l ?x_c ?x_k; (case x_a => k_is); (case x_l => k_is); (case x_c => k_is); (case x_k => k_is))
      case t_grow => (refine' K2.td_mk KX G K2.b_grow ?x_a ?x_l ?x_c ?x_k; (case x_a => k_is); (case x_l => k_is); (case x_c => k_is); (case x_k => k_is))
      case t_expr => (refine' K2.td_mk KX G K2.b_expr ?x_a ?x_l ?x_c ?x_k; (case x_a => k_is); (case x_l => k_is); (case x_c => k_is); (case x_k => k_is))
      case t_size => (refine' K2.td_mk KX G K2.b_size ?x_a ?x_l ?x_c ?x_k; (case x_a => k_is); (case x_l => k_is); (case x_c => k_is); (case x_k => k_is))
      case t_deep => (refine' K2.td_mk KX G K2.b_deep ?x_a ?x_l ?x_c ?x_k; (case x_a => k_is); (case x_l => k_is); (case x_c => k_is); (case x_k => k_is))
      case t_used => (refine' K2.td_mk KX G K2.b_used ?x_a ?x_l ?x_c ?x_k; (case x_a => k_is); (case x_l => k_is); (case x_c => k_is); (case x_k => k_is))
      case t_put => (refine' K2.td_mk KX G K2.b_put ?x_a ?x_l ?x_c ?x_k; (case x_a => k_is); (case x_l => k_is); (case x_c => k_is); (case x_k => k_is))
      case t_mrow => (refine' K2.td_mk KX G K2.b_mrow ?x_a ?x_l ?x_c ?x_k; (case x_a => k_is); (case x_l => k_is); (case x_c => k_is); (case x_k => k_is))
      case t_moved => (refine' K2.td_mk KX G K2.b_moved ?x_a ?x_l ?x_c ?x_k; (case x_a => k_is); (case x_l => k_is); (case x_c => k_is); (case x_k => k_is))
      case t_order => (refine' K2.td_mk KX G K2.b_order ?x_a ?x_l ?x_c ?x_k; (case x_a => k_is); (case x_l => k_is); (case x_c => k_is); (case x_k => k_is))
      case t_dicts => (refine' K2.td_mk KX G K2.b_dicts ?x_a ?x_l ?x_c ?x_k; (case x_a => k_is); (case x_l => k_is); (case x_c => k_is); (case x_k => k_is))
    case q_B =>
      refine' ⟨?b_len, ?b_tuple, ?b_list, ?b_int, ?b_str, ?b_abs, ?b_max, ?b_sum, ?b_all, ?b_range, ?b_enumerate, ?b_isinstance⟩
      case b_len => (refine' PySem.W.mg_none_of KX G ?x_a; (case x_a => k_is))
      case b_tuple => (refine' PySem.W.mg_none_of KX G ?x_a; (case x_a => k_is))
      case b_list => (refine' PySem.W.mg_none_of KX G ?x_a; (case x_a => k_is))
      case b_int => (refine' PySem.W.mg_none_of KX G ?x_a; (case x_a => k_is))
      case b_str => (refine' PySem.W.mg_none_of KX G ?x_a; (case x_a => k_is))
      case b_abs => (refine' PySem.W.mg_none_of KX G ?x_a; (case x_a => k_is))
      case b_max => (refine' PySem.W.mg_none_of KX G ?x_a; (case x_a => k_is))
      case b_sum => (refine' PySem.W.mg_none_of KX G ?x_a; (case x_a => k_is))
      case b_all => (refine' PySem.W.mg_none_of KX G ?x_a; (case x_a => k_is))
      case b_range => (refine' PySem.W.mg_none_of KX G ?x_a; (case x_a => k_is))
      case b_enumerate => (refine' PySem.W.mg_none_of KX G ?x_a; (case x_a => k_is))
      case b_isinstance => (refine' PySem.W.mg_none_of KX G ?x_a; (case x_a => k_is))
    case q_M =>
      refine' ⟨?c_name, ?c_params, ?c_states, ?c_reads, ?c_ask, ?c_memo, ?c_effect, ?c_give, ?c_presses, ?c_body, ?c_places, ?c_mstates, ?c_longest, ?c_letters⟩
      case c_name => (refine' K2.int_mk KX G ?x_a; (case x_a => k_is))
      case c_params => (refine' K2.int_mk KX G ?x_a; (case x_a => k_is))
      case c_states => (refine' K2.int_mk KX G ?x_a; (case x_a => k_is))
      case c_reads => (refine' K2.int_mk KX G ?x_a; (case x_a => k_is))
      case c_ask => (refine' K2.int_mk KX G ?x_a; (case x_a => k_is))
      case c_memo => (refine' K2.int_mk KX G ?x_a; (case x_a => k_is))
      case c_effect => (refine' K2.int_mk KX G ?x_a; (case x_a => k_is))
      case c_give => (refine' K2.int_mk KX G ?x_a; (case x_a => k_is))
      case c_presses => (refine' K2.int_mk KX G ?x_a; (case x_a => k_is))
      case c_body => (refine' K2.int_mk KX G ?x_a; (case x_a => k_is))
      case c_places => (refine' K2.int_mk KX G ?x_a; (case x_a => k_is))
      case c_mstates => (refine' K2.int_mk KX G ?x_a; (case x_a => k_is))
      case c_longest => (refine' K2.int_mk KX G ?x_a; (case x_a => k_is))
      case c_letters => (refine' K2.str_mk KX G ?x_a; (case x_a => k_is))
    (case q_aC => k_is)
    (case q_a1 => k_is)
    (case q_i1 => k_is)
    (case q_l1 => k_is)
    (case q_c1 => k_is)
    (case q_k1 => k_is)
    (case q_a4 => k_is)
    (case q_l4 => k_is)
    (case q_c4 => k_is)
    (case q_k4 => k_is)
    (case q_pg => k_is)
    (case q_hd => k_is)
    (case q_po => k_is)
    (case q_sa => k_is)
    (case q_mk => k_is)
    (case q_kc => k_is)
    (case q_nW => k_is)
    (case q_nC => k_is)
    (case q_nP => k_is)
#print axioms PySem.Challenge.cw_drawnwhole_k02_whole_expressions_put_in_holds
