import PyProof.Rows.All
import Wide.All
import OpenK.AllK
import Wide.FinOn
import PySem.Challenge.RW_xm0714_01
set_option Elab.async false

section
open PySem PySem.W PyProof.Rows
set_option Elab.async false
set_option maxRecDepth 100000
set_option maxHeartbeats 8000000
namespace Mine
open_top hd for PySem.Challenge.rw_xm0714_01
end Mine
end

section
open PySem PySem.W PyProof.Rows
set_option Elab.async false
set_option maxRecDepth 100000
set_option maxHeartbeats 8000000
namespace Mine
def Spec (w : World) (f : Addr) (dd uu : Nat) (vs : List Value) (news : List (Addr × Obj)) (Post : Value → List (Addr × Obj) → Prop) : Prop :=
  ∀ (mean : ExcName → Option Value) (mg mb : PySem.Str → Option Value) (dp un : Nat) (gd : Option (List Code)) (cn : PySem.Str) (cs : Scope) (a : Addr) (ccd : Value) (cl : List (PySem.Str × Addr)) (outer : List Env) (A₀ : Around) (base h₀ : Heap) (L : Addr) (m : PySem.Str → Option Value) (s : Shared) (Q E : Value → Shared → Prop),
    Below A₀ base outer h₀ → Fr h₀ L s.heap m → (hd.heap_39 w.params).In h₀ → News h₀ L s.heap news → Top hd.view_39 (looseW hd.view_39 []) mean mg mb h₀ → cs.kind = .function →
    dp + dd < recursionLimit → un + uu < cLine →
    (∀ v h' tk' news', Fr h₀ L h' m → News h₀ L h' news' → Post v news' → Q v { s with heap := h', toks := tk' }) →
    wpAny (model PySem.Challenge.rw_xm0714_01.row.prog w) (ktrTop dp un gd cn cs L a ccd cl outer) (call (.ref f) vs) Q E s

theorem spec_use {w : World} {f : Addr} {dd uu : Nat} {vs : List Value} {news : List (Addr × Obj)} {Post : Value → List (Addr × Obj) → Prop}
    {mean : ExcName → Option Value} {mg mb : PySem.Str → Option Value} {dp un : Nat} {gd : Option (List Code)} {cn : PySem.Str} {cs : Scope} {a : Addr} {ccd : Value} {cl : List (PySem.Str × Addr)} {outer : List Env} {A₀ : Around} {base h₀ : Heap} {L : Addr} {m : PySem.Str → Option Value} {s : Shared} {Q E : Value → Shared → Prop}
    (S : Spec w f dd uu vs news Post)
    (B : Below A₀ base outer h₀) (F : Fr h₀ L s.heap m) (X : (hd.heap_39 w.params).In h₀) (N : News h₀ L s.heap news) (T : Top hd.view_39 (looseW hd.view_39 []) mean mg mb h₀) (hk : cs.kind = .function)
    (hdp : dp + dd < recursionLimit) (hun : un + uu < cLine)
    (ret : ∀ v h' tk' news', Fr h₀ L h' m → News h₀ L h' news' → Post v news' → Q v { s with heap := h', toks := tk' }) :
    wpAny (model PySem.Challenge.rw_xm0714_01.row.prog w) (ktrTop dp un gd cn cs L a ccd cl outer) (call (.ref f) vs) Q E s :=
  S mean mg mb dp un gd cn cs a ccd cl outer A₀ base h₀ L m s Q E B F X N T hk hdp hun ret

/-- the two octets of a number -/
def octs (n : Int) : List Int := [(n.fdiv 256).fmod 256, n.fmod 256]
theorem octet_nat {x : Int} (h0 : 0 ≤ x) (h1 : x < 256) : (x.toNat.toUInt8.toNat : Int) = x := by
  have : x.toNat.toUInt8.toNat = x.toNat := by
    show x.toNat % 256 = x.toNat
    exact Nat.mod_eq_of_lt (by omega)
  rw [this]; omega
theorem octs_ints (n : Int) : KBw.bInts #[((n.fdiv 256).fmod 256).toNat.toUInt8, (n.fmod 256).toNat.toUInt8] = octs n := by
  show [((((n.fdiv 256).fmod 256).toNat.toUInt8.toNat : Nat) : Int), (((n.fmod 256).toNat.toUInt8.toNat : Nat) : Int)] = _
  rw [octet_nat (Int.fmod_nonneg_of_pos _ (by decide)) (Int.fmod_lt_of_pos _ (by decide)), octet_nat (Int.fmod_nonneg_of_pos _ (by decide)) (Int.fmod_lt_of_pos _ (by decide))]
  rfl
def octL (ws : List Int) : List Int := (ws.map octs).flatten
theorem octL_nil : octL [] = [] := rfl
theorem octL_append (a b : List Int) : octL (a ++ b) = octL a ++ octL b := by simp [octL]
theorem octL_one (a : Int) : octL [a] = octs a := by simp [octL]
theorem octL_len (ws : List Int) : (octL ws).length = 2 * ws.length := by
  induction ws with
  | nil => rfl
  | cons a r ih =>
    have : octL (a :: r) = octs a ++ octL r := rfl
    rw [this, List.length_append, ih, List.length_cons]
    show 2 + 2 * r.length = _
    omega
theorem fm_nil {α : Type} {P : α → Prop} : ∀ p ∈ ([] : List α), P p := fun _ h => nomatch h
theorem fm_cons {α : Type} {P : α → Prop} {a : α} {l : List α} (h : P a) (t : ∀ p ∈ l, P p) : ∀ p ∈ a :: l, P p := List.forall_mem_cons.mpr ⟨h, t⟩
theorem fm_app {α : Type} {P : α → Prop} {l r : List α} (h : ∀ p ∈ l, P p) (t : ∀ p ∈ r, P p) : ∀ p ∈ l ++ r, P p := List.forall_mem_append.mpr ⟨h, t⟩
theorem to_nat0 {i : Nat} : (0 + (i : Int)).toNat = i := by omega
theorem rn_bnd {a b : Int} {rn m : Nat} (h : rn = (b + 1 - a).toNat) (h1 : a ≤ b) (h2 : b - a + 1 ≤ m) (h3 : m ≤ 16) : 1 ≤ rn ∧ rn ≤ 16 := by omega
theorem sl_sub {α : Type} {a b : List α} (h : a.Sublist b) : ∀ p ∈ a, p ∈ b := fun _ hp => h.subset hp
theorem cl1 {a : Nat} : a < a + 1 := Nat.lt_succ_self _
theorem cl2 {a : Nat} : a < a + 1 + 1 := Nat.lt_succ_of_lt cl1
theorem cl3 {a : Nat} : a < a + 1 + 1 + 1 := Nat.lt_succ_of_lt cl2
theorem cl4 {a : Nat} : a < a + 1 + 1 + 1 + 1 := Nat.lt_succ_of_lt cl3
theorem cl5 {a : Nat} : a < a + 1 + 1 + 1 + 1 + 1 := Nat.lt_succ_of_lt cl4
theorem cl6 {a : Nat} : a < a + 1 + 1 + 1 + 1 + 1 + 1 := Nat.lt_succ_of_lt cl5
theorem cl7 {a : Nat} : a < a + 1 + 1 + 1 + 1 + 1 + 1 + 1 := Nat.lt_succ_of_lt cl6
theorem cn1 {a : Nat} : a ≠ a + 1 := Nat.ne_of_lt cl1
theorem cn2 {a : Nat} : a ≠ a + 1 + 1 := Nat.ne_of_lt cl2
theorem cn3 {a : Nat} : a ≠ a + 1 + 1 + 1 := Nat.ne_of_lt cl3
theorem cn4 {a : Nat} : a ≠ a + 1 + 1 + 1 + 1 := Nat.ne_of_lt cl4
theorem cn5 {a : Nat} : a ≠ a + 1 + 1 + 1 + 1 + 1 := Nat.ne_of_lt cl5
theorem cn6 {a : Nat} : a ≠ a + 1 + 1 + 1 + 1 + 1 + 1 := Nat.ne_of_lt cl6
theorem cm1 {a : Nat} : a + 1 ≠ a := Ne.symm cn1
theorem cm2 {a : Nat} : a + 1 + 1 ≠ a := Ne.symm cn2
theorem cm3 {a : Nat} : a + 1 + 1 + 1 ≠ a := Ne.symm cn3
theorem cm4 {a : Nat} : a + 1 + 1 + 1 + 1 ≠ a := Ne.symm cn4
theorem cm5 {a : Nat} : a + 1 + 1 + 1 + 1 + 1 ≠ a := Ne.symm cn5
theorem cm6 {a : Nat} : a + 1 + 1 + 1 + 1 + 1 + 1 ≠ a := Ne.symm cn6
theorem le_mil {x y a b : Nat} (hx : x ≤ a) (hy : y ≤ b) (h : a + b ≤ 1000000) : x + y ≤ 1000000 := Nat.le_trans (Nat.add_le_add hx hy) h
theorem la_app {α : Type} {x y : List α} {a b : Nat} (hx : x.length ≤ a) (hy : y.length ≤ b) : (x ++ y).length ≤ a + b := by rw [List.length_append]; exact Nat.add_le_add hx hy
def Stop (P : Prop) : Prop := P
theorem Stop.mk {P : Prop} (h : Stop P) : P := h
theorem Stop.out {P : Prop} (h : P) : Stop P := h
section
variable {prog : Program} {w : World} {A : Around} {E : Value → Shared → Prop} {s : Shared} {h₀ : Heap} {L l : Addr} {news : List (Addr × Obj)} {vs : List Value} {n : Nat}
theorem m_len {Q : Value → Shared → Prop} (N : News h₀ L s.heap news) (hm : (l, W.listOf vs.toArray n) ∈ news) (hb : vs.length ≤ 1000000)
    (h : ∀ t, Q (.int vs.length t) { s with toks := s.toks + 1 + 1 }) : wpAny (model prog w) A (call (.builtin "len") [.ref l]) Q E s :=
  PyProof.Rows.len_list (N.isList hm) (by simp only [List.size_toArray]; omega) (by simp only [List.size_toArray]; exact h _)
theorem m_item {value slice : PySem.Expr} {k : Int} {u : Tok} {x : Value} {Q : Value → Shared → Prop} (N : News h₀ L s.heap news) (hm : (l, W.listOf vs.toArray n) ∈ news)
    (h0 : 0 ≤ k) (hfit : k < 1000000) (hx : vs[k.toNat]? = some x) (h : Q x s)
    (hs : subscripted slice false (.ref l) (.int k u) = operate [.ref l, .int k u] (getItem (.ref l) (.int k u)) := by with_unfolding_all rfl) (hg : ∀ r, letTemporaryGo value (.ref l) r = pure () := by intro _; with_unfolding_all rfl) :
    wpAny (model prog w) A (subscriptTail value slice (.ref l) (.int k u)) Q E s :=
  item_listL (N.isList hm) h0 (by omega) hx h hs hg
theorem news_sub {h : Heap} {news rest : List (Addr × Obj)} (N : News h₀ L h news) (hr : ∀ p ∈ rest, p ∈ news) : News h₀ L h rest := fun p hp => N p (hr p hp)
theorem m_append {m : PySem.Str → Option Value} {v : Value} {rest : List (Addr × Obj)} {Q : Value → Shared → Prop} (F : Fr h₀ L s.heap m) (N : News h₀ L s.heap news) (hm : (l, W.listOf vs.toArray n) ∈ news)
    (hr : ∀ p ∈ rest, p ∈ news ∧ p.1 ≠ l) (hsz : vs.length ≤ 1000000)
    (h : ∀ h', Fr h₀ L h' m → News h₀ L h' ((l, W.listOf (vs ++ [v]).toArray (n + 1)) :: rest) → Q .none { s with heap := h' }) :
    wpAny (model prog w) A (call (.builtin "list.append") [.ref l, v]) Q E s := by
  have z := N _ hm
  refine PyProof.Rows.append_at z.1 (fun h' hs hD => h h' (F.change hs z.2.1 z.2.2) fun p hp => ?_) (by rw [sizeLine_eq, List.size_toArray]; omega)
  rcases List.mem_cons.mp hp with rfl | hp
  · exact ⟨by rw [hD]; simp [W.listOf], z.2⟩
  · have y := hr p hp
    exact ⟨(hs.2 p.1 y.2).trans (N p y.1).1, (N p y.1).2⟩
theorem ki_last {ws : List Value} {x v : Value} : ki_setL (ws ++ [x]) ws.length v = some (ws ++ [v]) := by
  induction ws with
  | nil => rfl
  | cons a r ih => simp only [List.cons_append, List.length_cons, ki_setL, ih]
theorem m_setLast {m : PySem.Str → Option Value} {ws : List Value} {x v : Value} {t : Tok} {rest : List (Addr × Obj)} {Q : Unit → Shared → Prop} (F : Fr h₀ L s.heap m) (N : News h₀ L s.heap news) (hm : (l, W.listOf (ws ++ [x]).toArray n) ∈ news)
    (hr : ∀ p ∈ rest, p ∈ news ∧ p.1 ≠ l)
    (h : ∀ h', Fr h₀ L h' m → News h₀ L h' ((l, W.listOf (ws ++ [v]).toArray n) :: rest) → Q () { s with heap := h' }) :
    wpAny (model prog w) A (setItem (.ref l) (.int (-1) t) v) Q E s := by
  have N2 : News h₀ L s.heap ((l, W.listOf (ws ++ [x]).toArray n) :: rest) := fun p hp => by
    rcases List.mem_cons.mp hp with rfl | hp
    · exact N _ hm
    · exact N _ (hr p hp).1
  refine ki_setNeg (j := ws.length) (q := ws ++ [v]) F N2 (by decide) (by decide) ?_ (by simpa using ki_last) (Upd.head fun p hp => (hr p hp).2) h
  rw [PySem.seqIndex_neg (by decide) (by simp only [List.size_toArray, List.length_append, List.length_singleton]; omega)]
  simp only [List.size_toArray, List.length_append, List.length_singleton]
  congr 1
  omega
theorem m_last {value slice : PySem.Expr} {t : Tok} {ws : List Value} {x : Value} {Q : Value → Shared → Prop} (N : News h₀ L s.heap news) (hm : (l, W.listOf (ws ++ [x]).toArray n) ∈ news) (hsz : ws.length ≤ 1000000) (h : Q x s)
    (hs : subscripted slice false (.ref l) (.int (-1) t) = operate [.ref l, .int (-1) t] (getItem (.ref l) (.int (-1) t)) := by with_unfolding_all rfl) :
    wpAny (model prog w) A (subscriptTail value slice (.ref l) (.int (-1) t)) Q E s := by
  have hl := N.isList hm
  refine tail_any hl.typeIs slot_list_getitem.lookup (wpAny_getItem_list_neg (x := x) hl (by decide) (by simp only [List.size_toArray, List.length_append, List.length_singleton]; omega) (by decide) ?_ h) hs
  simp only [List.size_toArray, List.length_append, List.length_singleton]
  have e : ((-1 : Int) + ((ws.length + 1 : Nat) : Int)).toNat = ws.length := by omega
  rw [e]
  simp
theorem allLt_mem {d : Addr} {l : List (Addr × Obj)} (h : AllLt d l) {p : Addr × Obj} (hp : p ∈ l) : p.1 < d := by
  induction l with
  | nil => cases hp
  | cons q r ih =>
    obtain ⟨h1, h2⟩ := h
    rcases List.mem_cons.mp hp with e | hp
    · rw [e]; exact h1
    · exact ih h2 hp
theorem allLt_ne {d : Addr} {l : List (Addr × Obj)} (h : AllLt d l) {p : Addr × Obj} (hp : p ∈ l) : p.1 ≠ d := Nat.ne_of_lt (allLt_mem h hp)
abbrev tup2 (x y : Value) (n : Nat) : Obj := { cls := .type "tuple", data := .seq #[x, y] n }
/-- a pair as a datum -/
def pd (p : Int × Int) : Dat := Dat.tuple [Dat.int p.1, Dat.int p.2]
theorem pd_inv {news : List (Addr × Obj)} {v : Value} {p : Int × Int} (h : DatIn news v (pd p)) : ∃ a x y n, v = .ref a ∧ (a, tup2 (.int p.1 x) (.int p.2 y) n) ∈ news := by
  cases h with
  | tuple hm r =>
    cases r with
    | cons h1 r =>
      cases r with
      | cons h2 r =>
        cases r
        cases h1
        cases h2
        exact ⟨_, _, _, _, rfl, hm⟩
theorem pd_mk {news : List (Addr × Obj)} {a : Addr} {p : Int × Int} {x y : Tok} {n : Nat} (h : (a, tup2 (.int p.1 x) (.int p.2 y) n) ∈ news) : DatIn news (.ref a) (pd p) :=
  DatIn.tuple (vs := [.int p.1 x, .int p.2 y]) h (.cons (.int _ _) (.cons (.int _ _) .nil))
theorem dat_snoc {news : List (Addr × Obj)} {vs : List Value} {ds : List Dat} {d : Dat} (h : DatAll news vs (ds ++ [d])) : ∃ ws v, vs = ws ++ [v] ∧ DatAll news ws ds ∧ DatIn news v d := by
  rcases List.eq_nil_or_concat vs with rfl | ⟨ws, v, rfl⟩
  · have := h.length; simp at this
  · rw [List.concat_eq_append] at h ⊢
    obtain ⟨es, e, he, h1, h2⟩ := h.snoc
    obtain ⟨h5, h6⟩ := List.append_inj' he rfl
    subst h5
    obtain rfl : d = e := by simpa using h6
    exact ⟨ws, v, rfl, h1, h2⟩
theorem ints_get {vs : List Value} {ns : List Int} (h : IntsAre vs ns) {i : Nat} (hi : i < ns.length) : ∃ t, vs[i]? = some (.int (ns[i]'hi) t) := h.get i _ (List.getElem?_eq_getElem hi)
end
end Mine
end

section
open PySem PySem.W PyProof.Rows
set_option Elab.async false
set_option maxRecDepth 100000
set_option maxHeartbeats 8000000
namespace Mine
theorem put16_spec (w : World) (n : Int) (t : Tok) (news : List (Addr × Obj)) : Spec w 53 1 8 [.int n t] news (fun v news' => news' = news ∧ ∃ b tk, v = .bytes b tk ∧ KBw.bInts b = octs n) := by
  unfold Spec
  w_top off
  k_fill
  intro mean mg mb dp un gd cn cs a ccd cl outer A₀ base h₀ L m s Q E B F X N T hk hdp hun hret
  refine wpAny_call ?_
  k_dflt cell_enter
  k_steps
  rename_i kF kN _ _
  exact hret _ _ _ _ kF (fun p hp => kN p (List.mem_cons_of_mem _ hp)) ⟨rfl, _, _, rfl, octs_ints n⟩

local macro_rules | `(tactic| walk_at "exec While Compare cons nil") => `(tactic| (k_here; refine Stop.mk ?_))
structure XSt where
  p : Int
  j : Nat
  f : Int
  tp : Tok
  tf : Tok
def PwX (p : Int) (k : Nat) : Prop := (p = 1 ∧ k = 0) ∨ (p = 2 ∧ k = 1) ∨ (p = 4 ∧ k = 2) ∨ (p = 8 ∧ k = 3) ∨ (p = 16 ∧ k = 4)
theorem pwx_half {p : Int} {k : Nat} (h : PwX p k) (h1 : 1 < p) : PwX (p.fdiv 2) (k - 1) ∧ 0 < k := by
  rcases h with ⟨rfl, rfl⟩ | ⟨rfl, rfl⟩ | ⟨rfl, rfl⟩ | ⟨rfl, rfl⟩ | ⟨rfl, rfl⟩
  · exact absurd h1 (by decide)
  · exact ⟨.inl ⟨rfl, rfl⟩, by decide⟩
  · exact ⟨.inr (.inl ⟨rfl, rfl⟩), by decide⟩
  · exact ⟨.inr (.inr (.inl ⟨rfl, rfl⟩)), by decide⟩
  · exact ⟨.inr (.inr (.inr (.inl ⟨rfl, rfl⟩))), by decide⟩
theorem pwx_zero {p : Int} {k : Nat} (h : PwX p k) (h1 : ¬ 1 < p) : k = 0 := by
  rcases h with ⟨rfl, rfl⟩ | ⟨rfl, rfl⟩ | ⟨rfl, rfl⟩ | ⟨rfl, rfl⟩ | ⟨rfl, rfl⟩
  · rfl
  · exact absurd (by decide) h1
  · exact absurd (by decide) h1
  · exact absurd (by decide) h1
  · exact absurd (by decide) h1
theorem pwx_bnd {p : Int} {k : Nat} (h : PwX p k) : 1 ≤ p ∧ p ≤ 16 ∧ k ≤ 4 := by
  rcases h with ⟨rfl, rfl⟩ | ⟨rfl, rfl⟩ | ⟨rfl, rfl⟩ | ⟨rfl, rfl⟩ | ⟨rfl, rfl⟩ <;> decide
theorem exponent_spec (w : World) (p : Int) (k : Nat) (t : Tok) (hk : (p = 1 ∧ k = 0) ∨ (p = 2 ∧ k = 1) ∨ (p = 4 ∧ k = 2) ∨ (p = 8 ∧ k = 3) ∨ (p = 16 ∧ k = 4)) (news : List (Addr × Obj)) : Spec w 79 1 8 [.int p t] news (fun v news' => news' = news ∧ ∃ tk, v = .int k tk) := by
  unfold Spec
  w_top off
  k_fill
  intro mean mg mb dp un gd cn cs a ccd cl outer A₀ base h₀ L m s Q E B F X N T hcs hdp hun hret
  refine wpAny_call ?_
  k_dflt cell_enter
  rename_i gg LL h0' FG0 F0 N0 B0 X0 T0
  k_steps
  rename_i F1 N1
  refine Stop.out ?_
  have N2 := N1
  refine ksw_while (σ := XSt) (fun _ => news) (fun c => [(PySem.Str.ofString "power", .int c.p c.tp), (PySem.Str.ofString "found", .int c.f c.tf)]) (fun _ => True) [] (fun c => PwX c.p c.j ∧ 0 ≤ c.f ∧ c.f + c.j = (k : Int)) (fun c => c.j) ⟨p, k, 0, ?ta, ?tb⟩ F1 N2 trivial ?x1 ⟨hk, Int.le_refl 0, ?x2⟩ ?x3
  case x1 => refine fm_cons ?_ (fm_cons ?_ fm_nil) <;> rfl
  case x2 => exact Int.zero_add _
  case x3 =>
    intro c1 u1 hh1 tkk1 _ hPc F2 N3
    obtain ⟨p1, j1, f1, tp1, tf1⟩ := c1
    try dsimp only at hPc F2
    try dsimp only [kstB] at F2
    obtain ⟨hpow, hf0, hfj⟩ := hPc
    have hb := pwx_bnd hpow
    have hkb := (pwx_bnd hk).2.2
    have hf4 : f1 ≤ 4 := by omega
    k_steps
    · rename 1 < p1 => hgo
      refine ksw_end (σ := XSt) ⟨p1.fdiv 2, j1 - 1, f1 + 1, ?tc, ?td⟩ (by assumption) (by assumption) ?y1 trivial ?y2 ?y3 ⟨(pwx_half hpow hgo).1, ?y4, ?y5⟩ ?y6
      case y1 => exact fun _ hp => hp
      case y2 => refine fm_cons ?_ (fm_cons ?_ fm_nil) <;> rfl
      case y3 =>
        intro z h1 h2
        have e1 := h1 _ List.mem_cons_self
        have e2 := h1 _ (List.mem_cons_of_mem _ List.mem_cons_self)
        dsimp only at e1 e2
        simp [e1, e2, kstB]
      case y4 => show 0 ≤ f1 + 1; omega
      case y5 => show f1 + 1 + ((j1 - 1 : Nat) : Int) = k; have := (pwx_half hpow hgo).2; omega
      case y6 => show j1 - 1 < j1; have := (pwx_half hpow hgo).2; omega
    · rename ¬ 1 < p1 => hstop
      have h0 := pwx_zero hpow hstop
      have hfk : f1 = k := by rw [← hfj, h0]; exact (Int.add_zero _).symm
      subst hfk
      exact hret _ _ _ _ (by k_asm) (by k_asm) ⟨rfl, _, rfl⟩
section
variable {w : World} {news : List (Addr × Obj)}
    {mean : ExcName → Option Value} {mg mb : PySem.Str → Option Value} {dp un : Nat} {gd : Option (List Code)} {cn : PySem.Str} {cs : Scope} {a : Addr} {ccd : Value} {cl : List (PySem.Str × Addr)} {outer : List Env} {A₀ : Around} {base h₀ : Heap} {L : Addr} {m : PySem.Str → Option Value} {s : Shared} {Q E : Value → Shared → Prop}
theorem put16_use {n : Int} {t : Tok} (B : Below A₀ base outer h₀) (F : Fr h₀ L s.heap m) (X : (hd.heap_39 w.params).In h₀) (N : News h₀ L s.heap news) (T : Top hd.view_39 (looseW hd.view_39 []) mean mg mb h₀) (hk : cs.kind = .function)
    (hdp : dp + 1 < recursionLimit) (hun : un + 8 < cLine)
    (ret : ∀ b t' h' tk', Fr h₀ L h' m → News h₀ L h' news → KBw.bInts b = octL [n] → Q (.bytes b t') { s with heap := h', toks := tk' }) :
    wpAny (model PySem.Challenge.rw_xm0714_01.row.prog w) (ktrTop dp un gd cn cs L a ccd cl outer) (call (.ref 53) [.int n t]) Q E s := by
  refine spec_use (put16_spec w n t news) B F X N T hk hdp hun ?_
  rintro v h' tk' news' F' N' ⟨rfl, b, t', rfl, hb⟩
  exact ret b t' h' tk' F' N' (by rw [octL_one]; exact hb)
end
end Mine
end

section
open PySem PySem.W PyProof.Rows
set_option Elab.async false
set_option maxRecDepth 100000
set_option maxHeartbeats 8000000
namespace Mine
local macro_rules | `(tactic| walk_at "pyIter ref") => `(tactic| ((with_reducible show wpAny _ _ (pyIter (Value.ref _)) (fun it s₂ => LoopAtV _ _ _ _ _ _ _ _ _ it s₂) _ _); refine Stop.mk ?_))
local macro_rules | `(tactic| walk_at "exec For Name Call cons nil") => `(tactic| (k_here; (rename Fr _ _ _ _ => lF'); (with_unfolding_all refine' For_invVF lF' ?k1 ?k2 ?_; (case k1 => exact rfl); (case k2 => exact rfl); k_whole)))
def Even (c : List (Int × Int)) (a b : Int) : Prop := ∀ k, a ≤ k → k ≤ b → kdfLook c k 0 - k = kdfLook c a 0 - a
theorem even_spec (w : World) (d : Addr) (o : Obj) (kvs : List (Int × Value)) (c : List (Int × Int)) (a b : Int) (ta tb : Tok) (news : List (Addr × Obj))
    (hm : (d, o) ∈ news) (lo : (d == sysModules) = false) (hd : o.IsDictOf (PySem.intKind PySem.Challenge.rw_xm0714_01.row.prog w) kvs) (hf : PyProof.V.FlatPairs PyData.int kvs (kdfD c))
    (hab : a ≤ b) (ha : -1000000 ≤ a) (hb : b ≤ 1000000) (hk : ∀ k, a ≤ k → k ≤ b → kdfHas c k = true) :
    Spec w 67 1 8 [.ref d, .int a ta, .int b tb] news (fun v news' => news' = news ∧ ∃ q : Bool, v = .bool q ∧ (q = true ↔ Even c a b)) := by
  unfold Spec
  w_top off
  k_fill
  intro mean mg mb dp un gd cn cs aa ccd cl outer A₀ base h₀ L m s Q E B F X N T hcs hdp hun hret
  have hka : kdfHas c a = true := hk a (Int.le_refl _) hab
  refine wpAny_call ?_
  k_dflt cell_enter
  k_steps
  refine Stop.out ?_
  refine kd_range (σ := Unit) (n := (b + 1 - a).toNat) (fun _ => []) news (fun _ => []) (fun _ _ => True) [] (fun pre _ => ∀ k ∈ pre, kdfLook c k 0 - k = kdfLook c a 0 - a) (news.map (·.1)) ()
    (by rfl) (by assumption) (small_one (by omega) (by omega) (by omega) (by omega)) (rangeSize_nat _ _) (by assumption) (by assumption) (by simp) (fun _ => rfl) trivial (by simp) (by simp) ?_ ?_
  · intro _ tl pre k t u h tk own hkk hpre hsep hoff _ hP F' N'
    have hk1 : a ≤ k := by omega
    have hk2 : k ≤ b := by omega
    have hkk1 : kdfHas c k = true := hk k hk1 hk2
    try simp only [List.nil_append] at N'
    have hm' : (d, o) ∈ news ++ (tl ++ own) := List.mem_append_left _ hm
    k_steps
    · refine hret _ _ _ news (by assumption) (fun p hp => by rename_i kN _ _; exact kN p (List.mem_append_left _ hp)) ⟨rfl, _, rfl, ?_⟩
      constructor
      · intro h; cases h
      · intro hE; exact absurd (hE k hk1 hk2) (by assumption)
    · refine kd_end (σ := Unit) () [] hsep (by assumption) (by assumption) ?_ ?_ rfl (by simp) (by simp) (by simp) ?_ trivial ?_
      · intro p hp; simp only [List.nil_append] at hp; rcases List.mem_append.mp hp with h | h
        · exact List.mem_append_left _ h
        · exact List.mem_append_right _ (List.mem_append_left _ h)
      · intro p hp; exact List.mem_append_right _ (List.mem_append_right _ hp)
      · intro z h1 _ _; simp [h1, kstB]
      · intro k' hk'
        rcases List.mem_append.mp hk' with h | h
        · exact hP k' h
        · rw [List.mem_singleton.mp h]; assumption
  · intro _ tl u h tk hoff _ hP F' N'
    k_steps
    refine hret _ _ _ news (by assumption) (fun p hp => by rename_i kN _ _; exact kN p (List.mem_append_right _ (List.mem_append_left _ hp))) ⟨rfl, _, rfl, ?_⟩
    refine ⟨fun _ => ?_, fun _ => rfl⟩
    intro k h1 h2
    refine hP k ?_
    unfold rangeKs
    exact List.mem_map.mpr ⟨(k - a).toNat, List.mem_range.mpr (by omega), by omega⟩
end Mine
end

section
open PySem PySem.W PyProof.Rows
set_option Elab.async false
set_option maxRecDepth 100000
set_option maxHeartbeats 8000000
namespace Mine
local macro_rules | `(tactic| k_all) => `(tactic| assumption)
theorem take_spec (w : World) (src : Addr) (x y : Int) (tx ty : Tok) (n : Nat) (top : Int) (tt : Tok) (rest : List (Addr × Obj))
    (hr : ∀ p ∈ rest, p.1 ≠ src) (hx : 0 ≤ x) (hy : 0 ≤ y) (hy2 : y < 2147483647) (ht : 1 ≤ top) (ht2 : top ≤ 100) :
    Spec w 93 1 8 [.ref src, .int top tt] ((src, W.listOf #[.int x tx, .int y ty] n) :: rest) (fun v news' => ∃ x' y' tx' ty' n', news' = (src, W.listOf #[.int x' tx', .int y' ty'] n') :: rest ∧ 0 ≤ x' ∧ x' ≤ x ∧ 0 ≤ y' ∧ y' < 2147483647 ∧ ∃ i t, v = .int i t ∧ 0 ≤ i ∧ i < top) := by
  unfold Spec
  w_top off
  k_fill
  intro mean mg mb dp un gd cn cs aa ccd cl outer A₀ base h₀ L m s Q E B F X N T hcs hdp hun hret
  refine wpAny_call ?_
  k_dflt cell_enter
  k_steps
  · simp only [List.getD_cons_zero, show Int.toNat 0 = 0 from rfl] at *
    refine hret _ _ _ _ (by assumption) (by assumption) ⟨_, _, _, _, _, rfl, ?_, ?_, hy, hy2, _, _, rfl, ?_, ?_⟩
    · exact Int.fdiv_nonneg hx (by omega)
    · rw [Int.fdiv_eq_ediv_of_nonneg _ (by omega)]; exact Int.ediv_le_self _ hx
    · exact Int.fmod_nonneg_of_pos _ (by omega)
    · exact Int.fmod_lt_of_pos _ (by omega)
  · have hz0 : 0 ≤ (y * 39373 + 7).fmod 2147483647 := Int.fmod_nonneg_of_pos _ (by decide)
    have hz1 : (y * 39373 + 7).fmod 2147483647 < 2147483647 := Int.fmod_lt_of_pos _ (by decide)
    simp only [List.getD_cons_zero, List.getD_cons_succ, show Int.toNat 0 = 0 from rfl, show Int.toNat 1 = 1 from rfl] at *
    generalize hz : (y * 39373 + 7).fmod 2147483647 = z at *
    refine PySem.P.mul_int ?_ ?_
    · k_steps
      refine hret _ _ _ _ (by assumption) (by assumption) ⟨_, _, _, _, _, rfl, hx, Int.le_refl _, hz0, hz1, _, _, rfl, ?_, ?_⟩
      · exact Int.fmod_nonneg_of_pos _ (by omega)
      · exact Int.fmod_lt_of_pos _ (by omega)
    · exact PySem.IntMulOk.of_right (PySem.intBits_le_64 (by omega) (by omega))
end Mine
end

section
open PySem PySem.W PyProof.Rows
set_option Elab.async false
set_option maxRecDepth 100000
set_option maxHeartbeats 8000000
namespace Mine
local macro_rules | `(tactic| k_all) => `(tactic| assumption)
local macro_rules | `(tactic| walk_at "call ref") => `(tactic| (k_here; (with_reducible show wpAny _ _ (call (Value.ref 93) _) _ _ _); refine Stop.mk ?_))
local macro_rules | `(tactic| walk_at "call builtin:len") => `(tactic| (k_here; (with_reducible show wpAny _ _ (call (Value.builtin "len") [Value.ref _]) _ _ _); k_dflt (refine' m_len ?N ?m ?b ?_; (case N => k_asm); (case m => k_mem); (case b => omega)); intro tLen))
theorem one_spec (w : World) (src tl : Addr) (x y : Int) (tx ty : Tok) (n k : Nat) (vs : List Value) (ns : List Int) (rest : List (Addr × Obj))
    (hr : ∀ p ∈ rest, p.1 ≠ src) (hts : tl ≠ src) (hx : 0 ≤ x) (hy : 0 ≤ y) (hy2 : y < 2147483647) (hi : IntsAre vs ns) (ht : 1 ≤ vs.length) (ht2 : vs.length ≤ 100) :
    Spec w 100 2 16 [.ref src, .ref tl] ((src, W.listOf #[.int x tx, .int y ty] n) :: (tl, W.listOf vs.toArray k) :: rest) (fun v news' => ∃ x' y' tx' ty' n', news' = (src, W.listOf #[.int x' tx', .int y' ty'] n') :: rest ∧ 0 ≤ x' ∧ x' ≤ x ∧ 0 ≤ y' ∧ y' < 2147483647 ∧ ∃ i t, v = .int i t ∧ i ∈ ns) := by
  unfold Spec
  w_top off
  k_fill
  intro mean mg mb dp un gd cn cs aa ccd cl outer A₀ base h₀ L m s Q E B F X N T hcs hdp hun hret
  refine wpAny_call ?_
  k_dflt cell_enter
  k_steps
  refine Stop.out ?_
  refine spec_use (take_spec w src x y tx ty n _ _ ((tl, W.listOf vs.toArray k) :: rest) ?_ hx hy hy2 ?_ ?_) (by assumption) (by assumption) (by assumption) (by assumption) (by assumption) rfl ?_ ?_ ?_
  · intro p hp
    rcases List.mem_cons.mp hp with rfl | hp
    · exact hts
    · exact hr p hp
  · omega
  · omega
  · ktr_room
  · ktr_units
  · rintro v h' tk' news' F' N' ⟨x', y', tx', ty', n', rfl, hx', hx2, hy', hy2', i, t, rfl, hi0, hi1⟩
    have hlen := hi.length
    obtain ⟨ti, hti⟩ := ints_get hi (i := i.toNat) (by omega)
    refine m_item N' (List.mem_cons_of_mem _ List.mem_cons_self) hi0 (by omega) hti ?_
    k_steps
    refine hret _ _ _ _ (by assumption) (fun p hp => ?_) ⟨x', y', tx', ty', n', rfl, hx', hx2, hy', hy2', _, _, rfl, List.getElem_mem _⟩
    rename_i kN _ _
    refine kN p ?_
    rcases List.mem_cons.mp hp with rfl | hp
    · exact List.mem_cons_self
    · exact List.mem_cons_of_mem _ (List.mem_cons_of_mem _ hp)
end Mine
end

section
open PySem PySem.W PyProof.Rows
set_option Elab.async false
set_option maxRecDepth 100000
set_option maxHeartbeats 8000000
namespace Mine
theorem neg_ok {q : Int} (h : ¬ 0 ≤ q) : 0 ≤ -1 - q := by omega
theorem pool_spec (w : World) (sl : Addr) (vs : List Value) (ns : List Int) (hi : IntsAre vs ns) (hlen : ns.length ≤ 63) (news : List (Addr × Obj))
    (mean : ExcName → Option Value) (mg mb : PySem.Str → Option Value) (dp un : Nat) (gd : Option (List Code)) (cn : PySem.Str) (cs : Scope) (a : Addr) (ccd : Value) (cl : List (PySem.Str × Addr)) (outer : List Env) (A₀ : Around) (base h₀ : Heap) (L : Addr) (m : PySem.Str → Option Value) (s : Shared) (Q E : Value → Shared → Prop)
    (B : Below A₀ base outer h₀) (F : Fr h₀ L s.heap m) (N : News h₀ L s.heap news) (T : Top hd.view_39 (looseW hd.view_39 []) mean mg mb h₀) (hcs : cs.kind = .function)
    (hl : base.IsList sl vs.toArray)
    (hdp : dp + 1 < recursionLimit) (hun : un + 8 < cLine)
    (ret : ∀ r h' tk' x y tx ty n, Fr h₀ L h' m → News h₀ L h' ((r, W.listOf #[.int x tx, .int y ty] n) :: news) → (∀ p ∈ news, p.1 < r) → 0 ≤ x → 0 ≤ y → y < 2147483647 → Q (.ref r) { s with heap := h', toks := tk' }) :
    (hd.heap_39 w.params).In h₀ → wpAny (model PySem.Challenge.rw_xm0714_01.row.prog w) (ktrTop dp un gd cn cs L a ccd cl outer) (call (.ref 86) [.ref sl]) Q E s := by
  w_top off
  k_fill
  intro X
  refine wpAny_call ?_
  k_dflt cell_enter
  k_steps
  all_goals refine ret _ _ _ _ _ _ _ _ (by assumption) (by assumption) (by assumption) ?_ (Int.fmod_nonneg_of_pos _ (by decide)) (Int.fmod_lt_of_pos _ (by decide))
  · assumption
  · exact Int.le_refl _
  · refine neg_ok ?_; assumption
  · exact Int.le_refl _
  · exact Int.le_refl _
end Mine
end

section
open PySem PySem.W PyProof.Rows
set_option Elab.async false
set_option maxRecDepth 100000
set_option maxHeartbeats 8000000
namespace Mine
local macro_rules | `(tactic| walk_at "pyIter ref") => `(tactic| ((with_reducible show wpAny _ _ (pyIter (Value.ref _)) (fun it s₂ => LoopAtV _ _ _ _ _ _ _ _ _ it s₂) _ _); refine Stop.mk ?_))
local macro_rules | `(tactic| walk_at "exec For Name Call cons nil") => `(tactic| (k_here; (rename Fr _ _ _ _ => lF'); (with_unfolding_all refine' For_invVF lF' ?k1 ?k2 ?_; (case k1 => exact rfl); (case k2 => exact rfl); k_whole)))
local macro_rules | `(tactic| walk_at "call builtin:sorted") => `(tactic| (k_here; refine Stop.mk ?_))
local macro_rules | `(tactic| walk_at "call builtin:list.append") => `(tactic| (k_here; refine Stop.mk ?_))
local macro_rules | `(tactic| walk_at "setItem ref int") => `(tactic| (k_here; refine Stop.mk ?_))
local macro_rules | `(tactic| walk_at "compareOp NotEq ref ref") => `(tactic| (k_here; refine Stop.mk ?_))
local macro_rules | `(tactic| walk_at "subscriptTail") => `(tactic| (k_here; (with_reducible show wpAny _ _ (subscriptTail _ _ (Value.ref _) (Value.int (-1) _)) _ _ _); refine Stop.mk ?_))
def runStep (found : List (Int × Int)) (code : Int) : List (Int × Int) :=
  match found.getLast? with
  | some p => if p.2 = code - 1 then found.dropLast ++ [(p.1, code)] else found ++ [(code, code)]
  | none => [(code, code)]
theorem runStep_nil (k : Int) : runStep [] k = [(k, k)] := rfl
theorem runStep_hit (qs : List (Int × Int)) (q : Int × Int) (k : Int) (h : q.2 = k - 1) : runStep (qs ++ [q]) k = qs ++ [(q.1, k)] := by
  simp [runStep, h]
theorem runStep_miss (qs : List (Int × Int)) (q : Int × Int) (k : Int) (h : ¬ q.2 = k - 1) : runStep (qs ++ [q]) k = qs ++ [q] ++ [(k, k)] := by
  simp [runStep, h]
theorem runStep_len (f : List (Int × Int)) (k : Int) : (runStep f k).length ≤ f.length + 1 := by
  rcases List.eq_nil_or_concat f with rfl | ⟨qs, q, rfl⟩
  · simp [runStep]
  · rw [List.concat_eq_append]
    by_cases h : q.2 = k - 1
    · rw [runStep_hit _ _ _ h]; simp
    · rw [runStep_miss _ _ _ h]; simp
theorem runs_len (ks : List Int) : ∀ f : List (Int × Int), (ks.foldl runStep f).length ≤ f.length + ks.length := by
  induction ks with
  | nil => intro f; simp
  | cons k r ih =>
    intro f
    have h1 := ih (runStep f k)
    have h2 := runStep_len f k
    simp only [List.foldl_cons, List.length_cons]
    omega
structure RunSt where
  vs : List Value
  n : Nat
  ps : List (Int × Int)
theorem runs_spec (w : World) (l : Addr) (vs : List Value) (ns : List Int) (n : Nat) (news : List (Addr × Obj))
    (hm : (l, W.listOf vs.toArray n) ∈ news) (hi : IntsAre vs ns) (hlen : ns.length < 64) :
    Spec w 60 1 200 [.ref l] news (fun v news' => ∃ (r : Addr) (vr : List Value) (nr : Nat) (tl : List (Addr × Obj)) (ns' : List Int), news' = (r, W.listOf vr.toArray nr) :: (tl ++ news) ∧ v = .ref r ∧ ns'.Perm ns ∧ ns'.Pairwise (· ≤ ·) ∧ DatAll (tl ++ news) vr ((ns'.foldl runStep []).map pd)) := by
  unfold Spec
  w_top off
  k_fill
  intro mean mg mb dp un gd cn cs aa ccd cl outer A₀ base h₀ L m s Q E B F X N T hcs hdp hun hret
  refine wpAny_call ?_
  k_dflt cell_enter
  k_steps
  rename_i fl _ lfl _ lF N9
  refine Stop.out ?_
  refine kso_sorted (ns := ns) (vs := vs) lF N9 (News.isList N9 (List.mem_cons_of_mem _ hm)) hi hlen ?_
  intro D vs' ns' c' h' F' N' lD hi' hl' hp' hs' _
  k_steps
  refine Stop.out ?_
  refine kd_listI (σ := RunSt) (fun c => [(fl, W.listOf c.vs.toArray c.n)]) ((D, W.listOf vs'.toArray c') :: news) (fun _ => []) (fun led c => DatAll led c.vs (c.ps.map pd)) [] (fun pre c => c.ps = pre.foldl runStep []) (fl :: D :: news.map (·.1)) ⟨[], 0, []⟩
    (by rfl) List.mem_cons_self hi' F' N' ?_ (fun _ => rfl) DatAll.nil (by simp) rfl ?_ ?_
  · intro p hp
    simp only [List.append_nil, List.cons_append, List.nil_append, List.mem_cons] at hp ⊢
    rcases hp with h | h | h
    · exact .inr (.inl h)
    · exact .inl h
    · exact .inr (.inr h)
  · intro c tl pre post k t u h tk own hns hk hsep hoff hfacts hP F' N'
    obtain ⟨fvs, fn, ps⟩ := c
    dsimp only at hfacts hP F' N'
    simp only [List.cons_append, List.nil_append] at N'
    have hDfl : D ≠ fl := fun e => absurd (lD (fl, W.listOf #[] 0) List.mem_cons_self) (by rw [e]; exact Nat.lt_irrefl _)
    have hoffl : ∀ p ∈ news ++ (tl ++ own), p.1 ≠ fl := fun p hp => by
      rcases List.mem_append.mp hp with h1 | h1
      · exact Nat.ne_of_lt (lfl p h1)
      · exact hoff p h1 fl (by simp)
    have hadrlt : ∀ {tp : Addr}, fl < tp → D < tp → AllLt tp (news ++ (tl ++ own)) → ∀ b ∈ (fl :: D :: news.map (·.1)), b ≠ tp := fun h1 h2 h3 b hb => by
      simp only [List.mem_cons, List.mem_map] at hb
      rcases hb with rfl | rfl | ⟨p, hp, rfl⟩
      · exact Nat.ne_of_lt h1
      · exact Nat.ne_of_lt h2
      · exact allLt_ne h3 (by simp [hp])
    k_steps
    rename_i e0 _ F0 N0 le0
    have hcs0 : ∀ p ∈ (D, W.listOf vs'.toArray c') :: news ++ tl, p ∈ (e0, W.listOf #[] 0) :: (fl, W.listOf fvs.toArray fn) :: (D, W.listOf vs'.toArray c') :: (news ++ (tl ++ own)) := by
      intro p hp
      simp only [List.mem_cons, List.mem_append] at hp ⊢
      rcases hp with (h | h) | h
      · exact .inr (.inr (.inl h))
      · exact .inr (.inr (.inr (.inl h)))
      · exact .inr (.inr (.inr (.inr (.inl h))))
    refine Stop.out ?_
    refine kqd_ne N0 (List.mem_cons_of_mem _ List.mem_cons_self) rfl rfl hfacts hcs0 List.mem_cons_self rfl rfl (DatAll.nil (news := [])) (fun _ hp => nomatch hp) ?_ (fun _ hp => nomatch hp) ?_ ?_
    · intro d hd
      obtain ⟨p, _, rfl⟩ := List.mem_map.mp hd
      rfl
    · ktr_units
    · rcases List.eq_nil_or_concat ps with rfl | ⟨qs, q, hqq⟩
      · obtain rfl : fvs = [] := List.eq_nil_of_length_eq_zero (by simpa using hfacts.length)
        simp only [List.map_nil]
        k_steps
        rename_i tp _ Ft Nt ltp
        obtain ⟨lt1, lt2, lt3, lt4⟩ := ltp
        refine Stop.out ?_
        refine m_append (rest := (tp, tup2 (.int k t) (.int k t) 0) :: (D, W.listOf vs'.toArray c') :: (news ++ (tl ++ own))) Ft Nt (List.mem_cons_of_mem _ (List.mem_cons_of_mem _ List.mem_cons_self)) ?_ (by simp) ?_
        · intro p hp
          simp only [List.mem_cons] at hp
          rcases hp with h1 | h1 | h1
          · subst h1; exact ⟨List.mem_cons_self, fun e => absurd lt2 (by have e' : tp = fl := e; rw [e']; exact Nat.lt_irrefl _)⟩
          · subst h1; exact ⟨by simp, hDfl⟩
          · exact ⟨by simp [h1], hoffl p h1⟩
        · intro h2 F2 N2
          k_steps
          refine kd_end (σ := RunSt) ⟨[.ref tp], fn + 1, [(k, k)]⟩ [(tp, tup2 (.int k t) (.int k t) 0)] hsep F2 N2 ?_ ?_ rfl ?_ ?_ (by simp) ?_ ?_ ?_
          · intro p hp; simp at hp ⊢; grind
          · intro p hp; simp [hp]
          · intro q hq b hb; rw [List.mem_singleton.mp hq]; exact hadrlt lt2 lt3 lt4 b hb
          · intro q hq p hp; rw [List.mem_singleton.mp hq]; exact allLt_ne lt4 (by simp [hp])
          · intro z h1 _ _; simp [h1, kstB]
          · exact DatAll.one (pd_mk (p := (k, k)) (x := t) (y := t) (n := 0) (by simp))
          · rw [List.foldl_append, ← hP]; rfl
      · rw [List.concat_eq_append] at hqq
        subst hqq
        rw [List.map_append, List.map_singleton] at hfacts
        obtain ⟨ws, v, rfl, hws, hv⟩ := dat_snoc hfacts
        obtain ⟨ta, x, y, nt, rfl, hta⟩ := pd_inv hv
        have hta0 := hcs0 _ hta
        have hlw : ws.length ≤ 1000 := by
          have h1 := hws.length
          have h2 := runs_len pre []
          rw [← hP] at h2
          have h3 := congrArg List.length hns
          simp at h1 h2 h3
          omega
        have e0 : decide (List.map pd qs ++ [pd q] = ([] : List Dat)) = false := by simp
        simp only [List.map_append, List.map_singleton, e0]
        k_steps
        refine Stop.out ?_
        refine m_last N0 (List.mem_cons_of_mem _ List.mem_cons_self) (by omega) ?_
        k_steps
        · rename_i hq2
          refine Stop.out ?_
          refine m_last (by assumption) (List.mem_cons_of_mem _ List.mem_cons_self) (by omega) ?_
          k_steps
          rename_i tp _ Ft Nt ltp
          obtain ⟨lt1, lt2, lt3, lt4⟩ := ltp
          refine Stop.out ?_
          refine m_setLast (rest := (tp, tup2 (.int q.1 x) (.int k t) 0) :: (D, W.listOf vs'.toArray c') :: (news ++ (tl ++ own))) Ft Nt (List.mem_cons_of_mem _ (List.mem_cons_of_mem _ List.mem_cons_self)) ?_ ?_
          · intro p hp
            simp only [List.mem_cons] at hp
            rcases hp with h1 | h1 | h1
            · subst h1; exact ⟨List.mem_cons_self, fun e => absurd lt2 (by have e' : tp = fl := e; rw [e']; exact Nat.lt_irrefl _)⟩
            · subst h1; exact ⟨by simp, hDfl⟩
            · exact ⟨by simp [h1], hoffl p h1⟩
          · intro h2 F2 N2
            k_steps
            refine kd_end (σ := RunSt) ⟨ws ++ [.ref tp], fn, qs ++ [(q.1, k)]⟩ [(tp, tup2 (.int q.1 x) (.int k t) 0)] hsep F2 N2 ?_ ?_ rfl ?_ ?_ (by simp) ?_ ?_ ?_
            · intro p hp; simp at hp ⊢; grind
            · intro p hp; simp [hp]
            · intro q hq b hb; rw [List.mem_singleton.mp hq]; exact hadrlt lt2 lt3 lt4 b hb
            · intro q hq p hp; rw [List.mem_singleton.mp hq]; exact allLt_ne lt4 (by simp [hp])
            · intro z h1 _ _; simp [h1, kstB]
            · rw [List.map_append, List.map_singleton]
              exact DatAll.append (hws.mono (fun p hp => by simp at hp ⊢; grind)) (DatAll.one (pd_mk (p := (q.1, k)) (x := x) (y := t) (n := 0) (by simp)))
            · rw [List.foldl_append, ← hP]; exact (runStep_hit _ _ _ hq2).symm
        · rename_i hq2 tp _ Ft Nt ltp
          obtain ⟨lt1, lt2, lt3, lt4⟩ := ltp
          refine Stop.out ?_
          refine m_append (rest := (tp, tup2 (.int k t) (.int k t) 0) :: (D, W.listOf vs'.toArray c') :: (news ++ (tl ++ own))) Ft Nt (List.mem_cons_of_mem _ (List.mem_cons_of_mem _ List.mem_cons_self)) ?_ (by simp; omega) ?_
          · intro p hp
            simp only [List.mem_cons] at hp
            rcases hp with h1 | h1 | h1
            · subst h1; exact ⟨List.mem_cons_self, fun e => absurd lt2 (by have e' : tp = fl := e; rw [e']; exact Nat.lt_irrefl _)⟩
            · subst h1; exact ⟨by simp, hDfl⟩
            · exact ⟨by simp [h1], hoffl p h1⟩
          · intro h2 F2 N2
            k_steps
            refine kd_end (σ := RunSt) ⟨ws ++ [.ref ta] ++ [.ref tp], fn + 1, qs ++ [q] ++ [(k, k)]⟩ [(tp, tup2 (.int k t) (.int k t) 0)] hsep F2 N2 ?_ ?_ rfl ?_ ?_ (by simp) ?_ ?_ ?_
            · intro p hp; simp at hp ⊢; grind
            · intro p hp; simp [hp]
            · intro q hq b hb; rw [List.mem_singleton.mp hq]; exact hadrlt lt2 lt3 lt4 b hb
            · intro q hq p hp; rw [List.mem_singleton.mp hq]; exact allLt_ne lt4 (by simp [hp])
            · intro z h1 _ _; simp [h1, kstB]
            · rw [List.map_append, List.map_singleton, List.map_append, List.map_singleton]
              exact DatAll.append (hfacts.mono (fun p hp => by simp at hp ⊢; grind)) (DatAll.one (pd_mk (p := (k, k)) (x := t) (y := t) (n := 0) (by simp)))
            · rw [List.foldl_append, ← hP]; exact (runStep_miss _ _ _ hq2).symm
  · intro c tl u h tk hoff hfacts hP F' N'
    k_steps
    rename_i kN _ _
    refine hret _ _ _ ((fl, W.listOf c.vs.toArray c.n) :: ((((D, W.listOf vs'.toArray c') :: tl)) ++ news)) (by assumption) (fun p hp => kN p (by simp at hp ⊢; grind)) ⟨fl, c.vs, c.n, (D, W.listOf vs'.toArray c') :: tl, ns', rfl, rfl, hp', hs', ?_⟩
    rw [← hP]
    exact hfacts.mono (fun p hp => by simp at hp ⊢; grind)
end Mine
end

section
open PySem PySem.W PyProof.Rows
set_option Elab.async false
set_option maxRecDepth 100000
set_option maxHeartbeats 8000000
namespace Mine
local macro_rules | `(tactic| walk_at "pyIter ref") => `(tactic| ((with_reducible show wpAny _ _ (pyIter (Value.ref _)) (fun it s₂ => LoopAtV _ _ _ _ _ _ _ _ _ it s₂) _ _); refine Stop.mk ?_))
local macro_rules | `(tactic| walk_at "exec For Name Call cons nil") => `(tactic| (k_here; (rename Fr _ _ _ _ => lF'); (with_unfolding_all refine' For_invVF lF' ?k1 ?k2 ?_; (case k1 => exact rfl); (case k2 => exact rfl); k_whole)))
local macro_rules | `(tactic| walk_at "call ref") => `(tactic| (k_here; refine Stop.mk ?_))
local macro_rules | `(tactic| walk_at "setItem ref int") => `(tactic| (k_here; refine Stop.mk ?_))
section
variable {w : World} {src tl : Addr} {x y : Int} {tx ty : Tok} {n k : Nat} {vs : List Value} {ns : List Int} {news rest : List (Addr × Obj)}
    {mean : ExcName → Option Value} {mg mb : PySem.Str → Option Value} {dp un : Nat} {gd : Option (List Code)} {cn : PySem.Str} {cs : Scope} {a : Addr} {ccd : Value} {cl : List (PySem.Str × Addr)} {outer : List Env} {A₀ : Around} {base h₀ : Heap} {L : Addr} {m : PySem.Str → Option Value} {s : Shared} {Q E : Value → Shared → Prop}
theorem one_use (B : Below A₀ base outer h₀) (F : Fr h₀ L s.heap m) (X : (hd.heap_39 w.params).In h₀) (N : News h₀ L s.heap news) (T : Top hd.view_39 (looseW hd.view_39 []) mean mg mb h₀) (hk : cs.kind = .function)
    (hdp : dp + 2 < recursionLimit) (hun : un + 16 < cLine) (hx : 0 ≤ x) (hy : 0 ≤ y) (hy2 : y < 2147483647)
    (hs : (src, W.listOf #[.int x tx, .int y ty] n) ∈ news) (ht : (tl, W.listOf vs.toArray k) ∈ news) (hts : tl ≠ src) (hi : IntsAre vs ns) (h1 : 1 ≤ vs.length) (h2 : vs.length ≤ 100) (hr : ∀ p ∈ rest, p ∈ news ∧ p.1 ≠ src)
    (ret : ∀ i t x' y' tx' ty' n' h' tk', Fr h₀ L h' m → News h₀ L h' ((src, W.listOf #[.int x' tx', .int y' ty'] n') :: rest) → 0 ≤ x' → 0 ≤ y' → y' < 2147483647 → i ∈ ns → Q (.int i t) { s with heap := h', toks := tk' }) :
    wpAny (model PySem.Challenge.rw_xm0714_01.row.prog w) (ktrTop dp un gd cn cs L a ccd cl outer) (call (.ref 100) [.ref src, .ref tl]) Q E s := by
  refine spec_use (one_spec w src tl x y tx ty n k vs ns rest (fun p hp => (hr p hp).2) hts hx hy hy2 hi h1 h2) B F X (news_sub N fun p hp => ?_) T hk hdp hun ?_
  · rcases List.mem_cons.mp hp with rfl | hp
    · exact hs
    · rcases List.mem_cons.mp hp with rfl | hp
      · exact ht
      · exact (hr p hp).1
  · rintro v h' tk' news' F' N' ⟨x', y', tx', ty', n', rfl, a1, a2, a3, a4, i, t, rfl, a5⟩
    exact ret i t x' y' tx' ty' n' h' tk' F' N' a1 a3 a4 a5
theorem take_use {top : Int} {tt : Tok} (B : Below A₀ base outer h₀) (F : Fr h₀ L s.heap m) (X : (hd.heap_39 w.params).In h₀) (N : News h₀ L s.heap news) (T : Top hd.view_39 (looseW hd.view_39 []) mean mg mb h₀) (hk : cs.kind = .function)
    (hdp : dp + 1 < recursionLimit) (hun : un + 8 < cLine) (hx : 0 ≤ x) (hy : 0 ≤ y) (hy2 : y < 2147483647)
    (hs : (src, W.listOf #[.int x tx, .int y ty] n) ∈ news) (h1 : 1 ≤ top) (h2 : top ≤ 100) (hr : ∀ p ∈ rest, p ∈ news ∧ p.1 ≠ src)
    (ret : ∀ i t x' y' tx' ty' n' h' tk', Fr h₀ L h' m → News h₀ L h' ((src, W.listOf #[.int x' tx', .int y' ty'] n') :: rest) → 0 ≤ x' → 0 ≤ y' → y' < 2147483647 → 0 ≤ i → i < top → Q (.int i t) { s with heap := h', toks := tk' }) :
    wpAny (model PySem.Challenge.rw_xm0714_01.row.prog w) (ktrTop dp un gd cn cs L a ccd cl outer) (call (.ref 93) [.ref src, .int top tt]) Q E s := by
  refine spec_use (take_spec w src x y tx ty n top tt rest (fun p hp => (hr p hp).2) hx hy hy2 h1 h2) B F X (news_sub N fun p hp => ?_) T hk hdp hun ?_
  · rcases List.mem_cons.mp hp with rfl | hp
    · exact hs
    · exact (hr p hp).1
  · rintro v h' tk' news' F' N' ⟨x', y', tx', ty', n', rfl, a1, a2, a3, a4, i, t, rfl, a5, a6⟩
    exact ret i t x' y' tx' ty' n' h' tk' F' N' a1 a3 a4 a5 a6
end
theorem lt_ne {a b : Addr} (h : @LT.lt Nat _ a b) : b ≠ a := Ne.symm (Nat.ne_of_lt h)
structure GoodC (c : List (Int × Int)) : Prop where
  nodup : (c.map (·.1)).Nodup
  keys : ∀ p ∈ c, 0 ≤ p.1 ∧ p.1 ≤ 70000 ∧ 0 ≤ p.2 ∧ p.2 < 65536
  len : c.length ≤ 16
structure CSt where
  x : Int
  y : Int
  tx : Tok
  ty : Tok
  n : Nat
  od : Obj
  kvs : List (Int × Value)
  code : Int
  tc : Tok
  c : List (Int × Int)
structure OkC (w : World) (b : Int) (l : Nat) (c : CSt) : Prop where
  x0 : 0 ≤ c.x
  y0 : 0 ≤ c.y
  y1 : c.y < 2147483647
  dict : c.od.IsDictOf (PySem.intKind PySem.Challenge.rw_xm0714_01.row.prog w) c.kvs
  flat : PyProof.V.FlatPairs PyData.int c.kvs (kdfD c.c)
  lo : 0 ≤ c.code
  hi : c.code ≤ b
  len : c.c.length ≤ l
  keys : ∀ p ∈ c.c, 0 ≤ p.1 ∧ p.1 < c.code ∧ 0 ≤ p.2 ∧ p.2 < 65536
  nodup : (c.c.map (·.1)).Nodup
theorem put_new {c : List (Int × Int)} {k v : Int} (h : ∀ p ∈ c, p.1 < k) : kdfPut c k v = c ++ [(k, v)] := by
  unfold kdfPut
  rw [if_neg]
  simp only [List.any_eq_true, decide_eq_true_eq, not_exists, not_and]
  intro p hp e
  have := h p hp
  omega
theorem OkC.put {w : World} {b : Int} {l : Nat} {c : CSt} {o' : Obj} {kvs' : List (Int × Value)} {v : Int} {t : Tok} (h : OkC w b l c) (hv0 : 0 ≤ v) (hv1 : v < 65536)
    (hd : o'.IsDictOf (PySem.intKind PySem.Challenge.rw_xm0714_01.row.prog w) kvs') (hf : PyProof.V.FlatPairs PyData.int kvs' (kdfD (kdfPut c.c c.code v))) :
    OkC w (b + 1) (l + 1) { c with od := o', kvs := kvs', code := c.code + 1, tc := t, c := c.c ++ [(c.code, v)] } := by
  have hlt : ∀ p ∈ c.c, p.1 < c.code := fun p hp => (h.keys p hp).2.1
  rw [put_new hlt] at hf
  refine ⟨h.x0, h.y0, h.y1, hd, hf, ?_, ?_, ?_, ?_, ?_⟩
  · have := h.lo; show 0 ≤ c.code + 1; omega
  · have := h.hi; show c.code + 1 ≤ b + 1; omega
  · have := h.len; show (c.c ++ [(c.code, v)]).length ≤ l + 1; simp; omega
  · intro p hp
    show 0 ≤ p.1 ∧ p.1 < c.code + 1 ∧ _
    rcases List.mem_append.mp hp with h1 | h1
    · have := h.keys p h1; omega
    · rw [List.mem_singleton.mp h1]; have := h.lo; show 0 ≤ c.code ∧ c.code < c.code + 1 ∧ 0 ≤ v ∧ v < 65536; omega
  · show ((c.c ++ [(c.code, v)]).map (·.1)).Nodup
    rw [List.map_append, List.nodup_append]
    refine ⟨h.nodup, by simp, ?_⟩
    intro a ha b hb
    simp only [List.map_cons, List.map_nil, List.mem_singleton] at hb
    obtain ⟨p, hp, rfl⟩ := List.mem_map.mp ha
    have := hlt p hp
    omega
theorem codes_spec (w : World) (src : Addr) (x y : Int) (tx ty : Tok) (n : Nat) (rest : List (Addr × Obj))
    (hr : ∀ p ∈ rest, p.1 ≠ src) (hx : 0 ≤ x) (hy : 0 ≤ y) (hy2 : y < 2147483647) :
    Spec w 107 3 100 [.ref src] ((src, W.listOf #[.int x tx, .int y ty] n) :: rest) (fun v news' => ∃ x' y' tx' ty' n' d od kvs c, news' = (d, od) :: (src, W.listOf #[.int x' tx', .int y' ty'] n') :: rest ∧ v = .ref d ∧
      (d == sysModules) = false ∧ od.IsDictOf (PySem.intKind PySem.Challenge.rw_xm0714_01.row.prog w) kvs ∧ PyProof.V.FlatPairs PyData.int kvs (kdfD c) ∧ GoodC c ∧ 0 ≤ x' ∧ 0 ≤ y' ∧ y' < 2147483647) := by
  unfold Spec
  w_top off
  k_fill
  intro mean mg mb dp un gd cn cs aa ccd cl outer A₀ base h₀ L m s Q E B F X N T hcs hdp hun hret
  refine wpAny_call ?_
  k_dflt cell_enter
  k_steps
  rename_i tl _ F1 N1 l1
  refine Stop.out ?_
  refine one_use (rest := rest) (ns := [0, 40, 300, 65520]) (by assumption) F1 (by assumption) N1 (by assumption) rfl (by ktr_room) (by ktr_units) hx hy hy2 (List.mem_cons_of_mem _ List.mem_cons_self) List.mem_cons_self (lt_ne l1.1) (.cons _ _ (.cons _ _ (.cons _ _ (.cons _ _ .nil)))) (by simp) (by simp) (fun p hp => ⟨by simp [hp], hr p hp⟩) ?_
  clear F1 N1 l1 hx hy hy2 N
  intro code tc x1 y1 tx1 ty1 n1 h1 tk1 F1 N1 hx hy hy2 hcode
  k_steps
  rename_i d _ o lo _ _ hd0 hf0 ld _ _ _ _ _ _ F2 N2
  have hds : d ≠ src := lt_ne ld.1
  have hrd : ∀ p ∈ rest, p.1 ≠ d := fun p hp => allLt_ne ld.2 hp
  refine Stop.out ?_
  refine take_use (rest := (d, o) :: rest) (by assumption) F2 (by assumption) N2 (by assumption) rfl (by ktr_room) (by ktr_units) hx hy hy2 (List.mem_cons_of_mem _ (List.mem_cons_of_mem _ List.mem_cons_self)) (by decide) (by decide) (fun p hp => ?_) ?_
  · rcases List.mem_cons.mp hp with rfl | hp
    · exact ⟨by simp, hds⟩
    · exact ⟨by simp [hp], hr p hp⟩
  clear hx hy hy2
  intro top tt x2 y2 tx2 ty2 n2 h2 tk2 F3 N3 hx hy hy2 ht0 ht5
  k_steps
  refine Stop.out ?_
  refine kd_range (σ := CSt) (n := top.toNat) (fun c => [(src, W.listOf #[.int c.x c.tx, .int c.y c.ty] c.n), (d, c.od)]) rest (fun c => [(PySem.Str.ofString "code", .int c.code c.tc)]) (fun _ _ => True) [PySem.Str.ofString "glyph", PySem.Str.ofString "rise", PySem.Str.ofString "step"] (fun pre c => OkC w (65520 + 7 * pre.length) (4 * pre.length) c) (src :: d :: rest.map (·.1)) ⟨x2, y2, tx2, ty2, n2, o, [], code, tc, []⟩
    (by rfl) (by assumption) (small_one (by omega) (by omega) (by omega) (by omega)) ?_ (by assumption) (by assumption) ?_ (fun _ => rfl) trivial ?_ ?_ ?_ ?_
  · have := rangeSize_nat 0 top; simpa using this
  · intro p hp; simpa using hp
  · intro p hp; rw [List.mem_singleton.mp hp]; rfl
  · have hcode' : 0 ≤ code ∧ code ≤ 65520 := by simp at hcode; omega
    exact ⟨hx, hy, hy2, hd0, hf0, hcode'.1, by simpa using hcode'.2, by simp, (fun p hp => nomatch hp), by simp⟩
  · intro c tl pre k t u h tk own hk hpre hsep hoff _ hP F' N'
    obtain ⟨x3, y3, tx3, ty3, n3, od, kvs, code3, tc3, cc⟩ := c
    try dsimp only at hP F' N'
    simp only [List.cons_append, List.nil_append] at N'
    have hx := hP.x0
    have hy := hP.y0
    have hy2 := hP.y1
    dsimp only at hx hy hy2
    have hRs : ∀ p ∈ (d, od) :: (rest ++ (tl ++ own)), p.1 ≠ src := by
      intro p hp
      simp only [List.mem_cons, List.mem_append] at hp
      rcases hp with h1 | h1 | h1
      · subst h1; exact hds
      · exact hr p h1
      · exact hoff p (List.mem_append.mpr h1) src (by simp)
    have hRd : ∀ p ∈ rest ++ (tl ++ own), p.1 ≠ d := by
      intro p hp
      simp only [List.mem_append] at hp
      rcases hp with h1 | h1
      · exact hrd p h1
      · exact hoff p (List.mem_append.mpr h1) d (by simp)
    k_steps
    rename_i t5 _ F5 N5 l5
    refine Stop.out ?_
    refine one_use (rest := (d, od) :: (rest ++ (tl ++ own))) (ns := [0, 1, 7, 50, 65534]) (by assumption) F5 (by assumption) N5 (by assumption) rfl (by ktr_room) (by ktr_units) hx hy hy2 (List.mem_cons_of_mem _ List.mem_cons_self) List.mem_cons_self (lt_ne l5.1) (.cons _ _ (.cons _ _ (.cons _ _ (.cons _ _ (.cons _ _ .nil))))) (by simp) (by simp) (fun p hp => ⟨by simp only [List.mem_cons] at hp ⊢; exact .inr (.inr hp), hRs p hp⟩) ?_
    clear hx hy hy2 F5 N5 l5
    intro glyph tg x4 y4 tx4 ty4 n4 h4 tk4 F4 N4 hx hy hy2 hglyph
    k_steps
    rename_i t5 _ F5 N5 l5
    refine Stop.out ?_
    refine one_use (rest := (d, od) :: (rest ++ (tl ++ own))) (ns := [1, 1, 5, 0]) (by assumption) F5 (by assumption) N5 (by assumption) rfl (by ktr_room) (by ktr_units) hx hy hy2 (List.mem_cons_of_mem _ List.mem_cons_self) List.mem_cons_self (lt_ne l5.1) (.cons _ _ (.cons _ _ (.cons _ _ (.cons _ _ .nil)))) (by simp) (by simp) (fun p hp => ⟨by simp only [List.mem_cons] at hp ⊢; exact .inr (.inr hp), hRs p hp⟩) ?_
    clear hx hy hy2 F5 N5 l5
    intro rise tr x5 y5 tx5 ty5 n5 h5 tk5 F5 N5 hx hy hy2 hrise
    k_steps
    rename_i F6 N6
    refine Stop.out ?_
    refine take_use (rest := (d, od) :: (rest ++ (tl ++ own))) (by assumption) F6 (by assumption) N6 (by assumption) rfl (by ktr_room) (by ktr_units) hx hy hy2 (List.mem_cons_of_mem _ List.mem_cons_self) (by decide) (by decide) (fun p hp => ⟨by simp only [List.mem_cons] at hp ⊢; exact .inr (.inr hp), hRs p hp⟩) ?_
    clear hx hy hy2
    intro steps ts x6 y6 tx6 ty6 n6 h6 tk6 F7 N7 hx hy hy2 hs0 hs4
    k_steps
    have hgl : 0 ≤ glyph ∧ glyph ≤ 65534 := by simp at hglyph; omega
    have hri : 0 ≤ rise ∧ rise ≤ 5 := by simp at hrise; omega
    obtain ⟨hri0, hri5⟩ := hri
    refine Stop.out ?_
    refine kd_range (σ := CSt) (n := (1 + steps).toNat) (fun c => [(d, c.od)]) ((src, W.listOf #[.int x6 tx6, .int y6 ty6] n6) :: (rest ++ (tl ++ own))) (fun c => [(PySem.Str.ofString "code", .int c.code c.tc)]) (fun _ _ => True) [] (fun ipre c => OkC w (65520 + 7 * pre.length + ipre.length) (4 * pre.length + ipre.length) c) (d :: src :: (rest ++ (tl ++ own)).map (·.1)) ⟨x6, y6, tx6, ty6, n6, od, kvs, code3, tc3, cc⟩
      (by rfl) (by assumption) (small_one (by omega) (by omega) (by omega) (by omega)) ?_ (by assumption) (by assumption) ?_ (fun _ => rfl) trivial ?_ ?_ ?_ ?_
    · have := rangeSize_nat 0 (1 + steps); simpa using this
    · intro p hp; simp only [List.append_nil, List.cons_append, List.nil_append, List.mem_cons] at hp ⊢; grind
    · intro p hp; rw [List.mem_singleton.mp hp]; rfl
    · exact ⟨hx, hy, hy2, hP.dict, hP.flat, hP.lo, by have := hP.hi; simpa using this, by have := hP.len; simpa using this, hP.keys, hP.nodup⟩
    · intro c itl ipre ik it iu ih itk iown hik hipre hisep hioff _ hiP F' N'
      obtain ⟨x7, y7, tx7, ty7, n7, od7, kvs7, code7, tc7, cc7⟩ := c
      try dsimp only at hiP F' N'
      simp only [List.cons_append, List.nil_append] at N'
      have hik0 : 0 ≤ ik := by omega
      have hik5 : ik ≤ 3 := by omega
      try dsimp only [kstB] at F'
      have hRd' : ∀ p ∈ (src, W.listOf #[.int x6 tx6, .int y6 ty6] n6) :: ((rest ++ (tl ++ own)) ++ (itl ++ iown)), p.1 ≠ d := by
        intro p hp
        simp only [List.mem_cons, List.mem_append] at hp
        rcases hp with h1 | h1 | h1
        · subst h1; exact Ne.symm hds
        · exact hRd p (by simpa using h1)
        · exact hioff p (by simp only [List.mem_append]; grind) d (by simp)
      k_steps
      refine Stop.out ?_
      refine kdf_setItem (c := cc7) F' N' (UpdF.head hRd') hiP.dict hiP.flat (by have := hiP.len; dsimp only at this; omega) ?_
      intro h9 o9 kvs9 F9 N9 hd9 hf9
      try dsimp only at N9
      k_steps
      refine kd_end (σ := CSt) ⟨x7, y7, tx7, ty7, n7, o9, kvs9, code7 + 1, ?tq, cc7 ++ [(code7, (glyph + rise * ik).fmod 65536)]⟩ [] hisep (by assumption) (by assumption) ?g1 ?g2 rfl (by simp) (by simp) ?g3 ?g4 trivial ?g5
      case g3 =>
        intro p hp; rw [List.mem_singleton.mp hp]; rfl
      case g1 =>
        intro p hp; simp only [List.nil_append, List.cons_append, List.mem_cons, List.mem_append] at hp ⊢; grind
      case g2 =>
        intro p hp; simp [hp]
      case g4 =>
        intro z h1 h2 _
        have h2' := h2 _ (List.mem_singleton.mpr rfl)
        dsimp only at h2'
        simp [h1, h2', kstB]
      case g5 =>
        rw [List.length_append, List.length_singleton]
        exact OkC.put hiP (Int.fmod_nonneg_of_pos _ (by decide)) (Int.fmod_lt_of_pos _ (by decide)) hd9 hf9
    · intro c itl iu ih itk hioff _ hiP F' N'
      obtain ⟨x7, y7, tx7, ty7, n7, od7, kvs7, code7, tc7, cc7⟩ := c
      try dsimp only at hiP F' N'
      try dsimp only [kstB] at F'
      simp only [List.cons_append, List.nil_append] at N'
      have hRs' : ∀ p ∈ (d, od7) :: (rest ++ (tl ++ own) ++ itl), p.1 ≠ src := by
        intro p hp
        simp only [List.mem_cons, List.mem_append] at hp
        rcases hp with h1 | h1 | h1
        · subst h1; exact hds
        · exact hRs p (by simp only [List.mem_cons, List.mem_append]; exact .inr h1)
        · exact hioff p h1 src (by simp)
      k_steps
      rename_i t8 _ F8 N8 l8
      refine Stop.out ?_
      refine one_use (rest := (d, od7) :: (rest ++ (tl ++ own) ++ itl)) (ns := [0, 1, 1, 3]) (by assumption) F8 (by assumption) N8 (by assumption) rfl (by ktr_room) (by ktr_units) hx hy hy2 (List.mem_cons_of_mem _ (List.mem_cons_of_mem _ List.mem_cons_self)) List.mem_cons_self (lt_ne l8.2.1) (.cons _ _ (.cons _ _ (.cons _ _ (.cons _ _ .nil)))) (by simp) (by simp) (fun p hp => ⟨by simp only [List.mem_cons] at hp ⊢; grind, hRs' p hp⟩) ?_
      clear hx hy hy2 F8 N8 l8
      intro gap tg' x8 y8 tx8 ty8 n8 h8 tk8 F8 N8 hx hy hy2 hgap
      have hg : 0 ≤ gap ∧ gap ≤ 3 := by simp at hgap; omega
      k_steps
      refine kd_end (σ := CSt) ⟨x8, y8, tx8, ty8, n8, od7, kvs7, code7 + gap, ?tr, cc7⟩ [] hsep (by assumption) (by assumption) ?e1 ?e2 rfl (by simp) (by simp) ?e3 ?e4 trivial ?e5
      case e3 =>
        intro p hp; rw [List.mem_singleton.mp hp]; rfl
      case e1 =>
        intro p hp; simp only [List.nil_append, List.cons_append, List.mem_cons, List.mem_append] at hp ⊢; grind
      case e2 =>
        intro p hp; simp only [List.mem_cons, List.mem_append]; grind
      case e4 =>
        intro z h1 h2 h3
        have h2' := h2 _ (List.mem_singleton.mpr rfl)
        dsimp only at h2'
        simp at h3
        simp [h1, h2', h3, kstB]
      case e5 =>
        have hlen := rangeKs_length 0 (1 + steps).toNat
        refine ⟨hx, hy, hy2, hiP.dict, hiP.flat, ?_, ?_, ?_, ?_, hiP.nodup⟩
        · have := hiP.lo; dsimp only at this ⊢; omega
        · have := hiP.hi; dsimp only at this ⊢; simp only [List.length_append, List.length_singleton]; omega
        · have := hiP.len; dsimp only at this ⊢; simp only [List.length_append, List.length_singleton]; omega
        · intro p hp; have := hiP.keys p hp; dsimp only at this ⊢; omega
  · intro c tl u h tk hoff _ hP F' N'
    obtain ⟨x7, y7, tx7, ty7, n7, od7, kvs7, code7, tc7, cc7⟩ := c
    try dsimp only at hP F' N'
    k_steps
    rename_i kN _ _
    have hlen := rangeKs_length 0 top.toNat
    refine hret _ _ _ _ (by assumption) (fun p hp => kN p ?_) ⟨x7, y7, tx7, ty7, n7, d, od7, kvs7, cc7, rfl, rfl, lo, hP.dict, hP.flat, ⟨hP.nodup, ?_, ?_⟩, hP.x0, hP.y0, hP.y1⟩
    · simp only [List.nil_append, List.cons_append, List.mem_cons, List.mem_append] at hp ⊢; grind
    · intro p hp; have := hP.keys p hp; have := hP.hi; dsimp only at *; omega
    · have := hP.len; dsimp only at this; omega
end Mine
end

section
open PySem PySem.W PyProof.Rows PySem.Calls Builtin
set_option Elab.async false
set_option maxRecDepth 100000
set_option maxHeartbeats 8000000
namespace Mine
theorem slot_join : Slot "bytes" "join" "bytes.join" :=
  .of (owner := "bytes") (n := "join") (by rw [typeLookup_type, builtinLookup_eq_fast]; kernel_rfl) (by decide +kernel) (by decide +kernel) (by decide +kernel)
    (by first | exact .inl (by decide +kernel) | exact .inr (by decide +kernel)) (by rw [isSubtype_type]; kernel_rfl)
theorem type_join : typeOf (.builtin "bytes.join") = pure (.type "method_descriptor") := by show builtinType _ = _; rw [builtinType_eq_fast]; kernel_rfl
theorem entry_join : entryFor table "bytes.join" = some Builtin.«bytes.join» := entryFor_of_tree (by kernel_rfl)
theorem args_join_2 (a b : Value) : argsOk "bytes.join" ⟨[a, b], []⟩ := by
  unfold argsOk; rw [signature?_of (id := "bytes.join") (n := ['n', 'i', 'o', 'j']) (o := ['s', 'e', 't', 'y', 'b']) (by kernel_rfl) FB.owner_bytes]; kernel_rfl
theorem method_join {M : Model} {A : Around} {E : Value → Shared → Prop} {s : Shared} {b : Array UInt8} {t : Tok} {pl : Sem Bool} {Q : Value × List Value → Shared → Prop} (h : Q (.builtin "bytes.join", [.bytes b t]) s) :
    wpAny M A (getMethod (.bytes b t) "join" pl) Q E s :=
  getMethod_builtin (typeIs_bytes s b t) FB.plainAttrs_bytes slot_join type_join (fun _ e => nomatch e) h

theorem loop_inv {M : Model} {A : Around} {E : Value → Shared → Prop} {β : Type} {f : Nat → β → Sem (ForInStep β)} (I : Nat → β → Shared → Prop) (n : Nat)
    (h : ∀ i b s, i < n → I i b s → wpAny M A (f i b) (fun r s' => ∃ b', r = .yield b' ∧ I (i + 1) b' s') E s) :
    ∀ k i b s, i + k = n → I i b s → wpAny M A (forIn (List.range' i k 1) b f) (fun b' s' => I n b' s') E s := by
  intro k
  induction k with
  | zero =>
    intro i b s hi hI
    simp only [List.range'_zero, List.forIn_nil]
    exact wpAny_pure (by rw [← hi]; exact hI)
  | succ k ih =>
    intro i b s hi hI
    rw [List.range'_succ, List.forIn_cons]
    refine wpAny_bind (wpAny_mono (h i b s (by omega) hI) (fun r s' hr => ?_) fun _ _ e => e)
    obtain ⟨b', rfl, hb⟩ := hr
    exact ih (i + 1) b' s' (by omega) hb
theorem take_eq {id : String} {b : Array UInt8} {t : Tok} : Bytes.takeBuffer? id (.bytes b t) 0 = pure (some (b, none)) := by
  unfold Bytes.takeBuffer?
  rw [KBy.special_eq KBy.look_buffer, KBy.own_buffer]
  have e : ((0 : Int) == Bytes.fullReadOnly) = false := by decide
  simp only [pure_bind, e]
  rw [KBy.buffer_eq]
  rfl
theorem take_quiet {id : String} {b : Array UInt8} {t : Tok} : Bytes.takeBufferQuiet? id (.bytes b t) 0 = pure (some (b, none)) := by
  unfold Bytes.takeBufferQuiet?
  rw [take_eq]
  rfl
abbrev bv (p : Array UInt8 × Tok) : Value := .bytes p.1 p.2
theorem joined_go (ps : List (Array UInt8)) : ∀ (k : Nat) (out : Array UInt8), KBw.bInts ((ps.zipIdx k).foldl (fun out x => (if x.2 > 0 then out ++ #[] else out) ++ x.1) out) = KBw.bInts out ++ (ps.map KBw.bInts).flatten := by
  induction ps with
  | nil => intro k out; simp
  | cons p r ih =>
    intro k out
    rw [List.zipIdx_cons, List.foldl_cons, ih]
    have e : (if k > 0 then out ++ (#[] : Array UInt8) else out) = out := by split <;> simp
    show KBw.bInts ((if k > 0 then out ++ (#[] : Array UInt8) else out) ++ p) ++ _ = _
    rw [e, KBw.ints_app rfl rfl]
    simp
theorem joined_nil (ps : List (Array UInt8)) : KBw.bInts (Bytes.joined #[] ps) = (ps.map KBw.bInts).flatten := by
  have := joined_go ps 0 #[]
  have e : KBw.bInts #[] = [] := rfl
  rw [e, List.nil_append] at this
  exact this
theorem foldl_sz (ps : List (Array UInt8)) : ∀ k : Nat, ps.toArray.foldl (fun a b => a + b.size) k = k + (ps.map (·.size)).sum := by
  induction ps with
  | nil => intro k; simp
  | cons p r ih =>
    intro k
    simp only [List.foldl_toArray', List.foldl_cons, List.map_cons, List.sum_cons] at ih ⊢
    rw [ih]; omega
theorem flat_len (ps : List (Array UInt8)) : ((ps.map KBw.bInts).flatten).length = (ps.map (·.size)).sum := by
  induction ps with
  | nil => rfl
  | cons p r ih => simp only [List.map_cons, List.flatten_cons, List.length_append, List.sum_cons, ih, KBw.ints_length]
theorem letgo_nil {M : Model} {A : Around} {E : Value → Shared → Prop} {s : Shared} {v : Value} {Q : Unit → Shared → Prop} (bts : List (Array UInt8 × Tok)) (h : Q () s) : wpAny M A (Bytes.joinLetGo (bts.map fun p => (bv p, none)) [v]) Q E s := by
  induction bts with
  | nil => exact wpAny_pure h
  | cons p r ih =>
    simp only [List.map_cons, Bytes.joinLetGo]
    refine wpAny_bind ?_
    show wpAny M A (letGo [bv p] _) _ E s
    unfold letGo
    refine wpAny_bind (wpAny_holding (wpAny_point ?_))
    exact wpAny_pure ih
section
variable {prog : Program} {w : World} {A : Around} {E : Value → Shared → Prop} {s : Shared} {D : Addr} {n : Nat} {t : Tok} {bts : List (Array UInt8 × Tok)}
theorem call_join {Q : Value → Shared → Prop} (hl : s.heap.get? D = some (W.listOf (bts.map bv).toArray n)) (hsz : (bts.map fun p => p.1.size).sum ≤ 16777216)
    (h : ∀ b t' tk, KBw.bInts b = (bts.map fun p => KBw.bInts p.1).flatten → Q (.bytes b t') { s with toks := tk }) :
    wpAny (model prog w) A (call (.builtin "bytes.join") [.bytes #[] t, .ref D]) Q E s := by
  refine wpAny_call_entry slot_join (typeIs_bytes s _ t) entry_join ?_ (args_join_2 _ _)
  unfold Builtin.«bytes.join» Bytes.joinM
  refine wpAny_bind (wpAny_of_eq (a := (Value.bytes #[] t, Value.ref D)) rfl ?_)
  have hL : s.heap.IsList D (bts.map bv).toArray := ⟨_, hl, rfl, n, rfl⟩
  show wpAny _ _ (Bytes.joinItems (Value.ref D) >>= _) _ _ _
  refine wpAny_bind ?_
  unfold Bytes.joinItems
  refine wpAny_bind (wpAny_typeOf hL.typeIs ?_)
  rw [if_pos (by decide)]
  refine wpAny_pure ?_
  refine wpAny_bind (wpAny_seqItems hl rfl ?_)
  dsimp only
  rw [if_pos (by decide)]
  rcases bts with _ | ⟨⟨b, t2⟩, _ | ⟨q, r⟩⟩
  case cons.nil =>
    show wpAny _ _ (typeOf _ >>= _) _ _ _
    refine wpAny_bind (wpAny_typeOf (typeIs_bytes s b t2) ?_)
    rw [if_pos (by decide)]
    refine wpAny_bind (wpAny_rule ?_)
    exact wpAny_pure ⟨_, rfl, h b t2 s.toks (by simp)⟩
  all_goals
    show wpAny _ _ (forIn _ _ _ >>= _) _ _ _
  · show wpAny _ _ (forIn [:0] _ _ >>= _) _ _ _
    rw [KPc.range_list]
    refine wpAny_bind (wpAny_pure ?_)
    dsimp only
    refine wpAny_bind (wpAny_of_eq (a := #[]) rfl ?_)
    rw [if_neg (by decide)]
    refine wpAny_bind (m := Bytes.Kind.new .bytes _) (wpAny_mkBytes ?_ (by decide))
    refine wpAny_bind (wpAny_holding (wpAny_point ?_))
    refine wpAny_bind (wpAny_pure ?_)
    exact wpAny_pure ⟨_, rfl, h _ _ _ rfl⟩
  · generalize hbts : (b, t2) :: q :: r = bts at *
    have hsize : (bts.map bv).toArray.size = bts.length := by simp
    rw [hsize, KPc.range_list]
    refine wpAny_bind (wpAny_mono (loop_inv (fun i st s' => s' = s ∧ st = (((bts.take i).map (·.1)).toArray, (bts.take i).map fun p => (bv p, none))) bts.length ?_ bts.length 0 _ s (by omega) ⟨rfl, rfl⟩) ?_ (fun _ _ e => e))
    · rintro i st s' hi ⟨rfl, rfl⟩
      have hg : ((bts.map bv).toArray.getD i Value.none) = bv (bts[i]'hi) := by simp [Array.getD, hi]
      refine wpAny_bind (wpAny_seqItems hl rfl ?_)
      dsimp only
      rw [if_neg (by rw [show (Bytes.Kind.bytes == Bytes.Kind.bytearray) = false from rfl, Bool.false_or, List.any_map]; intro e; obtain ⟨p, _, h⟩ := List.any_eq_true.mp e; cases h)]
      rw [hg]
      refine wpAny_bind (wpAny_holding (wpAny_of_eq take_quiet ?_))
      dsimp only
      refine wpAny_bind (wpAny_seqItems hl rfl ?_)
      dsimp only
      rw [if_neg (by simp)]
      refine wpAny_pure ⟨_, rfl, rfl, ?_⟩
      rw [List.take_succ_eq_append_getElem hi, List.map_append, List.map_append]
      simp only [List.map_cons, List.map_nil, List.push_toArray]
    · rintro st s' ⟨rfl, rfl⟩
      have htk : bts.take bts.length = bts := List.take_length
      rw [htk]
      dsimp only
      refine wpAny_bind (wpAny_of_eq (a := #[]) rfl ?_)
      rw [if_neg (by rw [foldl_sz, List.map_map]; unfold Bytes.tooLong; rw [sizeLine_eq]; simp; exact hsz)]
      have hj := joined_nil (bts.map (·.1))
      refine wpAny_bind (m := Bytes.Kind.new .bytes _) (wpAny_mkBytes ?_ ?_)
      · refine wpAny_bind (wpAny_holding (wpAny_point ?_))
        refine wpAny_bind (letgo_nil bts ?_)
        refine wpAny_pure ⟨_, rfl, h _ _ _ ?_⟩
        rw [hj, List.map_map]; rfl
      · have h1 := congrArg List.length hj
        rw [flat_len, KBw.ints_length, List.map_map] at h1
        rw [h1, sizeLine_eq]; exact hsz
end
end Mine
end

section
open PySem PySem.W PyProof.Rows PySem.Calls PyProof.Rows.LCg PyProof.Rows.LCt
set_option Elab.async false
set_option maxRecDepth 100000
set_option maxHeartbeats 8000000
namespace Mine
section
variable {prog : Program} {w : World} {A : Around} {E : Value → Shared → Prop} {s : Shared} {h₀ : Heap} {L : Addr} {m : PySem.Str → Option Value} {env : Env}
def SrcD (prog : Program) (w : World) (A : Around) (h₀ : Heap) (L : Addr) (m : PySem.Str → Option Value) (env : Env) (ct elt : Expr) (x : PySem.Str) (scope : Scope) (cl : List (PySem.Str × Addr)) (Fin : Shared → List Value → List (Addr × Obj) → Prop) (xv : Value) (s₁ : Shared) : Prop :=
  ∃ (d : Addr) (o : Obj) (kvs : List (Int × Value)) (news : List (Addr × Obj)), xv = .ref d ∧ A.handled = none ∧ Fr h₀ L s₁.heap m ∧ News h₀ L s₁.heap news ∧ (d, o) ∈ news ∧ (d == sysModules) = false ∧ o.IsDictOf (PySem.intKind prog w) kvs ∧ kvs.length ≤ sizeLine ∧
    ∀ s₂ : Shared, (∃ h, s₂ = { s₁ with heap := h }) → CompRestT prog w A h₀ L m env ct elt x scope cl s₂ (fun nw => (d, o) ∈ nw) (fun i v => ∃ k y, kvs[i]? = some (k, y) ∧ (PySem.intKind prog w).is k v = true) (Fin s₂) kvs.length 0 [] news
theorem listcomp_dict {ct elt iter : Expr} {x : PySem.Str} {px : Pos} {scope : Scope} {cl : List (PySem.Str × Addr)} {pos : Pos} {Q : Value → Shared → Prop} (_F₀ : Fr h₀ L s.heap m)
    (hclos : closureFor scope env = pure cl) (hcell : ∀ y ∈ scope.names, y.2 ≠ .cell) (hkind : scope.kind = .function)
    (hnames : ∀ y ∈ scope.names, y.2 = .local → scope.names.lookup y.1 = some .local) (hx : scope.names.lookup x = some .local)
    (h : wpAny (model prog w) A (eval iter env) (SrcD prog w A h₀ L m env ct elt x scope cl (fun s₂ => FinE h₀ L m s₂ Q)) E s)
    (hs : ∀ x, foldedSetIterable iter env x = pure x := by intro _; rfl) :
    wpAny (model prog w) A (eval (.ListComp elt [⟨.Name x px, iter, [ct], 0⟩] scope pos) env) Q E s := by
  rw [eval_ListComp]
  refine wpAny_comprehension_free (use := none) rfl hs hclos hkind hnames (wpAny_mono h (fun xv s₁ h₁ => ?_) fun _ _ e => e)
  obtain ⟨d, o, kvs, news, rfl, hh, F, N, hm, lo, hd, hsz, R⟩ := h₁
  obtain ⟨ep, hk⟩ := KdkAt.of hd
  have hD : s₁.heap.DictAt (PySem.intKind prog w) d kvs ep := hk.dictAt (N _ hm).1
  have hlt : d < s₁.heap.objs.size := Heap.lt_size (N _ hm).1
  refine wpAny_pyIter_dict lo hD ?_
  have up : ∀ b o, s₁.heap.get? b = some o → (s₁.heap.push { cls := .type "dict_keyiterator", data := .fields #[.ref d, .int 0 0, .int kvs.length 0, .int ep 0] }).get? b = some o := fun b o e => Heap.get?_push_of_some _ e
  refine block_T (Walks.dictKeys hh s₁.heap.objs.size d (Nat.ne_of_lt hlt) kvs ep) hsz (fun i h st => by obtain ⟨o, e, _⟩ := st.1; exact ⟨o, e⟩) ?_ hcell hkind hx ⟨⟨_, Heap.get?_push_size _ rfl, rfl, rfl⟩, hD.at' fun o e => up _ o e⟩ (fun b hb => ?_)
      (F.keeps up) (N.grown up) (Nat.ne_of_lt F.ns.lt) (next_is_new F) (fun p hp => Nat.ne_of_lt (Heap.lt_size (N p hp).1)) hm (R _ ⟨_, rfl⟩) ?_
  · rintro i h h' o' nw ⟨st1, st2⟩ e e' keep N' hS
    refine ⟨?_, hk.dictAt (N' _ hS).1⟩
    obtain ⟨o1, q, r⟩ := st1
    rw [e] at q
    cases q
    exact ⟨_, e', r⟩
  · show b < (s₁.heap.push _).objs.size
    rw [Heap.size_push]
    rcases List.mem_cons.mp hb with rfl | hb
    · exact Nat.lt_succ_self _
    · rw [List.mem_singleton.mp hb]; exact Nat.lt_succ_of_lt hlt
  · intro D C h tk m' ys news' F' N' o1 hn hC₀ hD₀ hCL hDL hCD offC fin
    refine ⟨m', hn, fun h'' hs'' => fin D h'' tk (F'.change hs'' hCL hC₀) (fun p hp => ?_) o1⟩
    refine ⟨hs''.extBut _ _ ?_ (N' p hp).1, (N' p hp).2⟩
    rcases List.mem_cons.mp hp with rfl | hp
    · exact Ne.symm hCD
    · exact offC p hp
/-- the turns of a comprehension with a test over ints, an int an element -/
theorem rest_T {ct elt : Expr} {x : PySem.Str} {scope : Scope} {cl : List (PySem.Str × Addr)} {S : List (Addr × Obj) → Prop} {P : Nat → Value → Prop} {Fin : List Value → List (Addr × Obj) → Prop} {news : List (Addr × Obj)} {n : Nat} {ks : List Int} (p : Int → Bool) (g : Int → Int)
    (hks : ks.length = n) (hP : ∀ i v, i < n → P i v → ∃ k t, ks[i]? = some k ∧ v = .int k t)
    (turn : ∀ k t I oI C oC D m₂ ys h tk (E' : Value → Shared → Prop), k ∈ ks → NsObj oC m₂ → m₂ x = some (.int k t) → Fr h₀ L h m → News h₀ L h ((I, oI) :: (C, oC) :: (D, lst ys) :: news) → Off3 I C D news → ((@Ne Nat I C) ∧ (@Ne Nat I D) ∧ (@Ne Nat C D)) →
      wpAny (model prog w) A (isTrue ct (compEnvC scope cl C env) (eval ct (compEnvC scope cl C env))) (fun ok s' => if ok = true then
        wpAny (model prog w) A (eval elt (compEnvC scope cl C env)) (CompEnd h₀ L m { s with heap := h, toks := tk } I oI C oC D (lst ys) S (fun y news' => p k = true ∧ news' = news ∧ ∃ t, y = .int (g k) t)) E' s'
        else CompEnd h₀ L m { s with heap := h, toks := tk } I oI C oC D (lst ys) S (fun _ news' => p k = false ∧ news' = news) Value.none s') E' { s with heap := h, toks := tk })
    (fin : ∀ ys, IntsAre ys ((ks.filter p).map g) → Fin ys news) : CompRestT prog w A h₀ L m env ct elt x scope cl s S P Fin n 0 [] news := by
  have key : ∀ (j i : Nat) (ys : List Value), i + j = n → IntsAre ys (((ks.take i).filter p).map g) → CompRestT prog w A h₀ L m env ct elt x scope cl s S P Fin j i ys news := by
    intro j
    induction j with
    | zero =>
      intro i ys hi hy
      have e : i = ks.length := by omega
      subst e
      rw [List.take_length] at hy
      exact CompRestT.zero (fin ys hy)
    | succ j ih =>
      intro i ys hi hy
      refine CompRestT.succ ?_
      intro v I oI C oC D m₂ h tk E' hv hC hx F N off ne
      obtain ⟨k, t, hk, hv'⟩ := hP i v (by omega) hv
      rw [hv'] at hx
      refine wpAny_mono (turn k t I oI C oC D m₂ ys h tk E' (List.mem_of_getElem? hk) hC hx F N off ne) (fun ok s₂ hq => ?_) fun _ _ e => e
      have ht : ks.take (i + 1) = ks.take i ++ [k] := by rw [List.take_add_one, hk]; rfl
      cases ok with
      | true =>
        simp only [if_true] at hq ⊢
        refine wpAny_mono hq (fun y s₃ hq => ?_) fun _ _ e => e
        obtain ⟨h', tk', nw, e, F', N', off', hS, hp, hn, t', hy'⟩ := hq
        rw [hn] at N' off' hS
        refine ⟨h', tk', news, e, F', N', off', hS, ?_⟩
        rw [hy']
        refine ih (i + 1) _ (by omega) ?_
        rw [ht, List.filter_append, List.map_append]
        simp only [List.filter_cons, hp, List.filter_nil, if_true, List.map_cons, List.map_nil]
        exact IntsAre.append hy (.cons (g k) t' .nil)
      | false =>
        simp only [Bool.false_eq_true, if_false] at hq ⊢
        obtain ⟨h', tk', nw, e, F', N', off', hS, hp, hn⟩ := hq
        rw [hn] at N' off' hS
        refine ⟨h', tk', news, e, F', N', off', hS, ?_⟩
        refine ih (i + 1) _ (by omega) ?_
        rw [ht, List.filter_append, List.map_append]
        simp only [List.filter_cons, hp, List.filter_nil, Bool.false_eq_true, if_false, List.map_nil, List.append_nil]
        exact hy
  exact key n 0 [] (by omega) (by simp only [List.take_zero, List.filter_nil, List.map_nil]; exact .nil)
theorem flat_keys {kvs : List (Int × Value)} {D : List (PyData × PyData)} (h : PyProof.V.FlatPairs PyData.int kvs D) : ∀ {c : List (Int × Int)}, D = kdfD c → kvs.map (·.1) = c.map (·.1) := by
  induction h with
  | nil =>
    intro c hc
    cases c with
    | nil => rfl
    | cons p r => cases hc
  | cons hv r ih =>
    intro c hc
    cases c with
    | nil => cases hc
    | cons p c =>
      simp only [kdfD, List.map_cons, List.cons.injEq, Prod.mk.injEq, PyData.int.injEq] at hc
      simp only [List.map_cons]
      rw [ih (c := c) hc.2, hc.1.1]
theorem key_int {prog : Program} {w : World} {k : Int} {v : Value} (h : (PySem.intKind prog w).is k v = true) : ∃ t, v = .int k t := by
  obtain ⟨t, e⟩ := PySem.Value.isInt_shape h
  exact ⟨t, e⟩
end
end Mine
end

section
open PySem PySem.W PyProof.Rows
set_option Elab.async false
set_option maxRecDepth 100000
set_option maxHeartbeats 8000000
namespace Mine
section
variable {prog : Program} {w : World} {A : Around} {E : Value → Shared → Prop} {s : Shared} {h₀ : Heap} {L a b : Addr} {m : PySem.Str → Option Value} {news : List (Addr × Obj)} {vs ws : List Value} {n k : Nat}
theorem m_add {Q : Value → Shared → Prop} (F : Fr h₀ L s.heap m) (N : News h₀ L s.heap news) (ha : (a, W.listOf vs.toArray n) ∈ news) (hb : (b, W.listOf ws.toArray k) ∈ news) (hz : vs.length + ws.length ≤ 1000000)
    (h : ∀ D h', Fr h₀ L h' m → News h₀ L h' ((D, W.listOf (vs ++ ws).toArray 0) :: news) → (∀ p ∈ news, p.1 < D) → Q (.ref D) { s with heap := h' }) :
    wpAny (model prog w) A (binaryOp .Add (.ref a) (.ref b)) Q E s :=
  kmk_add_lit F N (N.isList ha) (N.isList hb) (by simp) h (by rw [sizeLine_eq]; simp only [List.toList_toArray]; omega)
theorem m_addI {xs ys : List Int} {Q : Value → Shared → Prop} (F : Fr h₀ L s.heap m) (N : News h₀ L s.heap news) (ha : (a, W.listOf vs.toArray n) ∈ news) (hb : (b, W.listOf ws.toArray k) ∈ news) (hvs : IntsAre vs xs) (hws : IntsAre ws ys) (hz : xs.length + ys.length ≤ 1000000)
    (h : ∀ D zs h', IntsAre zs (xs ++ ys) → Fr h₀ L h' m → News h₀ L h' ((D, W.listOf zs.toArray 0) :: news) → Q (.ref D) { s with heap := h' }) :
    wpAny (model prog w) A (binaryOp .Add (.ref a) (.ref b)) Q E s :=
  m_add F N ha hb (by rw [hvs.length, hws.length]; exact hz) fun D h' F' N' _ => h D _ h' (IntsAre.append hvs hws) F' N'
theorem m_addB {xs ys : List Int} {p q : Nat} {Q : Value → Shared → Prop} (F : Fr h₀ L s.heap m) (N : News h₀ L s.heap news) (ha : (a, W.listOf vs.toArray n) ∈ news) (hb : (b, W.listOf ws.toArray k) ∈ news) (hvs : IntsAre vs xs) (hx : xs.length ≤ p) (hws : IntsAre ws ys) (hy : ys.length ≤ q) (hz : p + q ≤ 1000000)
    (h : ∀ D zs h', IntsAre zs (xs ++ ys) → (xs ++ ys).length ≤ p + q → Fr h₀ L h' m → News h₀ L h' ((D, W.listOf zs.toArray 0) :: news) → Q (.ref D) { s with heap := h' }) :
    wpAny (model prog w) A (binaryOp .Add (.ref a) (.ref b)) Q E s :=
  m_addI F N ha hb hvs hws (le_mil hx hy hz) fun D zs h' i => h D zs h' i (la_app hx hy)
theorem m_addb {b c : Array UInt8} {t u : Tok} {ws vs : List Int} {Q : Value → Shared → Prop} (hb : KBw.bInts b = octL ws) (hc : KBw.bInts c = octL vs) (hz : ws.length + vs.length ≤ 1000000)
    (h : ∀ t' k, KBw.bInts (b ++ c) = octL (ws ++ vs) → Q (.bytes (b ++ c) t') { s with toks := k }) : wpAny (model prog w) A (binaryOp .Add (.bytes b t) (.bytes c u)) Q E s :=
  KBa.add_K hb hc (by rw [octL_len, octL_len]; omega) fun t' k e => h t' k (by rw [octL_append]; exact e)
theorem m_lenb {b : Array UInt8} {t : Tok} {ws : List Int} {Q : Value → Shared → Prop} (hb : KBw.bInts b = octL ws) (hz : ws.length ≤ 1000000)
    (h : ∀ t', Q (.int (2 * (ws.length : Int)) t') { s with toks := s.toks + 1 + 1 }) : wpAny (model prog w) A (call (.builtin "len") [.bytes b t]) Q E s := by
  refine KBw.len_K hb (by rw [octL_len]; omega) ?_
  rw [octL_len]
  have := h (s.toks + 1)
  rw [show ((2 * ws.length : Nat) : Int) = 2 * (ws.length : Int) by omega]
  exact this
theorem ints_dat {vs : List Value} {ns : List Int} (h : IntsAre vs ns) : DatAll ([] : List (Addr × Obj)) vs (ns.map Dat.int) := by
  induction h with
  | nil => exact .nil
  | cons k t _ ih => exact .cons (.int k t) ih
theorem m_notin {a : Addr} {vs : List Value} {ns : List Int} {n : Nat} {i : Int} {t : Tok} {Q : Value → Shared → Prop} (N : News h₀ L s.heap news) (hm : (a, W.listOf vs.toArray n) ∈ news) (hi : IntsAre vs ns) (hu : A.units + 64 < cLine)
    (h : Q (.bool (!ns.contains i)) s) : wpAny (model prog w) A (compareOp .NotIn (.int i t) (.ref a)) Q E s := by
  refine kqd_notIn N hm rfl rfl (ints_dat hi) (fun _ h => nomatch h) (DatIn.int (news := []) i t) (fun _ h => nomatch h) ?_ rfl hu ?_
  · intro d hd
    obtain ⟨k, _, rfl⟩ := List.mem_map.mp hd
    rfl
  · have e : ∀ inst : Decidable (Dat.int i ∈ ns.map Dat.int), @decide (Dat.int i ∈ ns.map Dat.int) inst = ns.contains i := by
      intro inst
      by_cases hi : i ∈ ns
      · rw [List.contains_iff_mem.mpr hi]
        exact @decide_eq_true _ inst (List.mem_map.mpr ⟨i, hi, rfl⟩)
      · have h1 : ns.contains i = false := by
          cases hc : ns.contains i with
          | false => rfl
          | true => exact absurd (List.contains_iff_mem.mp hc) hi
        rw [h1]
        refine @decide_eq_false _ inst fun hc => ?_
        obtain ⟨k, hk, e⟩ := List.mem_map.mp hc
        cases e
        exact hi hk
    rw [e]
    exact h
end
end Mine
end

section
open PySem PySem.W PyProof.Rows
set_option Elab.async false
set_option maxRecDepth 100000
set_option maxHeartbeats 8000000
namespace Mine
def evenB (c : List (Int × Int)) (a b : Int) : Bool := (rangeKs a (b + 1 - a).toNat).all fun k => decide (kdfLook c k 0 - k = kdfLook c a 0 - a)
theorem mem_rangeKs' {a k : Int} {n : Nat} (h1 : a ≤ k) (h2 : k < a + n) : k ∈ rangeKs a n := by
  unfold rangeKs
  exact List.mem_map.mpr ⟨(k - a).toNat, List.mem_range.mpr (by omega), by omega⟩
theorem evenB_iff {c : List (Int × Int)} {a b : Int} (h : a ≤ b) : evenB c a b = true ↔ Even c a b := by
  unfold evenB Even
  rw [List.all_eq_true]
  constructor
  · intro hh k h1 h2
    exact of_decide_eq_true (hh k (mem_rangeKs' h1 (by omega)))
  · intro hh k hk
    have := mem_rangeKs hk
    exact decide_eq_true (hh k this.1 (by omega))
section
variable {w : World} {news : List (Addr × Obj)} {d : Addr} {o : Obj} {kvs : List (Int × Value)} {c : List (Int × Int)} {a b : Int} {ta tb : Tok}
    {mean : ExcName → Option Value} {mg mb : PySem.Str → Option Value} {dp un : Nat} {gd : Option (List Code)} {cn : PySem.Str} {cs : Scope} {aa : Addr} {ccd : Value} {cl : List (PySem.Str × Addr)} {outer : List Env} {A₀ : Around} {base h₀ : Heap} {L : Addr} {m : PySem.Str → Option Value} {s : Shared} {Q E : Value → Shared → Prop}
theorem even_use (B : Below A₀ base outer h₀) (F : Fr h₀ L s.heap m) (X : (hd.heap_39 w.params).In h₀) (N : News h₀ L s.heap news) (T : Top hd.view_39 (looseW hd.view_39 []) mean mg mb h₀) (hk : cs.kind = .function)
    (hdp : dp + 1 < recursionLimit) (hun : un + 8 < cLine)
    (hm : (d, o) ∈ news) (lo : (d == sysModules) = false) (hdd : o.IsDictOf (PySem.intKind PySem.Challenge.rw_xm0714_01.row.prog w) kvs) (hf : PyProof.V.FlatPairs PyData.int kvs (kdfD c))
    (hab : a ≤ b) (ha : -1000000 ≤ a) (hb : b ≤ 1000000) (hhas : ∀ k, a ≤ k → k ≤ b → kdfHas c k = true)
    (ret : ∀ h' tk', Fr h₀ L h' m → News h₀ L h' news → Q (.bool (evenB c a b)) { s with heap := h', toks := tk' }) :
    wpAny (model PySem.Challenge.rw_xm0714_01.row.prog w) (ktrTop dp un gd cn cs L aa ccd cl outer) (call (.ref 67) [.ref d, .int a ta, .int b tb]) Q E s := by
  refine spec_use (even_spec w d o kvs c a b ta tb news hm lo hdd hf hab ha hb hhas) B F X N T hk hdp hun ?_
  rintro v h' tk' news' F' N' ⟨rfl, q, rfl, hq⟩
  have e : q = evenB c a b := by
    rw [← evenB_iff hab] at hq
    cases q <;> cases h : evenB c a b <;> simp_all
  rw [e]
  exact ret h' tk' F' N'
end
structure W3 where
  dw : List Int
  ow : List Int
  lw : List Int
def wStep (c : List (Int × Int)) (R : List (Int × Int)) (st : W3) (at' : Int) : W3 :=
  if at' = (R.length : Int) - 1 then ⟨st.dw ++ [1], st.ow ++ [0], st.lw⟩
  else if evenB c (R.getD at'.toNat (0, 0)).1 (R.getD at'.toNat (0, 0)).2 = true then ⟨st.dw ++ [kdfLook c (R.getD at'.toNat (0, 0)).1 0 - (R.getD at'.toNat (0, 0)).1], st.ow ++ [0], st.lw⟩
  else ⟨st.dw ++ [0], st.ow ++ [2 * ((R.length : Int) - at') + 2 * (st.lw.length : Int)], st.lw ++ (rangeKs (R.getD at'.toNat (0, 0)).1 ((R.getD at'.toNat (0, 0)).2 + 1 - (R.getD at'.toNat (0, 0)).1).toNat).map fun k => kdfLook c k 0⟩
def PowAt (p : Int) (k : Nat) : Prop := (p = 1 ∧ k = 0) ∨ (p = 2 ∧ k = 1) ∨ (p = 4 ∧ k = 2) ∨ (p = 8 ∧ k = 3) ∨ (p = 16 ∧ k = 4)
def expo (n : Nat) : Nat := ((rangeKs 1 15).filter fun k => decide ((2 : Int) ^ k.toNat ≤ (n : Int) + 1)).length
theorem expo_all : ∀ n : Fin 17, (((2 : Int) ^ expo n.val = 1 ∧ expo n.val = 0) ∨ ((2 : Int) ^ expo n.val = 2 ∧ expo n.val = 1) ∨ ((2 : Int) ^ expo n.val = 4 ∧ expo n.val = 2) ∨ ((2 : Int) ^ expo n.val = 8 ∧ expo n.val = 3) ∨ ((2 : Int) ^ expo n.val = 16 ∧ expo n.val = 4)) ∧ (2 : Int) ^ expo n.val ≤ (n.val : Int) + 1 ∧ (n.val : Int) + 1 < 2 * (2 : Int) ^ expo n.val := by decide +kernel
theorem pow_step {p : Int} {k : Nat} {n : Int} (h : PowAt p k) (h1 : p * 2 ≤ n) (h2 : n ≤ 17) : PowAt (p * 2) (k + 1) := by
  have c := Int.le_trans h1 h2
  rcases h with ⟨rfl, rfl⟩ | ⟨rfl, rfl⟩ | ⟨rfl, rfl⟩ | ⟨rfl, rfl⟩ | ⟨rfl, rfl⟩
  · exact .inr (.inl ⟨rfl, rfl⟩)
  · exact .inr (.inr (.inl ⟨rfl, rfl⟩))
  · exact .inr (.inr (.inr (.inl ⟨rfl, rfl⟩)))
  · exact .inr (.inr (.inr (.inr ⟨rfl, rfl⟩)))
  · exact absurd c (by decide)
theorem pow_less {p n : Int} (h : 1 ≤ p) (h1 : p * 2 ≤ n) : (n - p * 2).toNat < (n - p).toNat := by omega
theorem pow_bnd {p : Int} {k : Nat} (h : PowAt p k) : 1 ≤ p ∧ p ≤ 16 := by
  rcases h with ⟨rfl, rfl⟩ | ⟨rfl, rfl⟩ | ⟨rfl, rfl⟩ | ⟨rfl, rfl⟩ | ⟨rfl, rfl⟩ <;> decide
theorem pow_ex {p : Int} {k : Nat} (h : PowAt p k) : k ≤ 4 := by
  rcases h with ⟨rfl, rfl⟩ | ⟨rfl, rfl⟩ | ⟨rfl, rfl⟩ | ⟨rfl, rfl⟩ | ⟨rfl, rfl⟩ <;> decide
theorem expo_ok {n : Nat} (h : n ≤ 16) : PowAt (2 ^ expo n) (expo n) ∧ (2 : Int) ^ expo n ≤ (n : Int) + 1 ∧ (n : Int) + 1 < 2 * 2 ^ expo n := expo_all ⟨n, by omega⟩
def wfBody (R : List (Int × Int)) (st : W3) (p : Int) (k : Nat) : List Int :=
  [2 * (R.length : Int), 2 * p, (k : Int), 2 * ((R.length : Int) - p)] ++ R.map (·.2) ++ [0] ++ R.map (·.1) ++ st.dw ++ st.ow ++ st.lw
def wfWords (c : List (Int × Int)) (R : List (Int × Int)) (p : Int) (k : Nat) : List Int :=
  [4, 6 + 2 * ((wfBody R ((rangeKs 0 R.length).foldl (wStep c R) ⟨[], [], []⟩) p k).length : Int), 0] ++ wfBody R ((rangeKs 0 R.length).foldl (wStep c R) ⟨[], [], []⟩) p k
/-- what a row holds of the codes -/
theorem runs_inv (ks : List Int) : ∀ (f : List (Int × Int)) (n : Nat) (S : List Int), (∀ p ∈ f, p.1 ≤ p.2 ∧ p.2 - p.1 + 1 ≤ n ∧ ∀ k, p.1 ≤ k → k ≤ p.2 → k ∈ S) →
    ∀ p ∈ ks.foldl runStep f, p.1 ≤ p.2 ∧ p.2 - p.1 + 1 ≤ (n + ks.length : Nat) ∧ ∀ k, p.1 ≤ k → k ≤ p.2 → k ∈ S ++ ks := by
  induction ks with
  | nil =>
    intro f n S h p hp
    simpa using h p hp
  | cons x r ih =>
    intro f n S h p hp
    have hstep : ∀ q ∈ runStep f x, q.1 ≤ q.2 ∧ q.2 - q.1 + 1 ≤ (n + 1 : Nat) ∧ ∀ k, q.1 ≤ k → k ≤ q.2 → k ∈ S ++ [x] := by
      intro q hq
      rcases List.eq_nil_or_concat f with rfl | ⟨fs, l, rfl⟩
      · rw [runStep_nil, List.mem_singleton] at hq
        subst hq
        refine ⟨Int.le_refl _, by omega, fun k h1 h2 => ?_⟩
        have h1' : x ≤ k := h1
        have h2' : k ≤ x := h2
        simp; right; omega
      · rw [List.concat_eq_append] at h hq
        by_cases hl : l.2 = x - 1
        · rw [runStep_hit _ _ _ hl] at hq
          rcases List.mem_append.mp hq with hq | hq
          · have := h q (List.mem_append_left _ hq)
            exact ⟨this.1, by omega, fun k h1 h2 => List.mem_append_left _ (this.2.2 k h1 h2)⟩
          · rw [List.mem_singleton] at hq
            subst hq
            have := h l (by simp)
            refine ⟨by show l.1 ≤ x; omega, by show x - l.1 + 1 ≤ _; omega, fun k h1 h2 => ?_⟩
            have h2' : k ≤ x := h2
            by_cases hk : k = x
            · simp [hk]
            · exact List.mem_append_left _ (this.2.2 k h1 (by omega))
        · rw [runStep_miss _ _ _ hl] at hq
          rcases List.mem_append.mp hq with hq | hq
          · have := h q hq
            exact ⟨this.1, by omega, fun k h1 h2 => List.mem_append_left _ (this.2.2 k h1 h2)⟩
          · rw [List.mem_singleton] at hq
            subst hq
            refine ⟨Int.le_refl _, by omega, fun k h1 h2 => ?_⟩
            have h1' : x ≤ k := h1
            have h2' : k ≤ x := h2
            simp; right; omega
    have := ih (runStep f x) (n + 1) (S ++ [x]) hstep p hp
    simp only [List.length_cons, List.append_assoc, List.singleton_append] at this ⊢
    refine ⟨this.1, by omega, this.2.2⟩
theorem runs_ok {ns : List Int} : ∀ p ∈ ns.foldl runStep [], p.1 ≤ p.2 ∧ p.2 - p.1 + 1 ≤ (ns.length : Nat) ∧ ∀ k, p.1 ≤ k → k ≤ p.2 → k ∈ ns := by
  intro p hp
  have := runs_inv ns [] 0 [] (fun _ h => nomatch h) p hp
  simpa using this
end Mine
end

section
open PySem PySem.W PyProof.Rows PySem.Calls PyProof.Rows.LCg PyProof.Rows.LCp
set_option Elab.async false
set_option maxRecDepth 100000
set_option maxHeartbeats 8000000
namespace Mine
theorem flat_oct {α : Type} (l : List α) (f : α → Int) : (l.map fun p => octL [f p]).flatten = octL (l.map f) := by
  unfold octL
  rw [List.map_map]
  have e : (fun p => (List.map octs [f p]).flatten) = octs ∘ f := by funext p; simp
  rw [e]
theorem bts_sum {α : Type} {bts : List (Array UInt8 × Tok)} {l : List α} {f : α → Int} (h : (bts.map fun p => KBw.bInts p.1) = l.map fun p => octL [f p]) : (bts.map fun p => p.1.size).sum = 2 * l.length := by
  have h1 := flat_len (bts.map (·.1))
  rw [List.map_map, List.map_map] at h1
  have h2 : (KBw.bInts ∘ fun x : Array UInt8 × Tok => x.1) = fun p => KBw.bInts p.1 := rfl
  rw [h2, h, flat_oct, octL_len, List.length_map] at h1
  exact h1.symm
section
variable {prog : Program} {w : World} {A : Around} {E : Value → Shared → Prop} {s : Shared} {h₀ : Heap} {L : Addr} {m : PySem.Str → Option Value} {env : Env}
/-- the turns of a comprehension over pairs, bytes an element -/
theorem rest_P {elt : Expr} {x x₂ : PySem.Str} {scope : Scope} {cl : List (PySem.Str × Addr)} {S : List (Addr × Obj) → Prop} {P : Nat → Value → Prop} {Fin : List Value → List (Addr × Obj) → Prop} {news : List (Addr × Obj)} {n : Nat} {ps : List (Int × Int)} (f : Int × Int → Int)
    (hn : ps.length = n) (hP : ∀ i v, i < n → P i v → ∃ p, ps[i]? = some p ∧ DatIn news v (pd p))
    (turn : ∀ p t1 t2 I oI C oC D m₂ ys h tk (E' : Value → Shared → Prop), p ∈ ps → NsObj oC m₂ → m₂ x = some (.int p.1 t1) → m₂ x₂ = some (.int p.2 t2) → Fr h₀ L h m → News h₀ L h ((I, oI) :: (C, oC) :: (D, lst ys) :: news) → Off3 I C D news → ((@Ne Nat I C) ∧ (@Ne Nat I D) ∧ (@Ne Nat C D)) →
      wpAny (model prog w) A (eval elt (compEnvC scope cl C env)) (CompEnd h₀ L m { s with heap := h, toks := tk } I oI C oC D (lst ys) S (fun y news' => news' = news ∧ ∃ b t, y = .bytes b t ∧ KBw.bInts b = octL [f p])) E' { s with heap := h, toks := tk })
    (fin : ∀ bts : List (Array UInt8 × Tok), (bts.map fun p => KBw.bInts p.1) = ps.map (fun p => octL [f p]) → Fin (bts.map bv) news) : CompRestP prog w A h₀ L m env elt x x₂ scope cl s S P Fin n 0 [] news := by
  have key : ∀ (j i : Nat) (bts : List (Array UInt8 × Tok)), i + j = n → (bts.map fun p => KBw.bInts p.1) = (ps.take i).map (fun p => octL [f p]) → CompRestP prog w A h₀ L m env elt x x₂ scope cl s S P Fin j i (bts.map bv) news := by
    intro j
    induction j with
    | zero =>
      intro i bts hi hy
      have e : i = ps.length := by omega
      subst e
      rw [List.take_length] at hy
      exact CompRestP.zero (fin bts hy)
    | succ j ih =>
      intro i bts hi hy
      refine CompRestP.succ fun v hv => ?_
      obtain ⟨p, hp, hd⟩ := hP i v (by omega) hv
      obtain ⟨a, t1, t2, nt, rfl, ha⟩ := pd_inv hd
      refine ⟨a, _, _, _, nt, rfl, ha, rfl, rfl, ?_⟩
      intro I oI C oC D m₂ h tk E' hC hx hx2 F N off ne
      refine wpAny_mono (turn p t1 t2 I oI C oC D m₂ _ h tk E' (List.mem_of_getElem? hp) hC hx hx2 F N off ne) (fun y s₂ hq => ?_) fun _ _ e => e
      obtain ⟨h', tk', nw, e, F', N', off', hS, hn', b, t, hy', hb⟩ := hq
      rw [hn'] at N' off' hS
      refine ⟨h', tk', news, e, F', N', off', hS, ?_⟩
      rw [hy']
      have := ih (i + 1) (bts ++ [(b, t)]) (by omega) (by
        rw [List.take_add_one, hp, List.map_append, List.map_append, hy]
        simp [hb])
      rw [List.map_append] at this
      exact this
  exact key n 0 [] (by omega) (by simp)
end
end Mine
end

section
open PySem PySem.W PyProof.Rows PyProof.Rows.LCg PyProof.Rows.LCt
set_option Elab.async false
set_option maxRecDepth 100000
set_option maxHeartbeats 8000000
namespace Mine
local macro_rules | `(tactic| walk_at "pyIter ref") => `(tactic| ((with_reducible show wpAny _ _ (pyIter (Value.ref _)) (fun it s₂ => LoopAtV _ _ _ _ _ _ _ _ _ it s₂) _ _); refine Stop.mk ?_))
local macro_rules | `(tactic| walk_at "exec For Name Call cons nil") => `(tactic| (k_here; (rename Fr _ _ _ _ => lF'); (with_unfolding_all refine' For_invVF lF' ?k1 ?k2 ?_; (case k1 => exact rfl); (case k2 => exact rfl); k_whole)))
local macro_rules | `(tactic| walk_at "call ref") => `(tactic| (k_here; refine Stop.mk ?_))
local macro_rules | `(tactic| walk_at "call ref") => `(tactic| (k_here; (with_reducible show wpAny _ _ (call (Value.ref 53) [Value.int _ _]) _ _ _); k_dflt (refine' put16_use ?B ?F ?X ?N ?T ?k ?d ?u ?_; (case B => k_asm); (case F => k_asm); (case X => k_asm); (case N => k_asm); (case T => k_asm); (case k => first | exact rfl | assumption); (case d => ktr_room); (case u => ktr_units)); intro b9 t9 h9 tk9 F9 N9 hb9))
local macro_rules | `(tactic| walk_at "setItem ref int") => `(tactic| (k_here; refine Stop.mk ?_))
local macro_rules | `(tactic| walk_at "eval ListComp") => `(tactic| (k_here; refine Stop.mk ?_))
local macro_rules | `(tactic| walk_at "exec While Compare cons nil") => `(tactic| (k_here; refine Stop.mk ?_))
local macro_rules | `(tactic| walk_at "getMethod bytes") => `(tactic| (k_here; refine method_join ?_))
local macro_rules | `(tactic| walk_at "call builtin:bytes.join") => `(tactic| (k_here; refine Stop.mk ?_))
local macro_rules | `(tactic| walk_at "binaryOp Add ref ref") => `(tactic| (k_here; (with_reducible show wpAny _ _ (binaryOp Operator.Add (Value.ref _) (Value.ref _)) _ _ _); refine Stop.mk ?_))
local macro_rules | `(tactic| walk_at "call builtin:len") => `(tactic| (k_here; (with_reducible show wpAny _ _ (call (Value.builtin "len") [Value.ref _]) _ _ _); refine Stop.mk ?_))
local macro_rules | `(tactic| walk_at "subscriptTail") => `(tactic| (k_here; (with_reducible show wpAny _ _ (subscriptTail _ _ (Value.ref _) (Value.int _ _)) _ _ _); refine Stop.mk ?_))
local macro_rules | `(tactic| walk_at "subscriptTail") => `(tactic| (k_here; kdf_here; (with_reducible show wpAny _ _ (subscriptTail _ _ (Value.ref _) (Value.int _ _)) _ _ _); k_dflt (refine kdf_item (by k_tabat) (by assumption) ?_); intro _))
local macro_rules | `(tactic| walk_at "binaryOp Add bytes bytes") => `(tactic| (k_here; k_dflt (refine' m_addb ?b ?c ?z ?_; (case b => assumption); (case c => assumption); (case z => first | omega | (simp only [List.length_append, List.length_cons, List.length_nil, List.length_map]; omega))); intro t9 k9 hb9))
local macro_rules | `(tactic| walk_at "call builtin:len") => `(tactic| (k_here; (with_reducible show wpAny _ _ (call (Value.builtin "len") [Value.bytes _ _]) _ _ _); k_dflt (refine' m_lenb ?b ?z ?_; (case b => assumption); (case z => first | omega | (simp only [List.length_append, List.length_cons, List.length_nil, List.length_map]; omega))); intro t9))
structure PSt where
  p : Int
  k : Nat
  t : Tok
structure LSt where
  lb : Array UInt8
  tl : Tok
structure WSt where
  st : W3
  db : Array UInt8
  ob : Array UInt8
  lb : Array UInt8
  td : Tok
  to : Tok
  tl : Tok
theorem wf_spec (w : World) (d : Addr) (o : Obj) (kvs : List (Int × Value)) (c : List (Int × Int)) (news : List (Addr × Obj))
    (hm : (d, o) ∈ news) (lo : (d == sysModules) = false) (hd : o.IsDictOf (PySem.intKind PySem.Challenge.rw_xm0714_01.row.prog w) kvs) (hf : PyProof.V.FlatPairs PyData.int kvs (kdfD c))
    (hlen : c.length ≤ 16) (hkeys : ∀ p ∈ c, 0 ≤ p.1 ∧ p.1 ≤ 70000) :
    Spec w 72 2 500 [.ref d] news (fun v news' => news' = news ∧ ∃ (b : Array UInt8) (t : Tok) (ns : List Int) (p : Int) (k : Nat), v = .bytes b t ∧ ns.Perm ((c.map (·.1)).filter fun k => decide (k < 65535)) ∧ ns.Pairwise (· ≤ ·) ∧ PowAt p k ∧
      p ≤ ((ns.foldl runStep [] ++ [((65535 : Int), (65535 : Int))]).length : Int) ∧ ((ns.foldl runStep [] ++ [((65535 : Int), (65535 : Int))]).length : Int) < 2 * p ∧ KBw.bInts b = octL (wfWords c (ns.foldl runStep [] ++ [(65535, 65535)]) p k)) := by
  unfold Spec
  w_top off
  k_fill
  intro mean mg mb dp un gd cn cs aa ccd cl outer A₀ base h₀ L m s Q E B F X N T hcs hdp hun hret
  refine wpAny_call ?_
  k_dflt cell_enter
  rename_i gg LL h0' FG0 F0 N0 B0 X0 T0
  k_steps
  refine Stop.out ?_
  refine listcomp_dict (cl := []) (by assumption) (by with_unfolding_all rfl) (by decide) (by rfl) (by decide) (by rfl) ?_
  k_steps
  refine ⟨d, o, kvs, news, rfl, rfl, by assumption, by assumption, hm, lo, hd, ?_, ?_⟩
  · have h1 := congrArg List.length (flat_keys hf rfl); simp only [List.length_map] at h1; rw [h1, sizeLine_eq]; omega
  rintro s₂ ⟨g, rfl⟩
  refine rest_T (ks := c.map (·.1)) (fun k => decide (k < 65535)) id ?_ ?_ ?_ ?_
  · have h1 := congrArg List.length (flat_keys hf rfl); simp only [List.length_map] at h1 ⊢; exact h1.symm
  · rintro i v hi ⟨k, y, hk, hv⟩
    obtain ⟨t, rfl⟩ := key_int hv
    refine ⟨k, t, ?_, rfl⟩
    rw [← flat_keys hf rfl, List.getElem?_map, hk]; rfl
  · intro k t I oI C oC D m₂ ys h tk E' hk hC hx F' N' off ne
    k_steps
    · refine CompEnd.intro F' N' news (fun p hp => hp) off hm ⟨decide_eq_true (by assumption), rfl, t, rfl⟩
    · refine CompEnd.intro F' N' news (fun p hp => hp) off hm ⟨decide_eq_false (by assumption), rfl⟩
  · intro ys hys D1 h1 tk1 F1 N1 _
    rw [List.map_id] at hys
    generalize hknown : (c.map (·.1)).filter (fun k => decide (k < 65535)) = known at hys
    have hknl : known.length ≤ 16 := by
      have h1 := List.length_filter_le (fun k => decide (k < 65535)) (c.map (·.1))
      rw [hknown, List.length_map] at h1; omega
    dsimp only
    k_steps
    refine Stop.out ?_
    refine spec_use (runs_spec w D1 ys known _ ((D1, lst ys) :: news) List.mem_cons_self hys (by omega)) (by assumption) F1 (by assumption) N1 (by assumption) rfl (by ktr_room) (by ktr_units) ?_
    rintro v h2 tk2 news2 F2 N2 ⟨r, vr, nr, tl2, ns, rfl, rfl, hperm, hsort, hruns⟩
    have hnsl : ns.length ≤ 16 := by rw [hperm.length_eq]; exact hknl
    have hrl := runs_len ns []
    generalize hrdef : ns.foldl runStep [] = runs at hruns hrl
    k_steps
    rename PyProof.V.FlatPairs _ _ _ => hf
    rename_i q1 h3 F3 N3 l3
    obtain ⟨tp, htp⟩ : ∃ tp : Addr, tp = h2.objs.size := ⟨_, rfl⟩
    have N3' : News gg LL h3 ((q1, W.listOf [Value.ref tp].toArray 0) :: (tp, tup2 (.int 65535 245) (.int 65535 245) 0) :: (r, W.listOf vr.toArray nr) :: (tl2 ++ (D1, lst ys) :: news)) := by rw [htp]; exact N3
    have hdat : DatAll ((tp, tup2 (.int 65535 245) (.int 65535 245) 0) :: (tl2 ++ (D1, lst ys) :: news)) (vr ++ [.ref tp]) ((runs ++ [(65535, 65535)]).map pd) := by
      rw [List.map_append, List.map_singleton]
      exact DatAll.append (hruns.mono fun p hp => List.mem_cons_of_mem _ hp) (DatAll.one (pd_mk (p := (65535, 65535)) List.mem_cons_self))
    refine Stop.out ?_
    have hvl := hruns.length
    rw [List.length_map] at hvl
    refine m_add (vs := vr) (ws := [Value.ref tp]) F3 N3' (List.mem_cons_of_mem _ (List.mem_cons_of_mem _ List.mem_cons_self)) List.mem_cons_self (by simp at hrl ⊢; omega) ?_
    intro R h4 F4 N4 hR
    have N5 : News gg LL h4 ((R, W.listOf (vr ++ [Value.ref tp]).toArray 0) :: ((tp, tup2 (.int 65535 245) (.int 65535 245) 0) :: (tl2 ++ (D1, lst ys) :: news))) := news_sub N4 (fun p hp => by
      simp only [List.mem_cons] at hp ⊢
      rcases hp with h | h | h
      · exact .inl h
      · exact .inr (.inr (.inl h))
      · exact .inr (.inr (.inr (.inr h))))
    have hd5 : ∀ p ∈ news, p ∈ (tp, tup2 (.int 65535 245) (.int 65535 245) 0) :: (tl2 ++ (D1, lst ys) :: news) := fun p hp => by simp [hp]
    have hRpos : 1 ≤ (runs ++ [((65535 : Int), (65535 : Int))]).length := by simp
    have hRl : ∀ p ∈ (tp, tup2 (.int 65535 245) (.int 65535 245) 0) :: (tl2 ++ (D1, lst ys) :: news), p.1 < R := fun p hp => hR p (by simp only [List.mem_cons] at hp ⊢; grind)
    have hvl2 := hdat.length
    have hRlen : (runs ++ [((65535 : Int), (65535 : Int))]).length ≤ 17 := by simp at hrl ⊢; omega
    rw [List.length_map] at hvl2
    clear N4 hR F3 N3 l3 N3'
    generalize hvrs : vr ++ [Value.ref tp] = vrs at hdat N5 hvl2
    generalize hled : ((tp, tup2 (.int 65535 245) (.int 65535 245) 0) :: (tl2 ++ (D1, lst ys) :: news)) = led at hdat N5 hd5 hRl
    generalize hRUNS : runs ++ [((65535 : Int), (65535 : Int))] = RUNS at hdat hvl2 hRlen hRpos
    have hm5 := hd5 _ hm
    have hrok : ∀ i (hi : i < RUNS.length), (i : Int) ≠ (RUNS.length : Int) - 1 → (RUNS[i]'hi).1 ≤ (RUNS[i]'hi).2 ∧ (RUNS[i]'hi).2 - (RUNS[i]'hi).1 + 1 ≤ 16 ∧ 0 ≤ (RUNS[i]'hi).1 ∧ (RUNS[i]'hi).2 ≤ 70000 ∧ ∀ k, (RUNS[i]'hi).1 ≤ k → k ≤ (RUNS[i]'hi).2 → kdfHas c k = true := by
      intro i hi hne
      subst hRUNS
      rw [List.length_append, List.length_singleton] at hi hne
      have hi' : i < runs.length := by omega
      rw [List.getElem_append_left hi']
      have hmem : runs[i] ∈ ns.foldl runStep [] := by rw [hrdef]; exact List.getElem_mem hi'
      have h1 := runs_ok _ hmem
      have hin : ∀ k, (runs[i]).1 ≤ k → k ≤ (runs[i]).2 → ∃ p ∈ c, p.1 = k := fun k a1 a2 => by
        have h2 := h1.2.2 k a1 a2
        rw [hperm.mem_iff, ← hknown] at h2
        obtain ⟨p, hp, e⟩ := List.mem_map.mp (List.mem_filter.mp h2).1
        exact ⟨p, hp, e⟩
      obtain ⟨p1, hp1, e1⟩ := hin _ (Int.le_refl _) h1.1
      obtain ⟨p2, hp2, e2⟩ := hin _ h1.1 (Int.le_refl _)
      have k1 := hkeys p1 hp1
      have k2 := hkeys p2 hp2
      refine ⟨h1.1, by omega, by omega, by omega, fun k a1 a2 => ?_⟩
      obtain ⟨p, hp, e⟩ := hin k a1 a2
      exact List.any_eq_true.mpr ⟨p, hp, decide_eq_true e⟩
    k_steps
    rename_i F6 N6
    refine Stop.out ?_
    refine m_len N6 List.mem_cons_self (by omega) ?_
    rw [hvl2]
    intro tmany
    k_steps
    rename PyProof.V.FlatPairs _ _ _ => hf
    rename_i h7 _ _ _ _ _ F7 N7 k7
    have N8 : News gg LL h7 ((R, W.listOf vrs.toArray 0) :: led) := news_sub N7 (fun p hp => List.mem_cons_of_mem _ hp)
    clear N7
    refine Stop.out ?_
    refine kd_range (σ := WSt) (n := RUNS.length) (fun _ => []) ((R, W.listOf vrs.toArray 0) :: led)
      (fun c => [(PySem.Str.ofString "deltas", .bytes c.db c.td), (PySem.Str.ofString "offsets", .bytes c.ob c.to), (PySem.Str.ofString "lists", .bytes c.lb c.tl)]) (fun _ _ => True)
      [PySem.Str.ofString "first", PySem.Str.ofString "last", PySem.Str.ofString "code"]
      (fun pre st => KBw.bInts st.db = octL st.st.dw ∧ KBw.bInts st.ob = octL st.st.ow ∧ KBw.bInts st.lb = octL st.st.lw ∧ st.st = pre.foldl (wStep c RUNS) ⟨[], [], []⟩ ∧ st.st.dw.length = pre.length ∧ st.st.ow.length = pre.length ∧ st.st.lw.length ≤ 16 * pre.length)
      (R :: led.map (·.1)) ⟨⟨[], [], []⟩, #[], #[], #[], ?t1, ?t2, ?t3⟩
      (by rfl) (by assumption) (small_one (by omega) (by omega) (by omega) (by omega)) ?w1 (by assumption) N8 ?w2 (fun _ => rfl) trivial ?w3 ⟨rfl, rfl, rfl, rfl, rfl, rfl, Nat.zero_le _⟩ ?w4 ?w5
    case w3 =>
      intro p hp; simp only [List.mem_cons, List.not_mem_nil, or_false] at hp; rcases hp with rfl | rfl | rfl <;> rfl
    case w1 =>
      have := rangeSize_nat 0 (RUNS.length : Int); simpa using this
    case w2 =>
      intro p hp; simpa using hp
    case w4 =>
      intro st tl pre k t u h tk own hk hpre hsep hoff _ hP F' N'
      obtain ⟨W3s, db, ob, lb, td, to, tl9⟩ := st
      try dsimp only at hP F' N'
      try dsimp only [kstB] at F'
      simp only [List.nil_append] at N'
      have N2 : News gg LL h ((R, W.listOf vrs.toArray 0) :: (led ++ (tl ++ own))) := N'
      clear N'
      obtain ⟨v, hv, hvd⟩ := hdat.get (k := pre.length) (by rw [List.length_map]; exact hpre)
      rw [List.getElem_map] at hvd
      generalize hrun : RUNS[pre.length]'hpre = run at hvd
      obtain ⟨ta, x, y, nt, rfl, hta⟩ := pd_inv hvd
      have hta' : (ta, tup2 (.int run.1 x) (.int run.2 y) nt) ∈ (R, W.listOf vrs.toArray 0) :: (led ++ (tl ++ own)) := by simp [hta]
      k_steps
      refine Stop.out ?_
      refine m_item N2 List.mem_cons_self (by omega) (by omega) (by rw [show k.toNat = pre.length by omega]; exact hv) ?_
      obtain ⟨hdb, hob, hlb, hst, hdl, hol, hll⟩ := hP
      have hgetD : RUNS.getD k.toNat (0, 0) = run := by
        rw [show k.toNat = pre.length by omega, ← hrun, List.getD_eq_getElem?_getD, List.getElem?_eq_getElem hpre]; rfl
      have hro := hrok pre.length hpre
      rw [hrun, show ((pre.length : Nat) : Int) = k by omega] at hro
      k_steps
      · rename k = (RUNS.length : Int) - 1 => hkl
        refine kd_end (σ := WSt) ⟨⟨W3s.dw ++ [1], W3s.ow ++ [0], W3s.lw⟩, ?dba, ?oba, ?lba, ?tdaa, ?toaa, ?tlaa⟩ [] hsep (by assumption) (by assumption) ?g1a ?g2a rfl (by simp) (by simp) ?g3a ?g4a trivial ?g5a
        case g3a =>
          intro p hp; simp only [List.mem_cons, List.not_mem_nil, or_false] at hp; rcases hp with rfl | rfl | rfl <;> rfl
        case g1a =>
          intro p hp; simp only [List.nil_append, List.cons_append, List.mem_cons, List.mem_append] at hp ⊢; grind
        case g2a =>
          intro p hp; simp only [List.mem_cons, List.mem_append]; grind
        case g4a =>
          intro z h1 h2 h3
          have e1 := h2 _ List.mem_cons_self
          have e2 := h2 _ (List.mem_cons_of_mem _ List.mem_cons_self)
          have e3 := h2 _ (List.mem_cons_of_mem _ (List.mem_cons_of_mem _ List.mem_cons_self))
          dsimp only at e1 e2 e3
          simp at h3
          simp [h1, e1, e2, e3, h3, kstB]
        case g5a =>
          refine ⟨by assumption, by assumption, by assumption, ?_, ?_, ?_, ?_⟩
          · rw [List.foldl_append, ← hst]
            simp only [List.foldl_cons, List.foldl_nil, wStep, if_pos hkl]
          · simp [hdl]
          · simp [hol]
          · simp; omega
      · rename_i hkl
        obtain ⟨hr1, hr2, hr3, hr4, hr5⟩ := hro hkl
        have hr6 := hr5 _ (Int.le_refl _) hr1
        refine Stop.out ?_
        refine even_use (by assumption) (by assumption) (by assumption) (by assumption) (by assumption) rfl (by ktr_room) (by ktr_units) (by simp [hm5]) lo hd hf hr1 (by omega) (by omega) hr5 ?_
        intro he tke Fe Ne
        have hme : (d, o) ∈ (R, W.listOf vrs.toArray 0) :: (led ++ (tl ++ own)) := by simp [hm5]
        k_steps
        · rename evenB c run.1 run.2 = true => hev
          refine kd_end (σ := WSt) ⟨⟨W3s.dw ++ [kdfLook c run.1 0 - run.1], W3s.ow ++ [0], W3s.lw⟩, ?dbb, ?obb, ?lbb, ?tdab, ?toab, ?tlab⟩ [] hsep (by assumption) (by assumption) ?g1b ?g2b rfl (by simp) (by simp) ?g3b ?g4b trivial ?g5b
          case g3b =>
            intro p hp; simp only [List.mem_cons, List.not_mem_nil, or_false] at hp; rcases hp with rfl | rfl | rfl <;> rfl
          case g1b =>
            intro p hp; simp only [List.nil_append, List.cons_append, List.mem_cons, List.mem_append] at hp ⊢; grind
          case g2b =>
            intro p hp; simp only [List.mem_cons, List.mem_append]; grind
          case g4b =>
            intro z h1 h2 h3
            have e1 := h2 _ List.mem_cons_self
            have e2 := h2 _ (List.mem_cons_of_mem _ List.mem_cons_self)
            have e3 := h2 _ (List.mem_cons_of_mem _ (List.mem_cons_of_mem _ List.mem_cons_self))
            dsimp only at e1 e2 e3
            simp at h3
            simp [h1, e1, e2, e3, h3, kstB]
          case g5b =>
            refine ⟨by assumption, by assumption, by assumption, ?_, ?_, ?_, ?_⟩
            · rw [List.foldl_append, ← hst]
              simp only [List.foldl_cons, List.foldl_nil, wStep, if_neg hkl, hgetD, if_pos hev]
            · simp [hdl]
            · simp [hol]
            · simp; omega
        · rename evenB c run.1 run.2 = false => hev
          rename_i hn _ _ _ _ _ Fn Nn _
          have N9 : News gg LL hn ((R, W.listOf vrs.toArray 0) :: (led ++ (tl ++ own))) := news_sub Nn (fun p hp => List.mem_cons_of_mem _ hp)
          clear Nn
          refine Stop.out ?_
          refine kd_range (σ := LSt) (n := (run.2 + 1 - run.1).toNat) (fun _ => []) ((R, W.listOf vrs.toArray 0) :: (led ++ (tl ++ own)))
            (fun c => [(PySem.Str.ofString "lists", .bytes c.lb c.tl)]) (fun _ _ => True) []
            (fun ipre st => KBw.bInts st.lb = octL (W3s.lw ++ ipre.map fun k => kdfLook c k 0))
            (R :: (led ++ (tl ++ own)).map (·.1)) ⟨lb, ?ti⟩
            (by rfl) (by assumption) (small_one (by omega) (by omega) (by omega) (by omega)) (rangeSize_nat _ _) (by assumption) N9 ?v2 (fun _ => rfl) trivial ?v3 (by simpa using hlb) ?v4 ?v5
          case v3 =>
            intro p hp; rw [List.mem_singleton.mp hp]; rfl
          case v2 =>
            intro p hp; simpa using hp
          case v4 =>
            intro st itl ipre ik it iu ih itk iown hik hipre hisep hioff _ hiP F' N'
            obtain ⟨ilb, itl9⟩ := st
            try dsimp only at hiP F' N'
            try dsimp only [kstB] at F'
            simp only [List.nil_append] at N'
            have N2 : News gg LL ih ((R, W.listOf vrs.toArray 0) :: ((led ++ (tl ++ own)) ++ (itl ++ iown))) := N'
            clear N'
            have hme2 : (d, o) ∈ (R, W.listOf vrs.toArray 0) :: ((led ++ (tl ++ own)) ++ (itl ++ iown)) := by simp [hm5]
            have hik2 := hr5 ik (by omega) (by omega)
            have hipl : (ipre.map fun k => kdfLook c k 0).length ≤ 16 := by rw [List.length_map]; omega
            k_steps
            refine kd_end (σ := LSt) ⟨?lbi, ?tli⟩ [] hisep (by assumption) (by assumption) ?i1 ?i2 rfl (by simp) (by simp) ?i3 ?i4 trivial ?i5
            case i3 =>
              intro p hp; rw [List.mem_singleton.mp hp]; rfl
            case i1 =>
              intro p hp; simp only [List.nil_append, List.cons_append, List.mem_cons, List.mem_append] at hp ⊢; grind
            case i2 =>
              intro p hp; simp only [List.mem_cons, List.mem_append]; grind
            case i4 =>
              intro z h1 h2 h3
              have e1 := h2 _ List.mem_cons_self
              dsimp only at e1
              simp [h1, e1, kstB]
            case i5 =>
              rw [List.map_append, List.map_singleton, ← List.append_assoc]
              assumption
          case v5 =>
            intro st itl iu ih itk hioff _ hiP F' N'
            obtain ⟨ilb, itl9⟩ := st
            try dsimp only at hiP F' N'
            try dsimp only [kstB] at F'
            simp only [List.nil_append] at N'
            k_steps
            have hev2 : ¬ evenB c run.1 run.2 = true := by rw [hev]; exact Bool.false_ne_true
            refine kd_end (σ := WSt) ⟨⟨W3s.dw ++ [0], W3s.ow ++ [2 * ((RUNS.length : Int) - k) + 2 * (W3s.lw.length : Int)], W3s.lw ++ (rangeKs run.1 (run.2 + 1 - run.1).toNat).map fun k => kdfLook c k 0⟩, ?dbc, ?obc, ?lbc, ?tdac, ?toac, ?tlac⟩ [] hsep (by assumption) (by assumption) ?g1c ?g2c rfl (by simp) (by simp) ?g3c ?g4c trivial ?g5c
            case g3c =>
              intro p hp; simp only [List.mem_cons, List.not_mem_nil, or_false] at hp; rcases hp with rfl | rfl | rfl <;> rfl
            case g1c =>
              intro p hp; simp only [List.nil_append, List.cons_append, List.mem_cons, List.mem_append] at hp ⊢; grind
            case g2c =>
              intro p hp; simp only [List.mem_cons, List.mem_append]; grind
            case g4c =>
              intro z h1 h2 h3
              have e1 := h2 _ List.mem_cons_self
              have e2 := h2 _ (List.mem_cons_of_mem _ List.mem_cons_self)
              have e3 := h2 _ (List.mem_cons_of_mem _ (List.mem_cons_of_mem _ List.mem_cons_self))
              dsimp only at e1 e2 e3
              simp at h3
              simp [h1, e1, e2, e3, h3, kstB]
            case g5c =>
              refine ⟨by assumption, by assumption, by assumption, ?_, ?_, ?_, ?_⟩
              · rw [List.foldl_append, ← hst]
                simp only [List.foldl_cons, List.foldl_nil, wStep, if_neg hkl, hgetD, if_neg hev2]
              · simp [hdl]
              · simp [hol]
              · simp only [List.length_append, List.length_map, rangeKs_length, List.length_singleton]; omega
    case w5 =>
      intro st tl u h tk hoff _ hP F' N'
      obtain ⟨W3s, db, ob, lb, td, to, tl9⟩ := st
      try dsimp only at hP F' N'
      try dsimp only [kstB] at F'
      simp only [List.nil_append] at N'
      have N2 : News gg LL h ((R, W.listOf vrs.toArray 0) :: (led ++ tl)) := N'
      clear N'
      obtain ⟨hdb, hob, hlb, hst, hdl, hol, hll⟩ := hP
      rw [rangeKs_length] at hdl hol hll
      have hmem2 : ∀ p ∈ led, p ∈ (R, W.listOf vrs.toArray 0) :: (led ++ tl) := fun p hp => by simp [hp]
      have hdat2 := hdat.mono hmem2
      k_steps
      refine Stop.out ?_
      refine PyProof.Rows.LCp.ListComp_P (F₀ := by k_asm) (by with_unfolding_all rfl) (by decide) (by rfl) (by decide) (by rfl) (by rfl) (by decide) ?_
      k_steps
      have hsz : vrs.toArray.size ≤ sizeLine := by rw [sizeLine_eq, List.size_toArray]; omega
      refine PyProof.Rows.LCp.SrcLP.ledger rfl F' N2 List.mem_cons_self hsz ?_
      intro g9
      refine rest_P (ps := RUNS) (fun p => p.2) (by simp [hvl2]) ?_ ?_ ?_
      · intro i v hi hv
        rw [List.size_toArray, hvl2] at hi
        obtain ⟨v', hv', hd'⟩ := hdat2.get (k := i) (by rw [List.length_map]; exact hi)
        rw [List.getElem_map] at hd'
        have e : v' = v := by simp only [List.getElem?_toArray] at hv; rw [hv'] at hv; exact Option.some.inj hv
        exact ⟨RUNS[i], List.getElem?_eq_getElem hi, e ▸ hd'⟩
      · intro p t1 t2 I oI C oC D m₂ ys h8 tk8 E' hp hC hx hx2 F8 N8 off ne
        k_steps
        refine CompEnd.intro (by assumption) (by assumption) _ (fun p hp => hp) off (.inr ⟨_, List.mem_cons_self, rfl, _, rfl⟩) ⟨rfl, _, _, rfl, by assumption⟩
      · intro bts hbts D2 h8 tk8 F8 N8 _
        dsimp only
        k_steps
        refine Stop.out ?_
        refine call_join (bts := bts) (N8 _ List.mem_cons_self).1 ?_ ?_
        · rw [bts_sum hbts]; omega
        intro eb et etk heb
        have heb2 : KBw.bInts eb = octL (RUNS.map (·.2)) := by
          rw [heb, hbts]; exact flat_oct _ _
        clear heb hbts
        k_steps
        rename_i hq1 Fq1 Nq1
        refine Stop.out ?_
        refine PyProof.Rows.LCp.ListComp_P (F₀ := by k_asm) (by with_unfolding_all rfl) (by decide) (by rfl) (by decide) (by rfl) (by rfl) (by decide) ?_
        k_steps
        refine PyProof.Rows.LCp.SrcLP.ledger rfl (by assumption) (news_sub (rest := (R, W.listOf vrs.toArray 0) :: (led ++ tl)) (by assumption) (fun p hp => List.mem_cons_of_mem _ hp)) List.mem_cons_self hsz ?_
        intro g10
        refine rest_P (ps := RUNS) (fun p => p.1) (by simp [hvl2]) ?_ ?_ ?_
        · intro i v hi hv
          rw [List.size_toArray, hvl2] at hi
          obtain ⟨v', hv', hd'⟩ := hdat2.get (k := i) (by rw [List.length_map]; exact hi)
          rw [List.getElem_map] at hd'
          have e : v' = v := by simp only [List.getElem?_toArray] at hv; rw [hv'] at hv; exact Option.some.inj hv
          exact ⟨RUNS[i], List.getElem?_eq_getElem hi, e ▸ hd'⟩
        · intro p t1 t2 I oI C oC D m₂ ys h8 tk8 E' hp hC hx hx2 F8 N8 off ne
          k_steps
          refine CompEnd.intro (by assumption) (by assumption) _ (fun p hp => hp) off (.inr ⟨_, List.mem_cons_self, rfl, _, rfl⟩) ⟨rfl, _, _, rfl, by assumption⟩
        intro bts2 hbts2 D3 h9 tk9 F9 N9 _
        dsimp only
        k_steps
        refine Stop.out ?_
        refine call_join (bts := bts2) (N9 _ List.mem_cons_self).1 (by rw [bts_sum hbts2]; omega) ?_
        intro sb st' stk hsb
        have hsb2 : KBw.bInts sb = octL (RUNS.map (·.1)) := by
          rw [hsb, hbts2]; exact flat_oct _ _
        clear hsb hbts2
        k_steps
        rename_i hq2 Fq2 Nq2
        refine Stop.out ?_
        refine ksw_while (σ := PSt) (fun _ => (R, W.listOf vrs.toArray 0) :: (led ++ tl)) (fun c => [(PySem.Str.ofString "power", .int c.p c.t)]) (fun _ => True) [] (fun c => PowAt c.p c.k ∧ c.p ≤ (RUNS.length : Int)) (fun c => ((RUNS.length : Int) - c.p).toNat) ⟨1, 0, ?tw⟩
          Fq2 (news_sub Nq2 (fun p hp => List.mem_cons_of_mem _ hp)) trivial ?x1 ⟨.inl ⟨rfl, rfl⟩, ?x2⟩ ?x3
        case x1 => intro p hp; rw [List.mem_singleton.mp hp]; rfl
        case x2 => show (1 : Int) ≤ _; omega
        case x3 =>
          intro c1 u1 hh1 tkk1 _ hPc F1 N1
          obtain ⟨p1, k1, t1⟩ := c1
          try dsimp only at hPc F1
          try dsimp only [kstB] at F1
          obtain ⟨hpow, hple⟩ := hPc
          have hp16 : 1 ≤ p1 ∧ p1 ≤ 16 := pow_bnd hpow
          k_steps
          · rename p1 * 2 ≤ (RUNS.length : Int) => hgo
            refine ksw_end (σ := PSt) ⟨p1 * 2, k1 + 1, ?tz⟩ (by assumption) (by assumption) ?y1 trivial ?y2 ?y3 ⟨?y4, hgo⟩ ?y5
            case y2 => intro p hp; rw [List.mem_singleton.mp hp]; rfl
            case y1 => exact fun _ hp => hp
            case y3 =>
              intro z h1 h2
              have e1 := h1 _ List.mem_cons_self
              dsimp only at e1
              simp [e1, kstB]
            case y4 => exact pow_step hpow hgo (by exact Int.ofNat_le.mpr hRlen)
            case y5 => exact pow_less hp16.1 hgo
          · rename ¬ p1 * 2 ≤ (RUNS.length : Int) => hstop
            refine Stop.out ?_
            refine spec_use (exponent_spec w p1 k1 t1 hpow _) (by assumption) (by assumption) (by assumption) (by assumption) (by assumption) rfl (by ktr_room) (by ktr_units) ?_
            rintro v hx2 tkx newsx Fx Nx ⟨rfl, tkx2, rfl⟩
            k_steps
            · rename (65535 : Int) < _ => hbad
              exfalso
              simp only [List.length_append, List.length_cons, List.length_nil, List.length_map] at hbad
              omega
            · rename KBw.bInts _ = _ => hfin
              rename_i kN _ _
              refine hret _ _ _ news (by assumption) (fun p hp => kN p (hmem2 p (hd5 p hp))) ⟨rfl, _, _, ns, p1, k1, rfl, ?_, hsort, hpow, ?_, ?_, ?_⟩
              · rw [hknown]; exact hperm
              · rw [hrdef, hRUNS]; exact hple
              · rw [hrdef, hRUNS]; omega
              · rw [hrdef, hRUNS]
                unfold wfWords
                rw [← hst]
                exact hfin
end Mine
end

section
open PySem PySem.W PyProof.Rows PySem.Calls PyProof.Rows.LCg PySem.Spec
set_option Elab.async false
set_option maxRecDepth 100000
set_option maxHeartbeats 8000000
namespace Mine
section
variable {prog : Program} {w : World} {A : Around} {E : Value → Shared → Prop} {s : Shared} {h₀ : Heap} {env : Env} {target : Expr} {body : List Stmt} {Q : Flow → Shared → Prop}
def LoopC (prog : Program) (w : World) (A : Around) (env : Env) (target : Expr) (body : List Stmt) (Q : Flow → Shared → Prop) (E : Value → Shared → Prop) (it : Value) (s₂ : Shared) : Prop :=
  codeAny (model prog w) A (.forLoop target it body [] env) (fun r s' => match r with | .ok f => Q f s' | .error e => cameBackBy (model prog w) A env E e s') s₂
theorem For_C {iter : Expr} {pos : Pos} (h : wpAny (model prog w) A (eval iter env) (fun xv s₁ => wpAny (model prog w) A (pyIter xv) (fun it s₂ => LoopC prog w A env target body Q E it s₂) E s₁) E s)
    (hs : ∀ x, foldedSetIterable iter env x = pure x := by intro _; rfl) :
    wpAny (model prog w) A (exec (.For target iter body [] pos) env) Q E s := wpAny_For h hs
theorem range_C {r : Addr} {a₀ b₀ : Int} {t₀ u₀ v₀ : Tok} {n : Nat} {m₀ : PySem.Str → Option Value} {news : List (Addr × Obj)} (J : Nat → (PySem.Str → Option Value) → List (Addr × Obj) → Prop)
    (hh : A.handled = none) (hr : IsRange s.heap r a₀ b₀ 1 t₀ u₀ v₀) (hsmall : Builtin.Range.small a₀ b₀ 1 = true) (hsz : Builtin.Range.rangeSize a₀ b₀ 1 = (n : Int)) (F : Fr h₀ env.locals s.heap m₀) (N : News h₀ env.locals s.heap news) (hj : J 0 m₀ news)
    (turn : ∀ i k t m₁ nx h tk own, i < n → k = a₀ + (i : Int) → OwnOff own (nx.map (·.1)) → J i m₁ nx → Fr h₀ env.locals h m₁ → News h₀ env.locals h (nx ++ own) →
      wpAny (model prog w) A (assign target env (.int k t)) (fun _ s₂ => wpAny (model prog w) A (execs body env) (InvPostG h₀ env.locals (J (i + 1)) own { s with heap := h, toks := tk } Q) E s₂) E { s with heap := h, toks := tk })
    (done : ∀ m₁ nx h tk, J n m₁ nx → Fr h₀ env.locals h m₁ → News h₀ env.locals h nx → Q .next { s with heap := h, toks := tk })
    (ht : ∀ it v, letOwnedTupleGo target it v = pure () := by intro _ _; rfl)
    (hE : PassesOwn (model prog w) A env E := by passes_own) :
    wpAny (model prog w) A (pyIter (.ref r)) (fun it s₂ => LoopC prog w A env target body Q E it s₂) E s := by
  refine wpAny_pyIter_range hr hsmall ?_
  have hI0 : h₀.get? s.heap.objs.size = none := next_is_new F
  have hLI : env.locals ≠ s.heap.objs.size := Nat.ne_of_lt F.ns.lt
  have W := range_walks (prog := prog) (w := w) (I := s.heap.objs.size) hh a₀ n
  unfold LoopC
  refine codeAny_forLoop
    (fun k s' => ∃ h' tk m' nx i, s' = { s with heap := h', toks := tk } ∧ IsRangeIter h' s.heap.objs.size (a₀ + (i : Nat) * 1) ((n : Int) - (i : Nat)) 1 ∧ Fr h₀ env.locals h' m' ∧ News h₀ env.locals h' nx ∧ (∀ p ∈ nx, p.1 ≠ s.heap.objs.size) ∧ J i m' nx ∧ i ≤ n ∧ k = n + 1 - i) ?_ (n + 1)
    ⟨_, s.toks, m₀, news, 0, rfl, by rw [hsz]; simpa using Heap.get?_push_size _ rfl, F.push _, fun p hp => ⟨Heap.get?_push_of_some _ (N p hp).1, (N p hp).2⟩, fun p hp => Nat.ne_of_lt (Heap.lt_size (N p hp).1), hj, Nat.zero_le _, rfl⟩ (fun v => ht _ v)
  rintro k s' ⟨h', tk, m', nx, i, rfl, hst, F', N', hoff, hJ, hi, rfl⟩
  by_cases hlt : i < n
  · refine W.item i _ _ _ hlt hst fun v h₁ tk₁ hP hst₁ hk₁ => ?_
    obtain ⟨t, rfl⟩ := hP
    have F₁ := fr_but F' hk₁ hLI hI0
    have N₁ := news_but N' hk₁ hoff
    obtain ⟨oI, hoI⟩ : ∃ o, h₁.get? s.heap.objs.size = some o := ⟨_, hst₁⟩
    have N₂ : News h₀ env.locals h₁ (nx ++ [(s.heap.objs.size, oI)]) := fun p hp => by
      rcases List.mem_append.mp hp with hp | hp
      · exact N₁ p hp
      · rw [List.mem_singleton.mp hp]; exact ⟨hoI, Ne.symm hLI, hI0⟩
    have hsep : OwnOff [(s.heap.objs.size, oI)] (nx.map (·.1)) := fun p hp b hb => by
      rw [List.mem_singleton.mp hp]
      obtain ⟨q, hq, rfl⟩ := List.mem_map.mp hb
      exact Ne.symm (hoff q hq)
    have T := turn i (a₀ + (i : Int)) t m' nx h₁ tk₁ [(s.heap.objs.size, oI)] hlt rfl hsep hJ F₁ N₂
    refine wpAny_passesOwn hE (wpAny_mono T (fun _ s₂ h₂ => wpAny_passesOwn hE (wpAny_mono h₂ (fun f s₃ h₃ => ?_) fun _ _ e => e)) fun _ _ e => e)
    have fin : InvEndG h₀ env.locals (J (i + 1)) [(s.heap.objs.size, oI)] { s with heap := h₁, toks := tk₁ } s₃ → ∃ m, m < n + 1 - i ∧ ∃ h' tk m' nx i, s₃ = { s with heap := h', toks := tk } ∧ IsRangeIter h' s.heap.objs.size (a₀ + (i : Nat) * 1) ((n : Int) - (i : Nat)) 1 ∧ Fr h₀ env.locals h' m' ∧ News h₀ env.locals h' nx ∧ (∀ p ∈ nx, p.1 ≠ s.heap.objs.size) ∧ J i m' nx ∧ i ≤ n ∧ m = n + 1 - i := by
      rintro ⟨h5, tk5, m5, news5, nx5, e, F5, N5, hn5, ho5, ha5, hJ5⟩
      refine ⟨n + 1 - (i + 1), by omega, h5, tk5, m5, nx5, i + 1, e, ?_, F5, fun p hp => N5 p (hn5 p hp), fun p hp e => ha5 _ (List.mem_singleton.mpr rfl) p.1 (List.mem_map.mpr ⟨p, hp, rfl⟩) e.symm, hJ5, hlt, rfl⟩
      have z := (N5 _ (ho5 _ (List.mem_singleton.mpr rfl))).1
      have y : h₁.get? s.heap.objs.size = some _ := hst₁
      rw [hoI] at y
      show h5.get? _ = some _
      rw [z, y]
    cases f with
    | ret v => exact h₃
    | brk => exact h₃
    | next => exact fin h₃
    | cont => exact fin h₃
  · obtain rfl : i = n := by omega
    refine W.done _ _ _ hst fun h₁ tk₁ hk₁ => wpAny_execs_nil ?_
    exact done m' nx h₁ tk₁ hJ (fr_but F' hk₁ hLI hI0) (news_but N' hk₁ hoff)
end
end Mine
end

section
open PySem PySem.W PyProof.Rows
set_option Elab.async false
set_option maxRecDepth 100000
set_option maxHeartbeats 8000000
namespace Mine
theorem sorted_ext : ∀ {a b : List Int}, a.Pairwise (· < ·) → b.Pairwise (· < ·) → (∀ x, x ∈ a ↔ x ∈ b) → a = b
  | [], [], _, _, _ => rfl
  | [], y :: b, _, _, h => absurd ((h y).mpr (by simp)) (by simp)
  | x :: a, [], _, _, h => absurd ((h x).mp (by simp)) (by simp)
  | x :: a, y :: b, ha, hb, h => by
    rw [List.pairwise_cons] at ha hb
    have hxy : x = y := by
      have h1 := (h x).mp (by simp)
      have h2 := (h y).mpr (by simp)
      rcases List.mem_cons.mp h1 with e | e
      · exact e
      · rcases List.mem_cons.mp h2 with e' | e'
        · exact e'.symm
        · have := ha.1 _ e'
          have := hb.1 _ e
          omega
    subst hxy
    have : a = b := sorted_ext ha.2 hb.2 fun z => by
      have hz := h z
      simp only [List.mem_cons] at hz
      constructor
      · intro h1
        have := ha.1 _ h1
        rcases hz.mp (.inr h1) with e | e
        · omega
        · exact e
      · intro h1
        have := hb.1 _ h1
        rcases hz.mpr (.inr h1) with e | e
        · omega
        · exact e
    rw [this]
theorem lt_sorted {a : List Int} (h : a.Pairwise (· ≤ ·)) (n : a.Nodup) : a.Pairwise (· < ·) := by
  have : a.Pairwise fun x y => x ≤ y ∧ x ≠ y := h.and n
  exact this.imp fun ⟨h1, h2⟩ => by omega
def stB (ks : List Int) (k : Int) : Bool := !ks.contains (k - 1)
def enB (ks : List Int) (k : Int) : Bool := !ks.contains (k + 1)
theorem stB_iff {ks : List Int} {k : Int} : stB ks k = true ↔ ¬ (k - 1 ∈ ks) := by
  unfold stB; rw [Bool.not_eq_true', ← Bool.not_eq_true, List.contains_iff_mem]
theorem enB_iff {ks : List Int} {k : Int} : enB ks k = true ↔ ¬ (k + 1 ∈ ks) := by
  unfold enB; rw [Bool.not_eq_true', ← Bool.not_eq_true, List.contains_iff_mem]
structure RInv (ks : List Int) (R : List (Int × Int)) : Prop where
  st : R.map (·.1) = ks.filter (stB ks)
  en : R.map (·.2) = ks.filter (enB ks)
  nil : R = [] → ks = []
  last : ∀ fs l, R = fs ++ [l] → l.2 ∈ ks ∧ ∀ k ∈ ks, k ≤ l.2
theorem RInv.step {ks : List Int} {R : List (Int × Int)} {x : Int} (h : RInv ks R) (hs : (ks ++ [x]).Pairwise (· < ·)) : RInv (ks ++ [x]) (runStep R x) := by
  rw [List.pairwise_append] at hs
  obtain ⟨hks, _, hlt⟩ := hs
  have hlt : ∀ k ∈ ks, k < x := fun k hk => hlt k hk x (by simp)
  have hst : (ks ++ [x]).filter (stB (ks ++ [x])) = ks.filter (stB ks) ++ [x].filter (stB ks) := by
    rw [List.filter_append]
    congr 1
    · refine List.filter_congr fun k hk => ?_
      rw [Bool.eq_iff_iff, stB_iff, stB_iff]
      have := hlt k hk
      simp only [List.mem_append, List.mem_singleton]
      constructor
      · exact fun h1 h2 => h1 (.inl h2)
      · rintro h1 (h2 | h2)
        · exact h1 h2
        · omega
    · refine List.filter_congr fun k hk => ?_
      rw [List.mem_singleton] at hk
      subst hk
      rw [Bool.eq_iff_iff, stB_iff, stB_iff]
      simp only [List.mem_append, List.mem_singleton]
      constructor
      · exact fun h1 h2 => h1 (.inl h2)
      · rintro h1 (h2 | h2)
        · exact h1 h2
        · omega
  have hen : (ks ++ [x]).filter (enB (ks ++ [x])) = (ks.filter (enB ks)).filter (fun k => decide (k + 1 ≠ x)) ++ [x] := by
    rw [List.filter_append]
    congr 1
    · rw [List.filter_filter]
      refine List.filter_congr fun k hk => ?_
      rw [Bool.eq_iff_iff, enB_iff, Bool.and_eq_true, enB_iff, decide_eq_true_iff]
      simp only [List.mem_append, List.mem_singleton]
      grind
    · have : enB (ks ++ [x]) x = true := by
        rw [enB_iff]
        simp only [List.mem_append, List.mem_singleton]
        rintro (h1 | h1)
        · have := hlt _ h1; omega
        · omega
      simp [this]
  rcases List.eq_nil_or_concat R with hR | ⟨fs, l, hR⟩
  · obtain rfl := h.nil hR
    subst hR
    rw [runStep_nil]
    refine ⟨?_, ?_, (fun h => nomatch h), ?_⟩
    · rw [hst]; simp [stB]
    · rw [hen]; simp
    · intro fs l e
      have : fs = [] ∧ (x, x) = l := by
        cases fs with
        | nil => simpa using e
        | cons a r => simp at e
      rw [← this.2]; simp
  · rw [List.concat_eq_append] at hR
    subst hR
    obtain ⟨hl1, hl2⟩ := h.last fs l rfl
    have hlx := hlt _ hl1
    have hne := h.en
    have hns := h.st
    have hnd : (ks.filter (enB ks)).Pairwise (· < ·) := hks.filter _
    by_cases hl : l.2 = x - 1
    · rw [runStep_hit _ _ _ hl]
      refine ⟨?_, ?_, fun h => absurd h (by simp), ?_⟩
      · rw [hst, ← hns]
        have : stB ks x = false := by
          rw [← Bool.not_eq_true, stB_iff, ← hl]; simpa using hl1
        simp [this]
      · rw [hen, ← hne]
        rw [← hne] at hnd
        rw [List.map_append, List.pairwise_append] at hnd
        simp only [List.map_append, List.map_cons, List.map_nil, List.filter_append]
        have e1 : (fs.map (·.2)).filter (fun k => decide (k + 1 ≠ x)) = fs.map (·.2) := by
          rw [List.filter_eq_self]
          intro a ha
          have := hnd.2.2 a ha l.2 (by simp)
          rw [decide_eq_true_iff]; omega
        rw [e1]
        have e2 : ¬ (l.2 + 1 ≠ x) := by omega
        simp [e2]
      · intro fs' l' e
        have : (l.1, x) = l' := by simpa using (List.append_inj' e rfl).2
        rw [← this]
        refine ⟨by simp, fun k hk => ?_⟩
        rcases List.mem_append.mp hk with h1 | h1
        · have := hlt k h1; show k ≤ x; omega
        · rw [List.mem_singleton.mp h1]; exact Int.le_refl x
    · rw [runStep_miss _ _ _ hl]
      have hxn : ¬ (x - 1 ∈ ks) := fun h1 => by have := hl2 _ h1; omega
      refine ⟨?_, ?_, fun h => absurd h (by simp), ?_⟩
      · rw [hst, ← hns]
        have : stB ks x = true := stB_iff.mpr hxn
        simp [this]
      · rw [hen]
        have e1 : (ks.filter (enB ks)).filter (fun k => decide (k + 1 ≠ x)) = ks.filter (enB ks) := by
          rw [List.filter_eq_self]
          intro a ha
          have h1 := (List.mem_filter.mp ha).1
          rw [decide_eq_true_iff]
          intro e
          exact hxn (by rw [← e]; simpa using h1)
        rw [e1, ← hne]; simp
      · intro fs' l' e
        have : (x, x) = l' := by simpa using (List.append_inj' e rfl).2
        rw [← this]
        refine ⟨by simp, fun k hk => ?_⟩
        rcases List.mem_append.mp hk with h1 | h1
        · have := hlt k h1; show k ≤ x; omega
        · rw [List.mem_singleton.mp h1]; exact Int.le_refl x
theorem RInv.fold (r : List Int) : ∀ (pre : List Int) (f : List (Int × Int)), RInv pre f → (pre ++ r).Pairwise (· < ·) → RInv (pre ++ r) (r.foldl runStep f) := by
  induction r with
  | nil => intro pre f h _; simpa using h
  | cons x r ih =>
    intro pre f h hs
    have e : pre ++ x :: r = (pre ++ [x]) ++ r := by simp
    rw [e] at hs ⊢
    exact ih _ _ (h.step (List.Pairwise.sublist (List.sublist_append_left _ _) hs)) hs
theorem runs_inv' {ks : List Int} (hs : ks.Pairwise (· < ·)) : RInv ks (ks.foldl runStep []) := by
  have := RInv.fold ks [] [] ⟨rfl, rfl, fun _ => rfl, fun fs l e => absurd e (by simp)⟩ (by simpa using hs)
  simpa using this
theorem rangeKs_lt (a : Int) (n : Nat) : (rangeKs a n).Pairwise (· < ·) := by
  unfold rangeKs
  rw [List.pairwise_map]
  exact List.Pairwise.imp (fun h => by omega) List.pairwise_lt_range
/-- a run's members -/
theorem run_row {ks : List Int} (hs : ks.Pairwise (· < ·)) {p : Int × Int} (hp : p ∈ ks.foldl runStep []) :
    ks.filter (fun k => decide (p.1 ≤ k) && decide (k ≤ p.2)) = rangeKs p.1 (p.2 + 1 - p.1).toNat := by
  refine sorted_ext (hs.filter _) (rangeKs_lt _ _) fun x => ?_
  have h := runs_ok p hp
  rw [List.mem_filter, Bool.and_eq_true, decide_eq_true_iff, decide_eq_true_iff]
  constructor
  · rintro ⟨_, h1, h2⟩
    exact mem_rangeKs' h1 (by omega)
  · intro hx
    have := mem_rangeKs hx
    exact ⟨h.2.2 x this.1 (by omega), this.1, by omega⟩
theorem pow_uniq {p q : Int} {k j : Nat} {n : Int} (h1 : PowAt p k) (h2 : PowAt q j) (a1 : p ≤ n) (a2 : n < 2 * p) (b1 : q ≤ n) (b2 : n < 2 * q) : p = q ∧ k = j := by
  have c1 : p < 2 * q := Int.lt_of_le_of_lt a1 b2
  have c2 : q < 2 * p := Int.lt_of_le_of_lt b1 a2
  clear a1 a2 b1 b2
  rcases h1 with ⟨rfl, rfl⟩ | ⟨rfl, rfl⟩ | ⟨rfl, rfl⟩ | ⟨rfl, rfl⟩ | ⟨rfl, rfl⟩ <;> rcases h2 with ⟨rfl, rfl⟩ | ⟨rfl, rfl⟩ | ⟨rfl, rfl⟩ | ⟨rfl, rfl⟩ | ⟨rfl, rfl⟩ <;> first | exact ⟨rfl, rfl⟩ | exact absurd c1 (by decide) | exact absurd c2 (by decide)
theorem rests_mem {c : List (Int × Int)} {a : Int} {rn : Nat} {row rs : List Int} (hrow : row = (rangeKs a rn).map fun k => kdfLook c k 0) (hrs : rs = (rangeKs 0 rn).map fun j => row.getD j.toNat 0 - j) {x : Int} :
    x ∈ rs ↔ ∃ j : Int, 0 ≤ j ∧ j < rn ∧ x = kdfLook c (a + j) 0 - j := by
  have hget : ∀ j : Int, 0 ≤ j → j < rn → row.getD j.toNat 0 = kdfLook c (a + j) 0 := by
    intro j h0 h1
    have hj : j.toNat < rn := by omega
    rw [hrow, List.getD_eq_getElem?_getD, List.getElem?_map]
    simp only [rangeKs, List.getElem?_map, List.getElem?_range hj, Option.map_some, Option.getD_some]
    rw [show ((j.toNat : Nat) : Int) = j by omega]
  rw [hrs, List.mem_map]
  constructor
  · rintro ⟨j, hj, rfl⟩
    have := mem_rangeKs hj
    exact ⟨j, this.1, by omega, by rw [hget j this.1 (by omega)]⟩
  · rintro ⟨j, h0, h1, rfl⟩
    exact ⟨j, mem_rangeKs' h0 (by omega), by rw [hget j h0 h1]⟩
theorem rests_even {c : List (Int × Int)} {a b : Int} {rn : Nat} {row rs : List Int} (hrn : rn = (b + 1 - a).toNat) (hab : a ≤ b) (hrow : row = (rangeKs a rn).map fun k => kdfLook c k 0) (hrs : rs = (rangeKs 0 rn).map fun j => row.getD j.toNat 0 - j)
    {M M' : Int} (h1 : M ∈ rs) (h2 : ∀ x ∈ rs, M ≤ x) (h3 : M' ∈ rs) (h4 : ∀ x ∈ rs, x ≤ M') : M = M' ↔ evenB c a b = true := by
  rw [evenB_iff hab]
  unfold Even
  constructor
  · intro e k hk1 hk2
    have m1 : kdfLook c (a + (k - a)) 0 - (k - a) ∈ rs := (rests_mem hrow hrs).mpr ⟨k - a, by omega, by omega, rfl⟩
    have m2 : kdfLook c (a + 0) 0 - 0 ∈ rs := (rests_mem hrow hrs).mpr ⟨0, by omega, by omega, rfl⟩
    have a1 := h2 _ m1
    have a2 := h4 _ m1
    have a3 := h2 _ m2
    have a4 := h4 _ m2
    rw [show a + (k - a) = k by omega] at a1 a2
    rw [Int.add_zero] at a3 a4
    omega
  · intro hE
    have key : ∀ x ∈ rs, x = kdfLook c a 0 := by
      intro x hx
      obtain ⟨j, j0, j1, rfl⟩ := (rests_mem hrow hrs).mp hx
      have := hE (a + j) (by omega) (by omega)
      omega
    rw [key _ h1, key _ h3]
theorem rests_zero {c : List (Int × Int)} {a : Int} {rn : Nat} {row rs : List Int} (h1 : 1 ≤ rn) (hrow : row = (rangeKs a rn).map fun k => kdfLook c k 0) (hrs : rs = (rangeKs 0 rn).map fun j => row.getD j.toNat 0 - j) :
    rs[0]? = some (kdfLook c a 0) := by
  obtain ⟨n, rfl⟩ : ∃ n, rn = n + 1 := ⟨rn - 1, by omega⟩
  rw [hrs, hrow]
  simp [rangeKs, List.range_succ_eq_map]
theorem wStep_even {c : List (Int × Int)} {R : List (Int × Int)} {q p : Int × Int} {st : W3} {i : Nat} (hi : i < R.length) (hp : p = R[i]'hi) (hev : evenB c p.1 p.2 = true) :
    wStep c (R ++ [q]) st (0 + (i : Int)) = ⟨st.dw ++ [kdfLook c p.1 0 - p.1], st.ow ++ [0], st.lw⟩ := by
  have e1 : ¬ (0 + (i : Int) = ((R ++ [q]).length : Int) - 1) := by rw [List.length_append, List.length_singleton]; omega
  have e2 : (R ++ [q]).getD (0 + (i : Int)).toNat (0, 0) = p := by
    rw [show (0 + (i : Int)).toNat = i by omega, List.getD_eq_getElem?_getD, List.getElem?_append_left hi, List.getElem?_eq_getElem hi, hp]; rfl
  unfold wStep
  rw [if_neg e1, e2, if_pos hev]
theorem wStep_odd {c : List (Int × Int)} {R : List (Int × Int)} {q p : Int × Int} {st : W3} {i : Nat} (hi : i < R.length) (hp : p = R[i]'hi) (hev : ¬ evenB c p.1 p.2 = true) :
    wStep c (R ++ [q]) st (0 + (i : Int)) = ⟨st.dw ++ [0], st.ow ++ [2 * (((R.length : Int) + 1) - i) + 2 * (st.lw.length : Int)], st.lw ++ (rangeKs p.1 (p.2 + 1 - p.1).toNat).map fun k => kdfLook c k 0⟩ := by
  have e1 : ¬ (0 + (i : Int) = ((R ++ [q]).length : Int) - 1) := by rw [List.length_append, List.length_singleton]; omega
  have e2 : (R ++ [q]).getD (0 + (i : Int)).toNat (0, 0) = p := by
    rw [show (0 + (i : Int)).toNat = i by omega, List.getD_eq_getElem?_getD, List.getElem?_append_left hi, List.getElem?_eq_getElem hi, hp]; rfl
  unfold wStep
  rw [if_neg e1, e2, if_neg hev]
  have e3 : ((R ++ [q]).length : Int) - (0 + (i : Int)) = ((R.length : Int) + 1) - i := by rw [List.length_append, List.length_singleton]; omega
  rw [e3]
theorem wStep_last {c : List (Int × Int)} {R : List (Int × Int)} {q : Int × Int} {st : W3} :
    wStep c (R ++ [q]) st (0 + (R.length : Int)) = ⟨st.dw ++ [1], st.ow ++ [0], st.lw⟩ := by
  have e1 : (0 + (R.length : Int) = ((R ++ [q]).length : Int) - 1) := by rw [List.length_append, List.length_singleton]; omega
  unfold wStep
  rw [if_pos e1]
theorem rangeKs_snoc (a : Int) (i : Nat) : rangeKs a (i + 1) = rangeKs a i ++ [a + (i : Int)] := by simp [rangeKs, List.range_succ]
theorem words_eq {c : List (Int × Int)} {R : List (Int × Int)} {st : W3} {p : Int} {k : Nat} (hst : st = (rangeKs 0 R.length).foldl (wStep c (R ++ [((65535 : Int), (65535 : Int))])) ⟨[], [], []⟩) (hdl : st.dw.length = R.length) (hol : st.ow.length = R.length) :
    wfWords c (R ++ [(65535, 65535)]) p k = [4, 2 * (8 + 4 * ((R.length : Int) + 1) + (st.lw.length : Int)), 0, 2 * ((R.length : Int) + 1), 2 * p, (k : Int), 2 * ((R.length : Int) + 1) - 2 * p] ++ R.map (·.2) ++ [65535, 0] ++ R.map (·.1) ++ [65535] ++ st.dw ++ [1] ++ st.ow ++ [0] ++ st.lw := by
  have hl : (R ++ [((65535 : Int), (65535 : Int))]).length = R.length + 1 := by rw [List.length_append, List.length_singleton]
  have hf : (rangeKs 0 (R ++ [((65535 : Int), (65535 : Int))]).length).foldl (wStep c (R ++ [((65535 : Int), (65535 : Int))])) ⟨[], [], []⟩ = ⟨st.dw ++ [1], st.ow ++ [0], st.lw⟩ := by
    rw [hl, rangeKs_snoc, List.foldl_append, ← hst]
    exact wStep_last
  unfold wfWords wfBody
  rw [hf]
  obtain ⟨RR, hRR⟩ : ∃ RR : List (Int × Int), RR = R ++ [((65535 : Int), (65535 : Int))] := ⟨_, rfl⟩
  rw [← hRR] at hl ⊢
  have e1 : ∀ a b d e : Int, (6 : Int) + 2 * ((([a, b, d, e] ++ RR.map (·.2) ++ [0] ++ RR.map (·.1) ++ (st.dw ++ [1]) ++ (st.ow ++ [0]) ++ st.lw : List Int).length : Nat) : Int) = 2 * (8 + 4 * ((R.length : Int) + 1) + (st.lw.length : Int)) := by
    intro a b d e
    simp only [List.length_append, List.length_map, List.length_cons, List.length_nil, hdl, hol, hl]
    omega
  rw [e1, hl, hRR]
  have e2 : (2 : Int) * (((R.length + 1 : Nat) : Int) - p) = 2 * ((R.length : Int) + 1) - 2 * p := by omega
  have e3 : (2 : Int) * ((R.length + 1 : Nat) : Int) = 2 * ((R.length : Int) + 1) := by omega
  rw [e2, e3]
  simp only [List.map_append, List.map_cons, List.map_nil, List.append_assoc, List.cons_append, List.nil_append]
end Mine
end

section
open PySem PySem.W PyProof.Rows PyProof.Rows.LCg PyProof.Rows.LCt
set_option Elab.async false
set_option maxRecDepth 100000
set_option maxHeartbeats 8000000
namespace Mine
theorem cells7 {cm : PySem.Str → Option Value} {n₁ n₂ n₃ n₄ n₅ n₆ n₇ : PySem.Str} {c₁ c₂ c₃ c₄ c₅ c₆ c₇ : Addr} {cells : List (Addr × Obj)} (x : CellsAre cm [(n₁, c₁), (n₂, c₂), (n₃, c₃), (n₄, c₄), (n₅, c₅), (n₆, c₆), (n₇, c₇)] cells) :
    ∃ o₁ o₂ o₃ o₄ o₅ o₆ o₇, cells = [(c₁, o₁), (c₂, o₂), (c₃, o₃), (c₄, o₄), (c₅, o₅), (c₆, o₆), (c₇, o₇)] ∧ o₁.data = .cell (cm n₁) ∧ o₂.data = .cell (cm n₂) ∧ o₃.data = .cell (cm n₃) ∧ o₄.data = .cell (cm n₄) ∧ o₅.data = .cell (cm n₅) ∧ o₆.data = .cell (cm n₆) ∧ o₇.data = .cell (cm n₇) := by
  cases x with | cons h1 r =>
  cases r with | cons h2 r =>
  cases r with | cons h3 r =>
  cases r with | cons h4 r =>
  cases r with | cons h5 r =>
  cases r with | cons h6 r =>
  cases r with | cons h7 r =>
  cases r
  exact ⟨_, _, _, _, _, _, _, rfl, h1, h2, h3, h4, h5, h6, h7⟩
theorem sub_a {α : Type} {a b c : α} {r : List α} : ∀ p ∈ b :: r, p ∈ a :: b :: c :: r := by
  intro p hp; simp only [List.mem_cons] at hp ⊢; rcases hp with h | h
  · exact .inr (.inl h)
  · exact .inr (.inr (.inr h))
theorem sub_b {α : Type} {a b c : α} {r : List α} : ∀ p ∈ b :: a :: r, p ∈ a :: b :: c :: r := by
  intro p hp; simp only [List.mem_cons] at hp ⊢; rcases hp with h | h | h
  · exact .inr (.inl h)
  · exact .inl h
  · exact .inr (.inr (.inr h))
theorem nx1 {α : Type} {a b c e : α} {f1 f2 f3 f4 f5 f6 f7 f8 f9 f10 : α} {news big : List α} (hb : ∀ p ∈ news, p ∈ big) : ∀ p ∈ a :: b :: c :: f1 :: f2 :: f3 :: f4 :: f5 :: f6 :: f7 :: f8 :: f9 :: f10 :: news, p ∈ b :: e :: a :: c :: f1 :: f2 :: f3 :: f4 :: f5 :: f6 :: f7 :: f8 :: f9 :: f10 :: big := by
  intro p hp
  simp only [List.mem_cons] at hp ⊢
  rcases hp with h | h | h | h | h | h | h | h | h | h | h | h | h | h
  all_goals (try replace h := hb p h)
  all_goals repeat (first | exact .inl h | exact h | refine .inr ?_)
theorem nx2 {α : Type} {a b c e f : α} {f1 f2 f3 f4 f5 f6 f7 f8 f9 f10 : α} {news big : List α} (hb : ∀ p ∈ news, p ∈ big) : ∀ p ∈ a :: b :: c :: f1 :: f2 :: f3 :: f4 :: f5 :: f6 :: f7 :: f8 :: f9 :: f10 :: news, p ∈ c :: b :: e :: a :: f :: f1 :: f2 :: f3 :: f4 :: f5 :: f6 :: f7 :: f8 :: f9 :: f10 :: big := by
  intro p hp
  simp only [List.mem_cons] at hp ⊢
  rcases hp with h | h | h | h | h | h | h | h | h | h | h | h | h | h
  all_goals (try replace h := hb p h)
  all_goals repeat (first | exact .inl h | exact h | refine .inr ?_)
theorem m_mem {h₀ h : Heap} {L : Addr} {news : List (Addr × Obj)} {p : Addr × Obj} (_N : News h₀ L h news) (hp : p ∈ news) : p ∈ news := hp
local macro_rules | `(tactic| walk_at "pyIter ref") => `(tactic| ((with_reducible show wpAny _ _ (pyIter (Value.ref _)) (fun it s₂ => LoopC _ _ _ _ _ _ _ _ it s₂) _ _); refine Stop.mk ?_))
local macro_rules | `(tactic| walk_at "exec For Name Call cons nil") => `(tactic| (k_here; refine For_C ?_))
local macro_rules | `(tactic| walk_at "call ref") => `(tactic| (k_here; refine Stop.mk ?_))
local macro_rules | `(tactic| walk_at "eval ListComp") => `(tactic| (k_here; refine Stop.mk ?_))
local macro_rules | `(tactic| walk_at "call builtin:sorted") => `(tactic| (k_here; refine Stop.mk ?_))
local macro_rules | `(tactic| walk_at "call builtin:list.append") => `(tactic| (k_here; refine Stop.mk ?_))
local macro_rules | `(tactic| walk_at "call builtin:min") => `(tactic| (k_here; refine Stop.mk ?_))
local macro_rules | `(tactic| walk_at "call builtin:max") => `(tactic| (k_here; refine Stop.mk ?_))
local macro_rules | `(tactic| walk_at "compareOp NotIn int ref") => `(tactic| (k_here; refine Stop.mk ?_))
local macro_rules | `(tactic| walk_at "binaryOp Add ref ref") => `(tactic| (k_here; (with_reducible show wpAny _ _ (binaryOp Operator.Add (Value.ref _) (Value.ref _)) _ _ _); refine Stop.mk ?_))
local macro_rules | `(tactic| walk_at "call builtin:len") => `(tactic| (k_here; (with_reducible show wpAny _ _ (call (Value.builtin "len") [Value.ref _]) _ _ _); refine Stop.mk ?_))
local macro_rules | `(tactic| walk_at "exec Assign cons ListComp") => `(tactic| (k_here; (with_reducible show wpAny _ _ (exec (Stmt.Assign [Expr.Name (PySem.Str.ofString "rests") _] _ _) _) _ _ _); refine Stop.mk ?_))
local macro_rules | `(tactic| walk_at "CompSrc") => `(tactic| (refine Stop.mk ?_))
local macro_rules | `(tactic| walk_at "subscriptTail") => `(tactic| (k_here; (with_reducible show wpAny _ _ (subscriptTail _ _ (Value.ref _) (Value.int _ _)) _ _ _); refine Stop.mk ?_))
local macro_rules | `(tactic| walk_at "subscriptTail") => `(tactic| (k_here; kdf_here; (with_reducible show wpAny _ _ (subscriptTail _ _ (Value.ref _) (Value.int _ _)) _ _ _); k_dflt (refine kdf_item (by k_tabat) (by assumption) ?_); intro _))
local macro_rules | `(tactic| k_ne) => `(tactic| (refine neN ?_; (try dsimp only); first | with_reducible assumption | exact cm1 | exact cm2 | exact cm3 | exact cm4 | exact cm5 | exact cm6 | exact cn1 | exact cn2 | exact cn3 | exact cn4 | exact cn5 | exact cn6))
local macro_rules | `(tactic| k_all) => `(tactic| assumption)
local macro_rules | `(tactic| k_all) => `(tactic| (intro kp khp; exact Nat.ne_of_lt (Nat.lt_of_lt_of_le (allLt_mem (by assumption) khp) (by first | exact Nat.le_of_lt cl2 | exact Nat.le_of_lt cl3 | exact Nat.le_of_lt cl4 | exact Nat.le_of_lt cl5 | exact Nat.le_of_lt cl6 | exact Nat.le_of_lt cl7 | omega))))
local macro_rules | `(tactic| walk_at "CompSrcT") => `(tactic| (refine Stop.mk ?_))
theorem due_spec (w : World) (d : Addr) (o : Obj) (kvs : List (Int × Value)) (c : List (Int × Int)) (news : List (Addr × Obj))
    (hm : (d, o) ∈ news) (lo : (d == sysModules) = false) (hd : o.IsDictOf (PySem.intKind PySem.Challenge.rw_xm0714_01.row.prog w) kvs) (hf : PyProof.V.FlatPairs PyData.int kvs (kdfD c))
    (hlen : c.length ≤ 16) (hkeys : ∀ p ∈ c, 0 ≤ p.1 ∧ p.1 ≤ 70000) (hnd : (c.map (·.1)).Nodup) :
    Spec w 112 2 500 [.ref d] news (fun v news' => ∃ (l : Addr) (vs : List Value) (n : Nat) (known : List Int), news' = (l, W.listOf vs.toArray n) :: news ∧ v = .ref l ∧ vs.length ≤ 1000 ∧ known.Perm ((c.map (·.1)).filter fun k => decide (k < 65535)) ∧ known.Pairwise (· ≤ ·) ∧
      IntsAre vs ((wfWords c (known.foldl runStep [] ++ [(65535, 65535)]) (2 ^ expo (known.foldl runStep []).length) (expo (known.foldl runStep []).length)).map (·.fmod 65536))) := by
  unfold Spec
  w_top off
  k_fill
  intro mean mg mb dp un gd cn cs aa ccd cl outer A₀ base h₀ L m s Q E B F X N T hcs hdp hun hret
  refine wpAny_call ?_
  k_dflt (refine' code_defC ?k1 ?k2 ?k3 ?k4 ?k5 ?kA ?kF ?kK ?k6 ?k7 ?k8 ?k9 ?kB ?kD ?_ ?c2 ?c3 ?c4; (case kA => exact rfl); (case kF => exact rfl); (case kK => assumption); (case k1 => k_asm); (case k2 => k_asm); (case k3 => k_asm); (case k4 => k_asm); (case k5 => k_asm); (case k6 => k_is); (case k7 => k_is); (case k8 => ktr_room); (case k9 => exact BindsTo.of_eq rfl); (case kB => exact rfl); (case kD => decide +kernel); (case c2 => exact rfl); (case c3 => exact rfl); (case c4 => exact rfl); k_whole)
  intro gg LL h0' tk0 cells FG0 F0 N0 Y0 B0 X0 T0 l0
  replace l0 := allLt_of l0
  have hY := cells7 Y0
  obtain ⟨o1, o2, o3, o4, o5, o6, o7, hE, dc1, dc2, dc3, dc4, dc5, dc6, dc7⟩ := hY
  subst hE
  clear Y0
  simp only [List.cons_append, List.nil_append] at N0
  try dsimp only
  replace dc1 : o1.data = .cell none := dc1
  replace dc2 : o2.data = .cell none := dc2
  replace dc3 : o3.data = .cell none := dc3
  replace dc4 : o4.data = .cell none := dc4
  replace dc5 : o5.data = .cell none := dc5
  replace dc6 : o6.data = .cell none := dc6
  replace dc7 : o7.data = .cell (some (.ref d)) := dc7
  try k_fold
  have hm0 : (d, o) ∈ (LL + 1 + 1 + 1 + 1 + 1 + 1 + 1, o1) :: (LL + 1 + 1 + 1 + 1 + 1 + 1, o2) :: (LL + 1 + 1 + 1 + 1 + 1, o3) :: (LL + 1 + 1 + 1 + 1, o4) :: (LL + 1 + 1 + 1, o5) :: (LL + 1 + 1, o6) :: (LL + 1, o7) :: news := by simp [hm]
  k_steps
  refine Stop.out ?_
  refine listcomp_dict (cl := []) (by assumption) (by with_unfolding_all rfl) (by decide) (by rfl) (by decide) (by rfl) ?_
  k_steps
  refine ⟨d, o, kvs, _, rfl, rfl, by assumption, by assumption, hm0, lo, hd, ?_, ?_⟩
  · have h1 := congrArg List.length (flat_keys hf rfl); simp only [List.length_map] at h1; rw [h1, sizeLine_eq]; omega
  rintro s₂ ⟨g, rfl⟩
  refine rest_T (ks := c.map (·.1)) (fun k => decide (k < 65535)) id ?_ ?_ ?_ ?_
  · have h1 := congrArg List.length (flat_keys hf rfl); simp only [List.length_map] at h1 ⊢; exact h1.symm
  · rintro i v hi ⟨k, y, hk, hv⟩
    obtain ⟨t, rfl⟩ := key_int hv
    refine ⟨k, t, ?_, rfl⟩
    rw [← flat_keys hf rfl, List.getElem?_map, hk]; rfl
  · intro k t I oI C oC D m₂ ys h tk E' hk hC hx F' N' off ne
    k_steps
    · refine CompEnd.intro F' N' _ (fun p hp => hp) off hm0 ⟨decide_eq_true (by assumption), rfl, t, rfl⟩
    · refine CompEnd.intro F' N' _ (fun p hp => hp) off hm0 ⟨decide_eq_false (by assumption), rfl⟩
  · intro ys hys D1 h1 tk1 F1 N1 off1
    rw [List.map_id] at hys
    generalize hknown : (c.map (·.1)).filter (fun k => decide (k < 65535)) = kn0 at hys
    have hknl : kn0.length ≤ 16 := by
      have h1 := List.length_filter_le (fun k => decide (k < 65535)) (c.map (·.1))
      rw [hknown, List.length_map] at h1; omega
    dsimp only
    k_steps
    refine Stop.out ?_
    refine kso_sorted (ns := kn0) (vs := ys) F1 N1 (News.isList N1 List.mem_cons_self) hys (by omega) ?_
    intro K kvs2 known ck h2 F2 N2 lK hkn hknlen hperm hsort _
    have N3 : News gg LL h2 ((K, W.listOf kvs2.toArray ck) :: (LL + 1 + 1 + 1 + 1 + 1 + 1 + 1, o1) :: (LL + 1 + 1 + 1 + 1 + 1 + 1, o2) :: (LL + 1 + 1 + 1 + 1 + 1, o3) :: (LL + 1 + 1 + 1 + 1, o4) :: (LL + 1 + 1 + 1, o5) :: (LL + 1 + 1, o6) :: (LL + 1, o7) :: news) := news_sub N2 (sl_sub (.cons₂ _ (.cons _ (List.Sublist.refl _))))
    k_lt lK
    clear N2 N1 F1 off1
    have nK2 : K ≠ LL + 1 + 1 := Nat.ne_of_gt lK.2.2.2.2.2.2.1
    have nK3 : K ≠ LL + 1 + 1 + 1 := Nat.ne_of_gt lK.2.2.2.2.2.1
    have nK4 : K ≠ LL + 1 + 1 + 1 + 1 := Nat.ne_of_gt lK.2.2.2.2.1
    have nK5 : K ≠ LL + 1 + 1 + 1 + 1 + 1 := Nat.ne_of_gt lK.2.2.2.1
    k_steps
    rename_i h4 oK F4 N4 dcK
    have hksz : kvs2.toArray.size ≤ sizeLine := by rw [sizeLine_eq, List.size_toArray, hkn.length, hknlen]; omega
    have hkP : ∀ i v, i < kvs2.toArray.size → kvs2.toArray[i]? = some v → ∃ k t, known[i]? = some k ∧ v = .int k t := by
      intro i v hi hv
      simp only [List.getElem?_toArray] at hv
      obtain ⟨k, t, e, hk⟩ := IntsAre.at hkn i v hv
      exact ⟨k, t, hk, e⟩
    refine Stop.out ?_
    refine ListComp_T (F₀ := by k_asm) (by with_unfolding_all rfl) (by decide) (by rfl) (by decide) (by rfl) ?_
    k_steps
    refine Stop.out ?_
    refine CompSrcT.ledger rfl F4 N4 List.mem_cons_self hksz ?_
    intro g4
    refine rest_T (ks := known) (fun k => !known.contains (k - 1)) id (by rw [List.size_toArray, hkn.length]) hkP ?_ ?_
    · intro k t I oI C oC D m₂ ys h tk E' hk hC hx F' N' off ne
      k_steps
      refine Stop.out ?_
      refine m_notin N' (by k_mem) hkn (by ktr_units) ?_
      k_steps
      · rename known.contains _ = true => hc
        exact CompEnd.intro F' N' _ (fun p hp => hp) off (by exact .inr ⟨_, List.mem_cons_self, rfl, _, rfl⟩) (by exact ⟨congrArg not hc, rfl⟩)
      · rename known.contains _ = false => hc
        exact CompEnd.intro F' N' _ (fun p hp => hp) off (by exact .inr ⟨_, List.mem_cons_self, rfl, _, rfl⟩) (by exact ⟨congrArg not hc, rfl, t, rfl⟩)
    · intro ys5 hys5 S h5 tk5 F5 N5 off5
      rw [List.map_id] at hys5
      dsimp only
      simp only [LCg.Off1] at off5
      have nS3 : S ≠ LL + 1 + 1 + 1 := Ne.symm off5.2.2.2.2.2.1
      have nS4 : S ≠ LL + 1 + 1 + 1 + 1 := Ne.symm off5.2.2.2.2.1
      have nS5 : S ≠ LL + 1 + 1 + 1 + 1 + 1 := Ne.symm off5.2.2.2.1
      k_steps
      rename_i h6 oS F6 N6 dcS
      refine Stop.out ?_
      refine ListComp_T (F₀ := by k_asm) (by with_unfolding_all rfl) (by decide) (by rfl) (by decide) (by rfl) ?_
      k_steps
      refine Stop.out ?_
      refine CompSrcT.ledger rfl F6 N6 (List.mem_cons_of_mem _ List.mem_cons_self) hksz ?_
      intro g6
      refine rest_T (ks := known) (fun k => !known.contains (k + 1)) id (by rw [List.size_toArray, hkn.length]) hkP ?_ ?_
      · intro k t I oI C oC D m₂ ys h tk E' hk hC hx F' N' off ne
        k_steps
        refine Stop.out ?_
        refine m_notin N' (by k_mem) hkn (by ktr_units) ?_
        k_steps
        · rename known.contains _ = true => hc
          exact CompEnd.intro F' N' _ (fun p hp => hp) off (by exact .inr ⟨_, (List.mem_cons_of_mem _ List.mem_cons_self), rfl, _, rfl⟩) (by exact ⟨congrArg not hc, rfl⟩)
        · rename known.contains _ = false => hc
          exact CompEnd.intro F' N' _ (fun p hp => hp) off (by exact .inr ⟨_, (List.mem_cons_of_mem _ List.mem_cons_self), rfl, _, rfl⟩) (by exact ⟨congrArg not hc, rfl, t, rfl⟩)
      · intro ys7 hys7 EN h7 tk7 F7 N7 off7
        rw [List.map_id] at hys7
        dsimp only
        simp only [LCg.Off1] at off7
        have nE4 : EN ≠ LL + 1 + 1 + 1 + 1 := Ne.symm off7.2.2.2.2.2.1
        have nE5 : EN ≠ LL + 1 + 1 + 1 + 1 + 1 := Ne.symm off7.2.2.2.2.1
        k_steps
        rename_i h8 oE F8 N8 dcE
        refine Stop.out ?_
        have hs5l : ys5.length ≤ 16 := by
          rw [hys5.length]
          have := List.length_filter_le (fun k => !known.contains (k - 1)) known
          omega
        refine m_len N8 (List.mem_cons_of_mem _ List.mem_cons_self) (by omega) ?_
        intro tlen
        k_steps
        rename_i h9 oM F9 N9 dcM
        rw [hys5.length] at dcM
        generalize hstarts : known.filter (fun k => !known.contains (k - 1)) = starts at hys5 dcM
        generalize hends : known.filter (fun k => !known.contains (k + 1)) = ends at hys7
        have hstl : starts.length ≤ 16 := by rw [← hys5.length]; exact hs5l
        refine Stop.out ?_
        refine ListComp_T (F₀ := by k_asm) (by with_unfolding_all rfl) (by decide) (by rfl) (by decide) (by rfl) ?_
        k_steps
        refine Stop.out ?_
        refine CompSrcT.range rfl (by assumption) (by assumption) (by assumption) (by decide) (by rfl) (by rw [sizeLine_eq]; decide) ?_
        intro g9
        refine rest_T (ks := rangeKs 1 15) (fun k => decide (2 ^ k.toNat ≤ (starts.length : Int) + 1)) id (rangeKs_length _ _) ?_ ?_ ?_
        · rintro i v hi ⟨t, rfl⟩
          exact ⟨1 + (i : Int), t, by simp [rangeKs, hi], rfl⟩
        · intro k t I oI C oC D m₂ ys h tk E' hk hC hx F' N' off ne
          have hk1 := mem_rangeKs hk
          obtain ⟨hk1, hk2⟩ := hk1
          k_steps
          · exact CompEnd.intro F' N' _ (fun p hp => hp) off trivial (by exact ⟨decide_eq_true (by assumption), rfl, t, rfl⟩)
          · exact CompEnd.intro F' N' _ (fun p hp => hp) off trivial (by exact ⟨decide_eq_false (by assumption), rfl⟩)
        · intro ys10 hys10 PL h10 tk10 F10 N10 off10
          rw [List.map_id] at hys10
          have hel : ys10.length = expo starts.length := hys10.length
          obtain ⟨hpow, hple, hplt⟩ := expo_ok hstl
          have he4 : expo starts.length ≤ 4 := pow_ex hpow
          dsimp only
          simp only [LCg.Off1] at off10
          k_steps
          refine Stop.out ?_
          refine m_len N10 List.mem_cons_self (by omega) ?_
          rw [hel]
          intro tlen2
          generalize hexpo : expo starts.length = ex at *
          k_steps
          rename PyProof.V.FlatPairs _ _ _ => hf
          rename_i dl _ ldl ol _ lol la _ lla _ _ _ _ _ _ _ F11 N11 h12 tk12 tA uA vA IR F12 N12 kp12
          clear F11 N11
          have N13 : News gg LL h12 ((dl, W.listOf ([] : List Value).toArray 0) :: (ol, W.listOf ([] : List Value).toArray 0) :: (la, W.listOf ([] : List Value).toArray 0) :: (LL + 1 + 1 + 1 + 1 + 1 + 1 + 1, o1) :: (LL + 1 + 1 + 1 + 1 + 1 + 1, o2) :: (LL + 1 + 1 + 1 + 1 + 1, oM) :: (LL + 1 + 1 + 1 + 1, oE) :: (LL + 1 + 1 + 1, oS) :: (LL + 1 + 1, oK) :: (LL + 1, o7) :: (EN, lst ys7) :: (S, lst ys5) :: (K, W.listOf kvs2.toArray ck) :: news) := news_sub N12 (by
            iterate 13 refine fm_cons (by k_mem) ?_
            intro p hp
            iterate 15 apply List.mem_cons_of_mem
            exact hp)
          clear N12 kp12
          have hltk : known.Pairwise (· < ·) := lt_sorted hsort (hperm.nodup_iff.mpr (by rw [← hknown]; exact hnd.filter _))
          have hRI := runs_inv' hltk
          have hRst : (known.foldl runStep []).map (·.1) = starts := hRI.st.trans hstarts
          have hRen : (known.foldl runStep []).map (·.2) = ends := hRI.en.trans hends
          obtain ⟨R, hR⟩ : ∃ R, R = known.foldl runStep [] := ⟨_, rfl⟩
          rw [← hR] at hRst hRen
          have hRl : R.length = starts.length := by rw [← hRst, List.length_map]
          obtain ⟨RUNS, hRUNS⟩ : ∃ RUNS, RUNS = R ++ [((65535 : Int), (65535 : Int))] := ⟨_, rfl⟩
          obtain ⟨_, ldE, ldS, ldK, ld7, ld6, ld5, ld4, ld3, ld2, ld1, ldn⟩ := ldl
          obtain ⟨lod, _, loE, loS, loK, lo7, lo6, lo5, lo4, lo3, lo2, lo1, lon⟩ := lol
          obtain ⟨lao, lad, _, _, _, _, hla7, hla6, _⟩ := lla
          have hdl7 : dl ≠ LL + 1 + 1 + 1 + 1 + 1 + 1 + 1 := Nat.ne_of_gt ld7
          have hol7 : ol ≠ LL + 1 + 1 + 1 + 1 + 1 + 1 + 1 := Nat.ne_of_gt lo7
          have hdl6 : dl ≠ LL + 1 + 1 + 1 + 1 + 1 + 1 := Nat.ne_of_gt ld6
          have hol6 : ol ≠ LL + 1 + 1 + 1 + 1 + 1 + 1 := Nat.ne_of_gt lo6
          have hfxd : ∀ p ∈ [(LL + 1 + 1 + 1 + 1 + 1, oM), (LL + 1 + 1 + 1 + 1, oE), (LL + 1 + 1 + 1, oS), (LL + 1 + 1, oK), (LL + 1, o7), (EN, lst ys7), (S, lst ys5), (K, W.listOf kvs2.toArray ck)], p.1 ≠ dl := by
            repeat (first | exact fm_nil | refine fm_cons (Nat.ne_of_lt (by assumption)) ?_)
          have hfxo : ∀ p ∈ [(LL + 1 + 1 + 1 + 1 + 1, oM), (LL + 1 + 1 + 1 + 1, oE), (LL + 1 + 1 + 1, oS), (LL + 1 + 1, oK), (LL + 1, o7), (EN, lst ys7), (S, lst ys5), (K, W.listOf kvs2.toArray ck)], p.1 ≠ ol := by
            repeat (first | exact fm_nil | refine fm_cons (Nat.ne_of_lt (by assumption)) ?_)
          have hEN7 : EN ≠ LL + 1 + 1 + 1 + 1 + 1 + 1 + 1 := Ne.symm off7.2.2.1
          have hEN6 : EN ≠ LL + 1 + 1 + 1 + 1 + 1 + 1 := Ne.symm off7.2.2.2.1
          have hS7 : S ≠ LL + 1 + 1 + 1 + 1 + 1 + 1 + 1 := Ne.symm off5.2.1
          have hS6 : S ≠ LL + 1 + 1 + 1 + 1 + 1 + 1 := Ne.symm off5.2.2.1
          have hK7 : K ≠ LL + 1 + 1 + 1 + 1 + 1 + 1 + 1 := Nat.ne_of_gt lK.2.1
          have hK6 : K ≠ LL + 1 + 1 + 1 + 1 + 1 + 1 := Nat.ne_of_gt lK.2.2.1
          have hlad : la ≠ dl := Nat.ne_of_gt lad
          have hlao : la ≠ ol := Nat.ne_of_gt lao
          have hold : ol ≠ dl := Nat.ne_of_gt lod
          refine Stop.out ?_
          refine range_C (n := starts.length) (fun i m₁ nx => ∃ (st : W3) (dv ov lv : List Value) (dn on ln : Nat) (la : Addr) (x1 x2 : Obj) (te tp : Tok) (q1 q2 : Option Value),
            nx = (dl, W.listOf dv.toArray dn) :: (ol, W.listOf ov.toArray on) :: (la, W.listOf lv.toArray ln) :: (LL + 1 + 1 + 1 + 1 + 1 + 1 + 1, x1) :: (LL + 1 + 1 + 1 + 1 + 1 + 1, x2) :: (LL + 1 + 1 + 1 + 1 + 1, oM) :: (LL + 1 + 1 + 1 + 1, oE) :: (LL + 1 + 1 + 1, oS) :: (LL + 1 + 1, oK) :: (LL + 1, o7) :: (EN, lst ys7) :: (S, lst ys5) :: (K, W.listOf kvs2.toArray ck) :: news
            ∧ la ≠ dl ∧ la ≠ ol ∧ LL + 1 + 1 + 1 + 1 + 1 + 1 + 1 < la ∧ x1.data = .cell q1 ∧ x2.data = .cell q2
            ∧ m₁ (PySem.Str.ofString "deltas") = some (.ref dl) ∧ m₁ (PySem.Str.ofString "offsets") = some (.ref ol) ∧ m₁ (PySem.Str.ofString "lists") = some (.ref la) ∧ m₁ (PySem.Str.ofString "exponent") = some (.int ex te) ∧ m₁ (PySem.Str.ofString "power") = some (.int (2 ^ ex) tp)
            ∧ IntsAre dv st.dw ∧ IntsAre ov st.ow ∧ IntsAre lv st.lw ∧ st = (rangeKs 0 i).foldl (wStep c RUNS) ⟨[], [], []⟩ ∧ st.dw.length = i ∧ st.ow.length = i ∧ st.lw.length ≤ 16 * i)
            (by rfl) IR (small_one (by omega) (by omega) (by omega) (by omega)) (by have := rangeSize_nat 0 ((starts.length : Int) + 1 - 1); simpa using this) F12 N13 ?j0 ?jt ?jd
          case j0 =>
            refine ⟨⟨[], [], []⟩, [], [], [], 0, 0, 0, la, o1, o2, ?te, ?tp, none, none, rfl, ?_, ?_, ?_, dc1, dc2, by rfl, by rfl, by rfl, by rfl, by rfl, .nil, .nil, .nil, rfl, rfl, rfl, Nat.zero_le _⟩
            · exact hlad
            · exact hlao
            · exact hla7
          case jt =>
            rintro i k t m₁ nx h tk own hi hk hown ⟨st, dv, ov, lv, dn, on, ln, la, x1, x2, te, tp, q1, q2, rfl, hla1, hla2, hla3, dx1, dx2, e1, e2, e3, e4, e5, hdv, hov, hlv, hst, hdl, hol, hll⟩ F' N'
            have F2 := ksw_fr (m₀ := m₁) (stored := []) (ps := [(PySem.Str.ofString "deltas", .ref dl), (PySem.Str.ofString "offsets", .ref ol), (PySem.Str.ofString "lists", .ref la), (PySem.Str.ofString "exponent", .int ex te), (PySem.Str.ofString "power", .int (2 ^ ex) tp)]) (by intro p hp; simp only [List.mem_cons, List.not_mem_nil, or_false] at hp; rcases hp with rfl | rfl | rfl | rfl | rfl <;> assumption) (fun _ _ _ => rfl) F'
            clear F' e1 e2 e3 e4 e5 F12 N13
            dsimp only [kstB] at F2
            change Fr gg LL h _ at F2
            change News gg LL h _ at N'
            simp only [List.cons_append] at N'
            have hownb : ∀ b, b ∈ [dl, ol, la, LL + 1 + 1 + 1 + 1 + 1 + 1 + 1, LL + 1 + 1 + 1 + 1 + 1 + 1] → ∀ p ∈ own, p.1 ≠ b := fun b hb p hp => hown p hp b (by
              simp only [List.map_cons, List.mem_cons, List.not_mem_nil, or_false] at hb ⊢
              rcases hb with e | e | e | e | e <;> simp [e])
            have hi16 : i ≤ 16 := Nat.le_trans (Nat.le_of_lt hi) hstl
            have hpk : Stop (st.dw.length = i ∧ st.ow.length = i ∧ st.lw.length ≤ 16 * i ∧ lv.length = st.lw.length ∧ dv.length ≤ 1000000 ∧ ov.length ≤ 1000000 ∧ lv.length ≤ 256) :=
              ⟨hdl, hol, hll, hlv.length, by rw [hdv.length, hdl]; exact Nat.le_trans hi16 (by decide), by rw [hov.length, hol]; exact Nat.le_trans hi16 (by decide), by rw [hlv.length]; exact Nat.le_trans hll (Nat.mul_le_mul_left 16 hi16)⟩
            clear hdl hol hll hi16
            have hb7 : ∀ p ∈ news ++ own, p.1 ≠ LL + 1 + 1 + 1 + 1 + 1 + 1 + 1 := fun p hp => by
              rcases List.mem_append.mp hp with h1 | h1
              · exact Nat.ne_of_lt (Nat.lt_of_lt_of_le (allLt_mem l0 h1) (by omega))
              · exact hownb _ (by simp) p h1
            have hb6 : ∀ p ∈ news ++ own, p.1 ≠ LL + 1 + 1 + 1 + 1 + 1 + 1 := fun p hp => by
              rcases List.mem_append.mp hp with h1 | h1
              · exact Nat.ne_of_lt (Nat.lt_of_lt_of_le (allLt_mem l0 h1) (by omega))
              · exact hownb _ (by simp) p h1
            have hbd : ∀ p ∈ news ++ own, p.1 ≠ dl := fun p hp => by
              rcases List.mem_append.mp hp with h1 | h1
              · exact allLt_ne ldn h1
              · exact hownb _ (by simp) p h1
            have hbo : ∀ p ∈ news ++ own, p.1 ≠ ol := fun p hp => by
              rcases List.mem_append.mp hp with h1 | h1
              · exact allLt_ne lon h1
              · exact hownb _ (by simp) p h1
            have hbown : ∀ p ∈ own, p ∈ news ++ own := fun p hp => List.mem_append_right _ hp
            have hbnews : ∀ p ∈ news, p ∈ news ++ own := fun p hp => List.mem_append_left _ hp
            have hmb : (d, o) ∈ news ++ own := List.mem_append_left _ hm
            generalize hbig : news ++ own = big at *
            refine wpAny_assign_Name ?_
            refine stCN (own := [(dl, W.listOf dv.toArray dn), (ol, W.listOf ov.toArray on), (la, W.listOf lv.toArray ln), (LL + 1 + 1 + 1 + 1 + 1 + 1 + 1, x1)]) (c := LL + 1 + 1 + 1 + 1 + 1 + 1) (o := x2) F2 N' (by rfl) dx2 ?h1 ?h2 ?_
            case h1 => 
              exact fm_cons hdl6 (fm_cons hol6 (fm_cons (Nat.ne_of_gt (Nat.lt_trans (Nat.lt_succ_self _) hla3)) (fm_cons (Nat.ne_of_gt (Nat.lt_succ_self _)) fm_nil)))
            case h2 =>
              exact fm_cons cn1 (fm_cons cn2 (fm_cons cn3 (fm_cons cn4 (fm_cons cn5 (fm_cons hEN6 (fm_cons hS6 (fm_cons hK6 hb6)))))))
            clear N' F2
            have hiR : i < R.length := by rw [hRl]; exact hi
            obtain ⟨p, hpdef⟩ : ∃ p, p = R[i]'hiR := ⟨_, rfl⟩
            have hpR : p ∈ known.foldl runStep [] := by rw [← hR, hpdef]; exact List.getElem_mem hiR
            obtain ⟨hp12, hplen, hpin⟩ := runs_ok p hpR
            have hrow := run_row hltk hpR
            have hSi : starts[i]'hi = p.1 := by rw [hpdef]; simp [← hRst]
            have hei : i < ends.length := by rw [← hRen, List.length_map]; exact hiR
            have hEi : ends[i]'hei = p.2 := by rw [hpdef]; simp [← hRen]
            obtain ⟨tS, hvS⟩ := ints_get hys5 hi
            obtain ⟨tE, hvE⟩ := ints_get hys7 hei
            rw [hSi] at hvS
            rw [hEi] at hvE
            have hk0 : k.toNat = i := by rw [hk]; exact to_nat0
            have hSD : starts.getD k.toNat 0 = p.1 := by rw [hk0, List.getD_eq_getElem?_getD, List.getElem?_eq_getElem hi]; exact hSi
            have hED : ends.getD k.toNat 0 = p.2 := by rw [hk0, List.getD_eq_getElem?_getD, List.getElem?_eq_getElem hei]; exact hEi
            intro h2 oP F2 N2 dcP
            simp only [List.cons_append, List.nil_append] at N2
            k_steps
            refine Stop.out ?_
            refine ListComp_T (F₀ := by k_asm) (by with_unfolding_all rfl) (by decide) (by rfl) (by decide) (by rfl) ?_
            k_steps
            refine Stop.out ?_
            refine CompSrcT.ledger rfl F2 N2 (by k_mem) hksz ?_
            intro g3
            refine rest_T (ks := known) (fun k => decide (p.1 ≤ k) && decide (k ≤ p.2)) (fun k => kdfLook c k 0) (by rw [List.size_toArray, hkn.length]) hkP ?_ ?_
            · intro kk kt I oI C oC D m₂ ys h tk E' hkk hC hx F' N' off ne
              have hhas : kdfHas c kk = true := by
                have h1 := hperm.mem_iff.mp hkk
                rw [← hknown] at h1
                obtain ⟨pp, hpp, e⟩ := List.mem_map.mp (List.mem_filter.mp h1).1
                exact List.any_eq_true.mpr ⟨pp, hpp, decide_eq_true e⟩
              have hme := m_mem (p := (d, o)) N' (by repeat (first | assumption | apply List.mem_cons_of_mem))
              k_steps
              · rename starts.getD k.toNat 0 ≤ kk => u1
                rename kk ≤ ends.getD k.toNat 0 => u2
                refine CompEnd.intro F' N' _ (fun p hp => hp) off (by exact .inr ⟨_, (by k_mem), rfl, _, rfl⟩) ⟨?_, rfl, _, rfl⟩
                rw [hSD] at u1
                rw [hED] at u2
                simp [u1, u2]
              · rename starts.getD k.toNat 0 ≤ kk => u1
                rename ¬ kk ≤ ends.getD k.toNat 0 => u2
                refine CompEnd.intro F' N' _ (fun p hp => hp) off (by exact .inr ⟨_, (by k_mem), rfl, _, rfl⟩) ⟨?_, rfl⟩
                rw [hSD] at u1
                rw [hED] at u2
                simp [u2]
              · rename ¬ starts.getD k.toNat 0 ≤ kk => u1
                refine CompEnd.intro F' N' _ (fun p hp => hp) off (by exact .inr ⟨_, (by k_mem), rfl, _, rfl⟩) ⟨?_, rfl⟩
                rw [hSD] at u1
                simp [u1]
            · intro ys8 hys8 RW h5 tk5 F5 N5 off5
              rw [hrow] at hys8
              obtain ⟨rn, hrn⟩ : ∃ rn : Nat, rn = (p.2 + 1 - p.1).toNat := ⟨_, rfl⟩
              obtain ⟨row, hrowd⟩ : ∃ row : List Int, row = (rangeKs p.1 rn).map (fun k => kdfLook c k 0) := ⟨_, rfl⟩
              have hrn1 : 1 ≤ rn := (rn_bnd hrn hp12 hplen (by rw [hknlen]; exact hknl)).1
              have hrn2 : rn ≤ 16 := (rn_bnd hrn hp12 hplen (by rw [hknlen]; exact hknl)).2
              rw [← hrn, ← hrowd] at hys8
              have hrowl : row.length = rn := by rw [hrowd, List.length_map, rangeKs_length]
              dsimp only
              simp only [LCg.Off1] at off5
              k_steps
              refine stCN (own := [(RW, lst ys8), (dl, W.listOf dv.toArray dn), (ol, W.listOf ov.toArray on), (la, W.listOf lv.toArray ln)]) (c := LL + 1 + 1 + 1 + 1 + 1 + 1 + 1) (o := x1) F5 N5 (by rfl) dx1 ?h3 ?h4 ?_
              case h3 =>
                exact fm_cons (Ne.symm off5.2.2.2.1) (fm_cons hdl7 (fm_cons hol7 (fm_cons (Nat.ne_of_gt hla3) fm_nil)))
              case h4 =>
                exact fm_cons cn1 (fm_cons cn2 (fm_cons cn3 (fm_cons cn4 (fm_cons cn5 (fm_cons cn6 (fm_cons hEN7 (fm_cons hS7 (fm_cons hK7 hb7))))))))
              clear N5
              intro h6 oR F6 N6 dcR
              simp only [List.cons_append, List.nil_append] at N6
              have hys8l : ys8.length = rn := by rw [hys8.length, hrowl]
              k_steps
              refine Stop.out ?_
              refine LCg.Assign_ListComp_U (F₀ := by k_asm) (by rfl) (by with_unfolding_all rfl) (by with_unfolding_all rfl) (by decide) (by rfl) (by decide) (by rfl) (by rfl) (by rfl) ?_
              k_steps
              refine Stop.out ?_
              refine m_len (vs := ys8) N6 (by k_mem) (Nat.le_trans (Nat.le_of_eq hys8l) (Nat.le_trans hrn2 (by decide))) ?_
              rw [hys8l]
              intro tl8
              k_steps
              refine Stop.out ?_
              refine CompSrc.range (n := rn) rfl (by assumption) (by assumption) (by assumption) (small_one (by omega) (by omega) (by omega) (by omega)) (by have := rangeSize_nat 0 (rn : Int); simpa using this) (by rw [sizeLine_eq]; omega) ?_
              intro g7
              refine kcf_rest (ks := rangeKs 0 rn) (fun j => row.getD j.toNat 0 - j) (rangeKs_length _ _) ?_ ?_ ?_
              · rintro i v hi ⟨t, rfl⟩
                exact ⟨0 + (i : Int), t, by simp [rangeKs, hi], rfl⟩
              · intro kk kt I oI C oC D m₂ ys h tk E' hkk hC hx F' N' off ne _
                have hkk2 := mem_rangeKs hkk
                obtain ⟨hk1, hk2⟩ := hkk2
                have hkj : kk.toNat < row.length := by rw [hrowl]; omega
                obtain ⟨tk9, hget9⟩ := ints_get hys8 hkj
                have hgd : row.getD kk.toNat 0 = row[kk.toNat]'hkj := by rw [List.getD_eq_getElem?_getD, List.getElem?_eq_getElem hkj]; rfl
                rw [← hgd] at hget9
                k_steps
              · unfold KPfDone
                intro ys9 hys9 RS h8 tk8 F8 N8 off8
                obtain ⟨rs, hrs⟩ : ∃ rs : List Int, rs = (rangeKs 0 rn).map fun j => row.getD j.toNat 0 - j := ⟨_, rfl⟩
                have hrsl : rs.length = rn := by rw [hrs, List.length_map, rangeKs_length]
                rw [← hrs] at hys9
                have hrs0 := rests_zero hrn1 hrowd hrs
                dsimp only
                simp only [LCg.Off1] at off8
                have hRd : RW ≠ dl := Ne.symm off5.1
                have hRo : RW ≠ ol := Ne.symm off5.2.1
                have hrest1 : ∀ x : Obj, ∀ p ∈ (RW, lst ys8) :: (ol, x) :: (la, W.listOf lv.toArray ln) :: (LL + 1 + 1 + 1 + 1 + 1 + 1 + 1, oR) :: (LL + 1 + 1 + 1 + 1 + 1 + 1, oP) :: (LL + 1 + 1 + 1 + 1 + 1, oM) :: (LL + 1 + 1 + 1 + 1, oE) :: (LL + 1 + 1 + 1, oS) :: (LL + 1 + 1, oK) :: (LL + 1, o7) :: (EN, lst ys7) :: (S, lst ys5) :: (K, W.listOf kvs2.toArray ck) :: big, p.1 ≠ dl := by
                  exact fun x => fm_cons hRd (fm_cons (hold) (fm_cons hla1 (fm_cons (Ne.symm hdl7) (fm_cons (Ne.symm hdl6) (fm_app hfxd hbd)))))
                have hrest2 : ∀ x : Obj, ∀ p ∈ (RW, lst ys8) :: (dl, x) :: (la, W.listOf lv.toArray ln) :: (LL + 1 + 1 + 1 + 1 + 1 + 1 + 1, oR) :: (LL + 1 + 1 + 1 + 1 + 1 + 1, oP) :: (LL + 1 + 1 + 1 + 1 + 1, oM) :: (LL + 1 + 1 + 1 + 1, oE) :: (LL + 1 + 1 + 1, oS) :: (LL + 1 + 1, oK) :: (LL + 1, o7) :: (EN, lst ys7) :: (S, lst ys5) :: (K, W.listOf kvs2.toArray ck) :: big, p.1 ≠ ol := by
                  exact fun x => fm_cons hRo (fm_cons (Ne.symm hold) (fm_cons hla2 (fm_cons (Ne.symm hol7) (fm_cons (Ne.symm hol6) (fm_app hfxo hbo)))))
                k_steps
                refine Stop.out ?_
                refine kso_min (vs := ys9) F8 N8 (N8.isList (by k_mem)) hys9 (by omega) rfl ?_
                intro h9 M tM tk9 F9 N9 hM1 hM2
                k_steps
                refine Stop.out ?_
                refine kso_max (vs := ys9) F9 N9 (N9.isList (by k_mem)) hys9 (by omega) rfl ?_
                intro h10 M' tM' tk10 F10 N10 hM3 hM4
                have hev := rests_even hrn hp12 hrowd hrs hM1 hM2 hM3 hM4
                k_steps
                · rename M = M' => hMM
                  have hevt := hev.mp hMM
                  refine Stop.out ?_
                  refine m_append (rest := (RW, lst ys8) :: (ol, W.listOf ov.toArray on) :: (la, W.listOf lv.toArray ln) :: (LL + 1 + 1 + 1 + 1 + 1 + 1 + 1, oR) :: (LL + 1 + 1 + 1 + 1 + 1 + 1, oP) :: (LL + 1 + 1 + 1 + 1 + 1, oM) :: (LL + 1 + 1 + 1 + 1, oE) :: (LL + 1 + 1 + 1, oS) :: (LL + 1 + 1, oK) :: (LL + 1, o7) :: (EN, lst ys7) :: (S, lst ys5) :: (K, W.listOf kvs2.toArray ck) :: big) F10 N10 (by k_mem) (fun p hp => ⟨sub_a p hp, hrest1 _ p hp⟩) hpk.2.2.2.2.1 ?_
                  intro h11 F11 N11
                  k_steps
                  refine Stop.out ?_
                  refine m_append (l := ol) (rest := (RW, lst ys8) :: (dl, _) :: (la, W.listOf lv.toArray ln) :: (LL + 1 + 1 + 1 + 1 + 1 + 1 + 1, oR) :: (LL + 1 + 1 + 1 + 1 + 1 + 1, oP) :: (LL + 1 + 1 + 1 + 1 + 1, oM) :: (LL + 1 + 1 + 1 + 1, oE) :: (LL + 1 + 1 + 1, oS) :: (LL + 1 + 1, oK) :: (LL + 1, o7) :: (EN, lst ys7) :: (S, lst ys5) :: (K, W.listOf kvs2.toArray ck) :: big) F11 N11 (by k_mem) (fun p hp => ⟨sub_b p hp, hrest2 _ p hp⟩) hpk.2.2.2.2.2.1 ?_
                  intro h12 F12 N12
                  k_steps
                  have hx0 : rs.getD (Int.toNat 0) 0 - starts.getD k.toNat 0 = kdfLook c p.1 0 - p.1 := by
                    rw [hSD, List.getD_eq_getElem?_getD]
                    show (rs[0]?).getD 0 - p.1 = _
                    rw [hrs0]; rfl
                  refine InvEndG.intro (L := LL) F12 N12 ⟨⟨st.dw ++ [kdfLook c p.1 0 - p.1], st.ow ++ [0], st.lw⟩, _, _, lv, _, _, ln, la, oR, oP, te, tp, _, _, rfl, hla1, hla2, hla3, dcR, dcP, by rfl, by rfl, by rfl, by rfl, by rfl, ?_, ?_, hlv, ?_, ?_, ?_, ?_⟩ ?_ (by exact nx1 hbnews) (fun p hp => ?_)
                  · rw [← hx0]; exact IntsAre.append hdv (.cons _ _ .nil)
                  · exact IntsAre.append hov (.cons _ _ .nil)
                  · rw [rangeKs_snoc, List.foldl_append, ← hst, hRUNS]
                    exact (wStep_even hiR hpdef hevt).symm
                  · show (st.dw ++ _).length = _; rw [List.length_append, hpk.1]; rfl
                  · show (st.ow ++ _).length = _; rw [List.length_append, hpk.2.1]; rfl
                  · show st.lw.length ≤ _; exact Nat.le_trans hpk.2.2.1 (Nat.mul_le_mul_left 16 (Nat.le_succ i))
                  · exact hown
                  · simp only [List.mem_cons]
                    have := hbown p hp
                    repeat (first | exact this | refine .inr ?_)
                · rename M ≠ M' => hMM
                  have hevt : ¬ evenB c p.1 p.2 = true := fun e => hMM (hev.mpr e)
                  refine Stop.out ?_
                  refine m_len (vs := lv) N10 (by k_mem) (Nat.le_trans hpk.2.2.2.2.2.2 (by decide)) ?_
                  intro tl9
                  k_steps
                  rename_i F11 N11
                  refine Stop.out ?_
                  refine m_append (l := dl) (rest := (RW, lst ys8) :: (ol, W.listOf ov.toArray on) :: (la, W.listOf lv.toArray ln) :: (LL + 1 + 1 + 1 + 1 + 1 + 1 + 1, oR) :: (LL + 1 + 1 + 1 + 1 + 1 + 1, oP) :: (LL + 1 + 1 + 1 + 1 + 1, oM) :: (LL + 1 + 1 + 1 + 1, oE) :: (LL + 1 + 1 + 1, oS) :: (LL + 1 + 1, oK) :: (LL + 1, o7) :: (EN, lst ys7) :: (S, lst ys5) :: (K, W.listOf kvs2.toArray ck) :: big) F11 (news_sub N11 fun p hp => List.mem_cons_of_mem _ hp) (by k_mem) (fun p hp => ⟨sub_a p hp, hrest1 _ p hp⟩) hpk.2.2.2.2.1 ?_
                  clear N11 F11
                  intro h12 F12 N12
                  k_steps
                  refine Stop.out ?_
                  refine m_append (l := ol) (rest := (RW, lst ys8) :: (dl, _) :: (la, W.listOf lv.toArray ln) :: (LL + 1 + 1 + 1 + 1 + 1 + 1 + 1, oR) :: (LL + 1 + 1 + 1 + 1 + 1 + 1, oP) :: (LL + 1 + 1 + 1 + 1 + 1, oM) :: (LL + 1 + 1 + 1 + 1, oE) :: (LL + 1 + 1 + 1, oS) :: (LL + 1 + 1, oK) :: (LL + 1, o7) :: (EN, lst ys7) :: (S, lst ys5) :: (K, W.listOf kvs2.toArray ck) :: big) F12 N12 (by k_mem) (fun p hp => ⟨sub_b p hp, hrest2 _ p hp⟩) hpk.2.2.2.2.2.1 ?_
                  intro h13 F13 N13
                  k_steps
                  refine Stop.out ?_
                  refine m_add (vs := lv) (ws := ys8) F13 N13 (by k_mem) (by k_mem) (le_mil hpk.2.2.2.2.2.2 (Nat.le_trans (Nat.le_of_eq hys8l) hrn2) (by decide)) ?_
                  intro D h14 F14 N14 hD
                  have hDo : ∀ p ∈ own, p.1 ≠ D := fun p hp => Nat.ne_of_lt (hD p (by
                    simp only [List.mem_cons]
                    have := hbown p hp
                    repeat (first | exact this | refine .inr ?_)))
                  have hDdl : D ≠ dl := Nat.ne_of_gt (hD (dl, _) (by k_mem))
                  have hDol : D ≠ ol := Nat.ne_of_gt (hD (ol, _) (by k_mem))
                  have hD7 := hD (LL + 1 + 1 + 1 + 1 + 1 + 1 + 1, oR) (by k_mem)
                  k_steps
                  rename_i F15 N15
                  have hx0 : 2 * (8 + 4 * ((starts.length : Int) + 1) + (lv.length : Int) - (8 + 3 * ((starts.length : Int) + 1) + k)) = 2 * (((R.length : Int) + 1) - i) + 2 * (st.lw.length : Int) := by have := hpk.2.2.2.1; omega
                  refine InvEndG.intro (L := LL) F15 N15 ⟨⟨st.dw ++ [0], st.ow ++ [2 * (((R.length : Int) + 1) - i) + 2 * (st.lw.length : Int)], st.lw ++ row⟩, _, _, lv ++ ys8, _, _, _, D, oR, oP, te, tp, _, _, rfl, hDdl, hDol, hD7, dcR, dcP, by rfl, by rfl, by rfl, by rfl, by rfl, ?_, ?_, ?_, ?_, ?_, ?_, ?_⟩ ?_ (by exact nx2 hbnews) (fun p hp => ?_)
                  · exact IntsAre.append hdv (.cons _ _ .nil)
                  · rw [← hx0]; exact IntsAre.append hov (.cons _ _ .nil)
                  · exact IntsAre.append hlv hys8
                  · rw [rangeKs_snoc, List.foldl_append, ← hst, hRUNS, hrowd, hrn]
                    exact (wStep_odd hiR hpdef hevt).symm
                  · show (st.dw ++ _).length = _; rw [List.length_append, hpk.1]; rfl
                  · show (st.ow ++ _).length = _; rw [List.length_append, hpk.2.1]; rfl
                  · exact la_app hpk.2.2.1 (Nat.le_trans (Nat.le_of_eq hrowl) hrn2)
                  · intro p hp b hb
                    simp only [List.map_cons, List.mem_cons] at hb
                    rcases hb with hb | hb | hb | hb
                    · exact hown p hp b (by simp [hb])
                    · exact hown p hp b (by simp [hb])
                    · rw [hb]; exact hDo p hp
                    · exact hown p hp b (by
                        simp only [List.map_cons, List.mem_cons]
                        exact .inr (.inr (.inr hb)))
                  · simp only [List.mem_cons]
                    have := hbown p hp
                    repeat (first | exact this | refine .inr ?_)
          case jd =>
            rintro m₁ nx h tk ⟨st, dv, ov, lv, dn, on, ln, la, x1, x2, te, tp, q1, q2, rfl, hla1, hla2, hla3, dx1, dx2, e1, e2, e3, e4, e5, hdv, hov, hlv, hst, hdl, hol, hll⟩ F' N'
            have F2 := ksw_fr (m₀ := m₁) (stored := []) (ps := [(PySem.Str.ofString "deltas", .ref dl), (PySem.Str.ofString "offsets", .ref ol), (PySem.Str.ofString "lists", .ref la), (PySem.Str.ofString "exponent", .int ex te), (PySem.Str.ofString "power", .int (2 ^ ex) tp)]) (by intro p hp; simp only [List.mem_cons, List.not_mem_nil, or_false] at hp; rcases hp with rfl | rfl | rfl | rfl | rfl <;> assumption) (fun _ _ _ => rfl) F'
            clear F' e1 e2 e3 e4 e5 F12 N13
            dsimp only [kstB] at F2
            change Fr gg LL h _ at F2
            change News gg LL h _ at N'
            have hdvl := hdv.length
            have hovl := hov.length
            have hlvl := hlv.length
            k_steps
            refine Stop.out ?_
            refine m_len (vs := lv) N' (by k_mem) (by rw [hlvl]; exact Nat.le_trans hll (Nat.le_trans (Nat.mul_le_mul_left 16 hstl) (by decide))) ?_
            intro tl9
            have hendl : ends.length = starts.length := by rw [← hRen, List.length_map, hRl]
            have hendb : ends.length ≤ 16 := Nat.le_trans (Nat.le_of_eq hendl) hstl
            have hdb : st.dw.length ≤ 16 := Nat.le_trans (Nat.le_of_eq hdl) hstl
            have hob : st.ow.length ≤ 16 := Nat.le_trans (Nat.le_of_eq hol) hstl
            have hlb : st.lw.length ≤ 256 := Nat.le_trans hll (Nat.mul_le_mul_left 16 hstl)
            k_steps
            refine Stop.out ?_
            refine m_addB (p := 7) (F := by assumption) (N := by assumption) (by k_mem) (by k_mem) (.cons _ _ (.cons _ _ (.cons _ _ (.cons _ _ (.cons _ _ (.cons _ _ (.cons _ _ .nil))))))) (by exact Nat.le_refl _) hys7 hendb (by decide) ?_
            intro A1 z1 g1 hz1 hb1 FA1 NA1
            k_steps
            refine Stop.out ?_
            refine m_addB (q := 2) (F := by assumption) (N := by assumption) (by k_mem) (by k_mem) hz1 hb1 (.cons _ _ (.cons _ _ .nil)) (by exact Nat.le_refl _) (by decide) ?_
            clear hz1 hb1
            intro A2 z2 g2 hz2 hb2 FA2 NA2
            k_steps
            refine Stop.out ?_
            refine m_addB (F := by assumption) (N := by assumption) (by k_mem) (by k_mem) hz2 hb2 hys5 hstl (by decide) ?_
            clear hz2 hb2
            intro A3 z3 g3 hz3 hb3 FA3 NA3
            k_steps
            refine Stop.out ?_
            refine m_addB (q := 1) (F := by assumption) (N := by assumption) (by k_mem) (by k_mem) hz3 hb3 (.cons _ _ .nil) (by exact Nat.le_refl _) (by decide) ?_
            clear hz3 hb3
            intro A4 z4 g4 hz4 hb4 FA4 NA4
            k_steps
            refine Stop.out ?_
            refine m_addB (F := by assumption) (N := by assumption) (by k_mem) (by k_mem) hz4 hb4 hdv hdb (by decide) ?_
            clear hz4 hb4
            intro A5 z5 g5 hz5 hb5 FA5 NA5
            k_steps
            refine Stop.out ?_
            refine m_addB (q := 1) (F := by assumption) (N := by assumption) (by k_mem) (by k_mem) hz5 hb5 (.cons _ _ .nil) (by exact Nat.le_refl _) (by decide) ?_
            clear hz5 hb5
            intro A6 z6 g6 hz6 hb6 FA6 NA6
            k_steps
            refine Stop.out ?_
            refine m_addB (F := by assumption) (N := by assumption) (by k_mem) (by k_mem) hz6 hb6 hov hob (by decide) ?_
            clear hz6 hb6
            intro A7 z7 g7 hz7 hb7 FA7 NA7
            k_steps
            refine Stop.out ?_
            refine m_addB (q := 1) (F := by assumption) (N := by assumption) (by k_mem) (by k_mem) hz7 hb7 (.cons _ _ .nil) (by exact Nat.le_refl _) (by decide) ?_
            clear hz7 hb7
            intro A8 z8 g8 hz8 hb8 FA8 NA8
            k_steps
            refine Stop.out ?_
            refine m_addB (F := by assumption) (N := by assumption) (by k_mem) (by k_mem) hz8 hb8 hlv hlb (by decide) ?_
            clear hz8 hb8
            intro A9 z9 g9 hz9 hb9 FA9 NA9
            k_steps
            rename_i h20 F20 N20
            obtain ⟨WL, hWL⟩ : ∃ WL : List Int, WL = [4, 2 * (8 + 4 * ((starts.length : Int) + 1) + (lv.length : Int)), 0, 2 * ((starts.length : Int) + 1), 2 * 2 ^ ex, (ex : Int), 2 * ((starts.length : Int) + 1) - 2 * 2 ^ ex] ++ ends ++ [65535, 0] ++ starts ++ [65535] ++ st.dw ++ [1] ++ st.ow ++ [0] ++ st.lw := ⟨_, rfl⟩
            have hWLl : WL.length ≤ 1000 := by
              rw [hWL]; exact Nat.le_trans hb9 (by decide)
            have hWLw : WL = wfWords c (R ++ [(65535, 65535)]) (2 ^ ex) ex := by
              rw [words_eq (st := st) (by rw [hRl, ← hRUNS]; exact hst) (by rw [hRl]; exact hdl) (by rw [hRl]; exact hol), hRst, hRen, hRl, hWL, hlvl]
            rw [← hWL] at hz9
            have hz9l := hz9.length
            clear hb9
            have hsz9 : z9.toArray.size ≤ sizeLine := by rw [sizeLine_eq, List.size_toArray]; omega
            refine Stop.out ?_
            refine LCg.ListComp_U (F₀ := by k_asm) (by with_unfolding_all rfl) (by decide) (by rfl) (by decide) (by rfl) ?_
            k_steps
            refine Stop.out ?_
            refine CompSrc.ledger rfl F20 N20 List.mem_cons_self hsz9 ?_
            intro g20
            refine kcf_rest (ks := WL) (fun x => x.fmod 65536) (by rw [List.size_toArray]; exact hz9l.symm) ?_ ?_ ?_
            · intro i v hi hv
              simp only [List.getElem?_toArray] at hv
              obtain ⟨k, t, e, hk⟩ := IntsAre.at hz9 i v hv
              exact ⟨k, t, hk, e⟩
            · intro kk kt I oI C oC D m₂ ys h tk E' hkk hC hx F' N' off ne _
              k_steps
            · unfold KPfDone
              intro ys hys D h21 tk21 F21 N21 _
              dsimp only
              k_steps
              rename_i kN _ _
              refine hret _ _ _ ((D, lst ys) :: news) (by assumption) (fun p hp => kN p ?_) ⟨D, ys, _, known, rfl, rfl, by rw [hys.length, List.length_map]; exact hWLl, by rw [hknown]; exact hperm, hsort, ?_⟩
              · rcases List.mem_cons.mp hp with h | h
                · rw [h]; exact List.mem_cons_self
                · repeat (first | exact h | apply List.mem_cons_of_mem)
              · rw [← hR, hRl, hexpo, ← hWLw]
                exact hys
end Mine
end

section
open PySem PySem.W PyProof.Rows
set_option Elab.async false
set_option maxRecDepth 100000
set_option maxHeartbeats 8000000
namespace Mine
theorem octL_cons (a : Int) (r : List Int) : octL (a :: r) = (a.fdiv 256).fmod 256 :: a.fmod 256 :: octL r := by
  simp [octL, octs]
theorem octL_get : ∀ {ws : List Int} {j : Nat} (hj : j < ws.length), (octL ws).getD (2 * j) 0 = ((ws[j]'hj).fdiv 256).fmod 256 ∧ (octL ws).getD (2 * j + 1) 0 = (ws[j]'hj).fmod 256
  | [], j, hj => absurd hj (Nat.not_lt_zero _)
  | a :: r, 0, _ => by rw [octL_cons]; exact ⟨rfl, rfl⟩
  | a :: r, j + 1, hj => by
    rw [octL_cons]
    have := octL_get (ws := r) (j := j) (by simpa using hj)
    rw [show 2 * (j + 1) = 2 * j + 1 + 1 by omega, show 2 * j + 1 + 1 + 1 = (2 * j + 1) + 1 + 1 by omega]
    simpa using this
theorem word_back (n : Int) : (n.fdiv 256).fmod 256 * 256 + n.fmod 256 = n.fmod 65536 := by
  rw [Int.fdiv_eq_ediv_of_nonneg _ (by decide), Int.fmod_eq_emod_of_nonneg _ (by decide), Int.fmod_eq_emod_of_nonneg _ (by decide), Int.fmod_eq_emod_of_nonneg _ (by decide)]
  omega
theorem octets_back (ws : List Int) : ((rangeKs 0 ws.length).map fun k => (octL ws).getD (2 * k).toNat 0 * 256 + (octL ws).getD (2 * k + 1).toNat 0) = ws.map (·.fmod 65536) := by
  refine List.ext_getElem (by rw [List.length_map, List.length_map, rangeKs_length]) fun i h1 h2 => ?_
  rw [List.length_map] at h2
  have := octL_get h2
  simp only [List.getElem_map, rangeKs, List.getElem_range]
  rw [show (2 * (0 + (i : Int))).toNat = 2 * i by omega, show (2 * (0 + (i : Int)) + 1).toNat = 2 * i + 1 by omega, this.1, this.2, word_back]
theorem sorted_perm {c : List (Int × Int)} {a b : List Int} (hnd : (c.map (·.1)).Nodup) (ha : a.Perm ((c.map (·.1)).filter fun k => decide (k < 65535))) (hb : b.Perm ((c.map (·.1)).filter fun k => decide (k < 65535))) (sa : a.Pairwise (· ≤ ·)) (sb : b.Pairwise (· ≤ ·)) : a = b :=
  sorted_ext (lt_sorted sa (ha.nodup_iff.mpr (hnd.filter _))) (lt_sorted sb (hb.nodup_iff.mpr (hnd.filter _))) fun x => by rw [ha.mem_iff, hb.mem_iff]
end Mine
end

section
open PySem PySem.W PyProof.Rows PyProof.Rows.LCg
set_option Elab.async false
set_option maxRecDepth 100000
set_option maxHeartbeats 8000000
namespace Mine
local macro_rules | `(tactic| walk_at "call ref") => `(tactic| (k_here; refine Stop.mk ?_))
local macro_rules | `(tactic| walk_at "eval ListComp") => `(tactic| (k_here; refine Stop.mk ?_))
local macro_rules | `(tactic| walk_at "CompSrc") => `(tactic| (refine Stop.mk ?_))
local macro_rules | `(tactic| walk_at "subscriptTail") => `(tactic| (k_here; (with_reducible show wpAny _ _ (subscriptTail _ _ (Value.bytes _ _) (Value.int _ _)) _ _ _); refine Stop.mk ?_))
local macro_rules | `(tactic| walk_at "compareOp Eq ref ref") => `(tactic| (k_here; refine Stop.mk ?_))
local macro_rules | `(tactic| walk_at "call builtin:len") => `(tactic| (k_here; refine Stop.mk ?_))
local macro_rules | `(tactic| k_all) => `(tactic| (intro kp khp; exact Nat.ne_of_lt (Nat.lt_of_lt_of_le (allLt_mem (by assumption) khp) (by omega))))
theorem cells1 {cm : PySem.Str → Option Value} {n₁ : PySem.Str} {c₁ : Addr} {cells : List (Addr × Obj)} (x : CellsAre cm [(n₁, c₁)] cells) : ∃ o₁, cells = [(c₁, o₁)] ∧ o₁.data = .cell (cm n₁) := by
  cases x with | cons h1 r =>
  cases r
  exact ⟨_, rfl, h1⟩
theorem right_spec (w : World) (d : Addr) (o : Obj) (kvs : List (Int × Value)) (c : List (Int × Int)) (news : List (Addr × Obj))
    (hm : (d, o) ∈ news) (lo : (d == sysModules) = false) (hd : o.IsDictOf (PySem.intKind PySem.Challenge.rw_xm0714_01.row.prog w) kvs) (hf : PyProof.V.FlatPairs PyData.int kvs (kdfD c)) (hc : GoodC c) :
    Spec w 117 3 600 [.ref d] news (fun v news' => news' = news ∧ v = .bool true) := by
  unfold Spec
  w_top off
  k_fill
  intro mean mg mb dp un gd cn cs aa ccd cl outer A₀ base h₀ L m s Q E B F X N T hcs hdp hun hret
  refine wpAny_call ?_
  k_dflt (refine' code_defC ?k1 ?k2 ?k3 ?k4 ?k5 ?kA ?kF ?kK ?k6 ?k7 ?k8 ?k9 ?kB ?kD ?_ ?c2 ?c3 ?c4; (case kA => exact rfl); (case kF => exact rfl); (case kK => assumption); (case k1 => k_asm); (case k2 => k_asm); (case k3 => k_asm); (case k4 => k_asm); (case k5 => k_asm); (case k6 => k_is); (case k7 => k_is); (case k8 => ktr_room); (case k9 => exact BindsTo.of_eq rfl); (case kB => exact rfl); (case kD => decide +kernel); (case c2 => exact rfl); (case c3 => exact rfl); (case c4 => exact rfl); k_whole)
  intro gg LL h0' tk0 cells FG0 F0 N0 Y0 B0 X0 T0 l0
  replace l0 := allLt_of l0
  have hY := cells1 Y0
  obtain ⟨o1, hE, dc1⟩ := hY
  subst hE
  clear Y0
  simp only [List.cons_append, List.nil_append] at N0
  try dsimp only
  replace dc1 : o1.data = .cell none := dc1
  try k_fold
  have hm0 : (d, o) ∈ (LL + 1, o1) :: news := by simp [hm]
  k_steps
  refine Stop.out ?_
  refine spec_use (wf_spec w d o kvs c _ hm0 lo hd hf hc.len (fun p hp => ⟨(hc.keys p hp).1, (hc.keys p hp).2.1⟩)) (by assumption) F0 (by assumption) N0 (by assumption) rfl (by ktr_room) (by ktr_units) ?_
  rintro v h1 tk1 news1 F1 N1 ⟨rfl, b, tb, ns, p, kk, rfl, hperm, hsort, hpow, hp1, hp2, hb⟩
  k_steps
  refine Stop.out ?_
  refine spec_use (due_spec w d o kvs c _ hm0 lo hd hf hc.len (fun p hp => ⟨(hc.keys p hp).1, (hc.keys p hp).2.1⟩) hc.nodup) (by assumption) F1 (by assumption) N1 (by assumption) rfl (by ktr_room) (by ktr_units) ?_
  rintro v h2 tk2 news2 F2 N2 ⟨l, vs, n, known, rfl, rfl, hvl0, hperm2, hsort2, hvs⟩
  k_steps
  rename PyProof.V.FlatPairs _ _ _ => hf
  rename_i h3 F3 N3
  have N4 : News gg LL h3 ((l, W.listOf vs.toArray n) :: (LL + 1, o1) :: news) := news_sub N3 fun p hp => List.mem_cons_of_mem _ hp
  have hl1 : l ≠ LL + 1 := by
    intro e
    have a1 := (N4 _ List.mem_cons_self).1
    have a2 := (N4 _ (List.mem_cons_of_mem _ List.mem_cons_self)).1
    rw [e] at a1
    rw [a1] at a2
    have a3 := Option.some.inj a2
    have a4 : o1 = W.listOf vs.toArray n := a3.symm
    rw [a4] at dc1
    cases dc1
  clear N3
  refine stCN (own := [(l, W.listOf vs.toArray n)]) (c := LL + 1) (o := o1) F3 N4 (by rfl) dc1 (fun p hp => by rw [List.mem_singleton.mp hp]; exact hl1) (fun p hp => Nat.ne_of_lt (Nat.lt_succ_of_lt (allLt_mem l0 hp))) ?_
  intro h5 o5 F5 N5 dc5
  simp only [List.cons_append, List.nil_append] at N5
  obtain rfl := sorted_perm hc.nodup hperm hperm2 hsort hsort2
  have hRle : (ns.foldl runStep []).length ≤ 16 := by
    have h1 := runs_len ns []
    have h2 := hperm.length_eq
    have h3 := List.length_filter_le (fun k => decide (k < 65535)) (c.map (·.1))
    rw [List.length_map] at h3
    have h4 := hc.len
    simp at h1
    omega
  obtain ⟨x1, x2, x3⟩ := expo_ok hRle
  rw [List.length_append, List.length_singleton] at hp1 hp2
  obtain ⟨rfl, rfl⟩ := pow_uniq hpow x1 hp1 hp2 (by omega) (by omega)
  generalize hWL : wfWords c (ns.foldl runStep [] ++ [(65535, 65535)]) (2 ^ expo (ns.foldl runStep []).length) (expo (ns.foldl runStep []).length) = WL at hb hvs
  have hvl := hvs.length
  rw [List.length_map] at hvl
  have hWLl : WL.length ≤ 1000 := by omega
  k_steps
  rename_i h6 F6 N6
  refine Stop.out ?_
  refine m_lenb (ws := WL) hb (by omega) ?_
  intro t6
  k_steps
  refine Stop.out ?_
  refine m_len (vs := vs) N6 (by k_mem) (by omega) ?_
  rw [hvl]
  intro t7
  k_steps
  · rename _ ≠ _ => hbad
    exact absurd rfl hbad
  refine Stop.out ?_
  refine LCg.ListComp_U (F₀ := by k_asm) (by with_unfolding_all rfl) (by decide) (by rfl) (by decide) (by rfl) ?_
  k_steps
  refine Stop.out ?_
  refine m_len (vs := vs) N6 (by k_mem) (by omega) ?_
  rw [hvl]
  intro t8
  k_steps
  refine Stop.out ?_
  refine CompSrc.range (n := WL.length) rfl (by assumption) (by assumption) (by assumption) (small_one (by omega) (by omega) (by omega) (by omega)) (by have := rangeSize_nat 0 (WL.length : Int); simpa using this) (by rw [sizeLine_eq]; omega) ?_
  intro g7
  refine kcf_rest (ks := rangeKs 0 WL.length) (fun k => (octL WL).getD (2 * k).toNat 0 * 256 + (octL WL).getD (2 * k + 1).toNat 0) (rangeKs_length _ _) ?_ ?_ ?_
  · rintro i v hi ⟨t, rfl⟩
    exact ⟨0 + (i : Int), t, by simp [rangeKs, hi], rfl⟩
  · intro kk kt I oI C oC D m₂ ys h tk E' hkk hC hx F' N' off ne _
    have hkk2 := mem_rangeKs hkk
    obtain ⟨hk1, hk2⟩ := hkk2
    have hol := octL_len WL
    k_steps
    refine Stop.out ?_
    refine KBw.item_K hb (by omega) (by omega) (by omega) ?_
    intro t1 k1 _ _
    k_steps
    refine Stop.out ?_
    refine KBw.item_K hb (by omega) (by omega) (by omega) ?_
    intro t2 k2 _ _
    k_steps
  · unfold KPfDone
    intro ys hys D h8 tk8 F8 N8 off8
    rw [octets_back] at hys
    dsimp only
    k_steps
    refine Stop.out ?_
    refine ke_eq_ints (N8.isList (by k_mem)) (N8.isList (by k_mem)) hys hvs (by ktr_units) ?_
    rw [decide_eq_true rfl]
    k_steps
    rename_i kN _ _
    exact hret _ _ _ news (by assumption) (fun p hp => kN p (List.mem_cons_of_mem _ (List.mem_cons_of_mem _ (List.mem_cons_of_mem _ hp)))) ⟨rfl, rfl⟩
end Mine
end

section
open PySem PySem.W PyProof.Rows
set_option Elab.async false
set_option maxRecDepth 100000
set_option maxHeartbeats 8000000
namespace Mine
local macro_rules | `(tactic| walk_at "call ref") => `(tactic| (k_here; refine Stop.mk ?_))
theorem T1 : PySem.Challenge.rw_xm0714_01.Holds := by
  refine Mine.hd ?_
  k_go0
  (all_goals try k_fold)
  k_steps
  rename_i dO F1 N1 lo1 hd1 hf1 _ _
  rename Below _ _ _ _ => K0
  rename (hd.heap_39 _).In _ => KX
  rename Top hd.view_39 _ _ _ _ _ => T
  rename Heap.IsList _ _ _ => hL
  rename IntsAre _ _ => hI
  rename ¬ _ < _ => hlen
  refine Stop.out ?_
  refine spec_use (right_spec _ _ dO _ [(21, 2), (5, 9), (6, 10), (20, 4), (30, 1), (31, 1), (65535, 3)] _ List.mem_cons_self lo1 hd1 hf1 ⟨by decide, by decide, by decide⟩) K0 F1 KX N1 T rfl (by ktr_room) (by ktr_units) ?_
  rintro v h1 tk1 news1 F2 N2 ⟨rfl, rfl⟩
  k_steps
  refine Stop.out ?_
  refine pool_spec _ _ _ _ hI (by omega) _ _ _ _ _ _ _ _ _ _ _ _ _ _ _ _ _ _ _ _ _ K0 F2 N2 T rfl hL (by ktr_room) (by ktr_units) ?_ KX
  intro r h2 tk2 x y tx ty n F3 N3 hr hx hy hy2
  k_steps
  rename_i F4 N4
  refine Stop.out ?_
  refine spec_use (codes_spec _ r x y tx ty n _ (fun p hp => Nat.ne_of_lt (hr p hp)) hx hy hy2) K0 F4 KX N4 T rfl (by ktr_room) (by ktr_units) ?_
  rintro v h3 tk3 news3 F5 N5 ⟨x', y', tx', ty', n', d, od, kvs, c, rfl, rfl, lo, hd, hf, hc, hx', hy', hy2'⟩
  k_steps
  refine Stop.out ?_
  refine spec_use (right_spec _ d od kvs c _ List.mem_cons_self lo hd hf hc) K0 F5 KX N5 T rfl (by ktr_room) (by ktr_units) ?_
  rintro v h4 tk4 news4 F6 N6 ⟨rfl, rfl⟩
  k_steps
  refine Stop.out ?_
  refine spec_use (codes_spec _ r x' y' tx' ty' n' _ (fun p hp => Nat.ne_of_lt (hr p hp)) hx' hy' hy2') K0 F6 KX (news_sub N6 fun p hp => List.mem_cons_of_mem _ hp) T rfl (by ktr_room) (by ktr_units) ?_
  rintro v h5 tk5 news5 F7 N7 ⟨x2, y2, tx2, ty2, n2, d2, od2, kvs2, c2, rfl, rfl, lo2, hd2, hf2, hc2, _, _, _⟩
  k_steps
  refine Stop.out ?_
  refine spec_use (right_spec _ d2 od2 kvs2 c2 _ List.mem_cons_self lo2 hd2 hf2 hc2) K0 F7 KX N7 T rfl (by ktr_room) (by ktr_units) ?_
  rintro v h6 tk6 news6 F8 N8 ⟨rfl, rfl⟩
  refine goodW_bool F8 (by assumption) (raisesW_false ?_) ?_
  · wrow_none_raised
  · refine postW_of (by wrow_shape) (w_eq_bool (w_res rfl) w_lit) ?_
    first | rfl | decide
end Mine
end

set_option maxRecDepth 100000 in
set_option maxHeartbeats 8000000 in
theorem PySem.Challenge.cw_xm0714_01_holds : PySem.Challenge.rw_xm0714_01.Holds := by
  exact Mine.T1
