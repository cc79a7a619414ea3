import PyProof.Rows.All
import Wide.All
import OpenK.AllK
import Wide.FinOn
import PySem.Challenge.RW_xm0591_01
open PySem PySem.W PyProof.Rows PySem.Calls PySem.Spec
set_option Elab.async false
set_option maxRecDepth 100000
set_option maxHeartbeats 8000000
set_option rowWalk.seconds 0
set_option linter.all false
namespace Mine
/- open_top looks for its head's lemma by name, and first in this namespace. What it finds here (Mine.PySem.W.holds_open) is the library's own lemma of that name at this law's row:
   the row's look is taken from `said`, and the first premise bears a name of its own (TopSeen), so that the top is checked at once and not in pieces: the pieces' compiled form is over the lid. -/
abbrev TopSeen (p q : Program) (loose : List Str) (Xt : Shared → Bool) {α : Type} (Yf : Shared → α) (Ya : World → α) (N : Nat) : Prop := LeftO p q loose Xt Yf Ya N
theorem said : OpenLaw.wellSaid PySem.Challenge.rw_xm0591_01 = true := by
  unfold OpenLaw.wellSaid OpenRow.wellSaid OpenRow.partSaid looksOpen
  repeat' (with_reducible refine look_both ?_ ?_)
  all_goals decide +kernel
namespace PySem.W
theorem holds_open {q : Program} {loose : List Str} {Xt : Shared → Bool} {XP : (Str → Option Value) → Heap → Prop} {α : Type} {Yf : Shared → α} {Ya : World → α} {YP : World → Heap → Prop} {d : DefRec} {kwd : List (Str × Expr)} {N : Nat}
    (seen : TopSeen (OpenLaw.row PySem.Challenge.rw_xm0591_01).prog q loose Xt Yf Ya N) (h1 : ∀ w s, Yf s = Ya w → YP w s.heap) (h2 : ∀ w h h', YP w h → (∀ b o, h.get? b = some o → h'.get? b = some o) → YP w h')
    (h3 : ∀ s, Xt s = true → XP (s.heap.nsMap mainGlobals) s.heap) (h4 : ∀ mg h h', XP mg h → (∀ b o, h.get? b = some o → h'.get? b = some o) → XP mg h')
    (h5 : defOf q (OpenLaw.row PySem.Challenge.rw_xm0591_01).name = some (d, kwd)) (h6 : (OpenLaw.row PySem.Challenge.rw_xm0591_01).prog.theDef (OpenLaw.row PySem.Challenge.rw_xm0591_01).name = some (d.params, d.body, d.scope)) (h7 : kwWritten? d.params.kwonlyargs d.params.kw_defaults = some kwd) (h8 : ∀ s, Xt s = true → RecFacts (OpenLaw.row PySem.Challenge.rw_xm0591_01).records s.heap) (h9 : (!(OpenLaw.row PySem.Challenge.rw_xm0591_01).writes || (OpenLaw.row PySem.Challenge.rw_xm0591_01).records.isEmpty) = true)
    (k1 : True) (ok : (chainsOk q && opensWell (OpenLaw.row PySem.Challenge.rw_xm0591_01).prog && (frees (OpenLaw.row PySem.Challenge.rw_xm0591_01).toRowW && (OpenLaw.row PySem.Challenge.rw_xm0591_01).within.isEmpty)) = true) (hb : (OpenLaw.row PySem.Challenge.rw_xm0591_01).prog.bare) (hw : (OpenLaw.row PySem.Challenge.rw_xm0591_01).toRowW.promised)
    (call : WalkO q loose XP YP (OpenLaw.row PySem.Challenge.rw_xm0591_01).toRowW d kwd fun f vs => PySem.call f vs) : (OpenLaw.row PySem.Challenge.rw_xm0591_01).Holds :=
  _root_.PySem.W.holds_open seen h1 h2 h3 h4 h5 h6 h7 h8 h9 (row_said said) ok hb hw call
end PySem.W
open_top hd for (PySem.W.OpenLaw.row PySem.Challenge.rw_xm0591_01)
example (P : Params) : (PySem.Challenge.rw_xm0591_01 = PySem.Challenge.rw_xm0591_01 ∧ hd.heap_1 P = hd.heap_1 P) := by
  k_fill
  exact ⟨rfl, rfl⟩
end Mine
namespace Mine
example : True := by
  w_top off
  k_with_none
  trivial

/-! data of tuples alone -/
def tupD : Nat → Dat → Bool
  | _, .none => true
  | _, .bool _ => true
  | _, .int _ => true
  | _, .str x => PyData.strOk x
  | n + 1, .tuple ds => ds.all (tupD n)
  | _, _ => false

def Off (j : Addr) (l : List (Addr × Obj)) : Prop := ∀ p ∈ l, p.1 ≠ j
def Above (l tl : List (Addr × Obj)) : Prop := ∀ p ∈ tl, ∀ q ∈ l, q.1 < p.1

abbrev tupO (vs : List Value) (n : Nat) : Obj := { cls := .type "tuple", data := .seq vs.toArray n }
abbrev jarO (x : Int) (tx : Tok) (y : Int) (ty : Tok) (n : Nat) : Obj := listOf #[.int x tx, .int y ty] n

section
variable {h₀ h : Heap} {L : Addr} {news : List (Addr × Obj)}
theorem News.sub {l : List (Addr × Obj)} (N : News h₀ L h news) (hs : ∀ p ∈ l, p ∈ news) : News h₀ L h l := fun p hp => N p (hs p hp)
theorem News.add {p : Addr × Obj} (N : News h₀ L h news) (hp : p ∈ news) : News h₀ L h (p :: news) := fun q hq => by
  rcases List.mem_cons.mp hq with rfl | hq
  · exact N _ hp
  · exact N _ hq
end
theorem off_nil {j : Addr} : Off j [] := fun _ h => nomatch h
theorem off_cons {j a : Addr} {o : Obj} {l : List (Addr × Obj)} (h : @Ne Nat a j) (k : Off j l) : Off j ((a, o) :: l) := fun p hp => by
  rcases List.mem_cons.mp hp with rfl | hp
  · exact h
  · exact k p hp
theorem off_app {j : Addr} {l r : List (Addr × Obj)} (h : Off j l) (k : Off j r) : Off j (l ++ r) := fun p hp => (List.mem_append.mp hp).elim (h p) (k p)
theorem off_sub {j : Addr} {l r : List (Addr × Obj)} (h : Off j l) (k : ∀ p ∈ r, p ∈ l) : Off j r := fun p hp => h p (k p hp)
theorem sub_nil {l : List (Addr × Obj)} : ∀ p ∈ ([] : List (Addr × Obj)), p ∈ l := fun _ h => nomatch h
theorem sub_cons {q : Addr × Obj} {l r : List (Addr × Obj)} (h : q ∈ l) (k : ∀ p ∈ r, p ∈ l) : ∀ p ∈ q :: r, p ∈ l := fun p hp => by
  rcases List.mem_cons.mp hp with rfl | hp
  · exact h
  · exact k p hp
theorem sub_app {l r t : List (Addr × Obj)} (h : ∀ p ∈ l, p ∈ t) (k : ∀ p ∈ r, p ∈ t) : ∀ p ∈ l ++ r, p ∈ t := fun p hp => (List.mem_append.mp hp).elim (h p) (k p)
theorem above_lt {a : Addr} {l news : List (Addr × Obj)} (h : AllLt a l) (k : ∀ p ∈ news, p ∈ l) : ∀ q ∈ news, q.1 < a := fun q hq => ktn_ltOf h q (k q hq)

mutual
inductive Dt (l : List (Addr × Obj)) : Value → Dat → Prop
  | none : Dt l Value.none Dat.none
  | bool (b : Bool) : Dt l (Value.bool b) (Dat.bool b)
  | int (i : Int) (t : Tok) : Dt l (Value.int i t) (Dat.int i)
  | str (x : Str) (t : Tok) : Dt l (Value.str x t) (Dat.str x)
  | bytes (b : Array UInt8) (t : Tok) : Dt l (Value.bytes b t) (Dat.bytes b)
  | tuple {a : Addr} {vs : List Value} {n : Nat} {ds : List Dat} : (a, tupO vs n) ∈ l → Dts l vs ds → Dt l (Value.ref a) (Dat.tuple ds)
  | list {a : Addr} {vs : List Value} {n : Nat} {ds : List Dat} : (a, listOf vs.toArray n) ∈ l → Dts l vs ds → Dt l (Value.ref a) (Dat.list ds)
inductive Dts (l : List (Addr × Obj)) : List Value → List Dat → Prop
  | nil : Dts l [] []
  | cons {v : Value} {vs : List Value} {d : Dat} {ds : List Dat} : Dt l v d → Dts l vs ds → Dts l (v :: vs) (d :: ds)
end
mutual
theorem Dt.mono {l l' : List (Addr × Obj)} (hs : ∀ p ∈ l, p ∈ l') : ∀ {v : Value} {d : Dat}, Dt l v d → Dt l' v d
  | _, _, .none => .none
  | _, _, .bool b => .bool b
  | _, _, .int i t => .int i t
  | _, _, .str x t => .str x t
  | _, _, .bytes b t => .bytes b t
  | _, _, .tuple h r => .tuple (hs _ h) (Dts.mono hs r)
  | _, _, .list h r => .list (hs _ h) (Dts.mono hs r)
theorem Dts.mono {l l' : List (Addr × Obj)} (hs : ∀ p ∈ l, p ∈ l') : ∀ {vs : List Value} {ds : List Dat}, Dts l vs ds → Dts l' vs ds
  | _, _, .nil => .nil
  | _, _, .cons h r => .cons (Dt.mono hs h) (Dts.mono hs r)
end

/-! data over a property of the entries -/
mutual
inductive DatP (G : Addr × Obj → Prop) : Value → Dat → Prop
  | none : DatP G Value.none Dat.none
  | bool (b : Bool) : DatP G (Value.bool b) (Dat.bool b)
  | int (i : Int) (t : Tok) : DatP G (Value.int i t) (Dat.int i)
  | str (x : Str) (t : Tok) : DatP G (Value.str x t) (Dat.str x)
  | bytes (b : Array UInt8) (t : Tok) : DatP G (Value.bytes b t) (Dat.bytes b)
  | tuple {a : Addr} {vs : List Value} {n : Nat} {ds : List Dat} : G (a, tupO vs n) → DatPs G vs ds → DatP G (Value.ref a) (Dat.tuple ds)
  | list {a : Addr} {vs : List Value} {n : Nat} {ds : List Dat} : G (a, listOf vs.toArray n) → DatPs G vs ds → DatP G (Value.ref a) (Dat.list ds)
inductive DatPs (G : Addr × Obj → Prop) : List Value → List Dat → Prop
  | nil : DatPs G [] []
  | cons {v : Value} {vs : List Value} {d : Dat} {ds : List Dat} : DatP G v d → DatPs G vs ds → DatPs G (v :: vs) (d :: ds)
end
mutual
theorem DatP.of_in {G : Addr × Obj → Prop} {l : List (Addr × Obj)} (hs : ∀ p ∈ l, G p) : ∀ {v : Value} {d : Dat}, Dt l v d → DatP G v d
  | _, _, .none => .none
  | _, _, .bool b => .bool b
  | _, _, .int i t => .int i t
  | _, _, .str x t => .str x t
  | _, _, .bytes b t => .bytes b t
  | _, _, .tuple h r => .tuple (hs _ h) (DatPs.of_all hs r)
  | _, _, .list h r => .list (hs _ h) (DatPs.of_all hs r)
theorem DatPs.of_all {G : Addr × Obj → Prop} {l : List (Addr × Obj)} (hs : ∀ p ∈ l, G p) : ∀ {vs : List Value} {ds : List Dat}, Dts l vs ds → DatPs G vs ds
  | _, _, .nil => .nil
  | _, _, .cons h r => .cons (DatP.of_in hs h) (DatPs.of_all hs r)
end
mutual
theorem DatP.to_in {G : Addr × Obj → Prop} {l : List (Addr × Obj)} (hs : ∀ p, G p → p ∈ l) : ∀ {v : Value} {d : Dat}, DatP G v d → Dt l v d
  | _, _, .none => .none
  | _, _, .bool b => .bool b
  | _, _, .int i t => .int i t
  | _, _, .str x t => .str x t
  | _, _, .bytes b t => .bytes b t
  | _, _, .tuple h r => .tuple (hs _ h) (DatPs.to_all hs r)
  | _, _, .list h r => .list (hs _ h) (DatPs.to_all hs r)
theorem DatPs.to_all {G : Addr × Obj → Prop} {l : List (Addr × Obj)} (hs : ∀ p, G p → p ∈ l) : ∀ {vs : List Value} {ds : List Dat}, DatPs G vs ds → Dts l vs ds
  | _, _, .nil => .nil
  | _, _, .cons h r => .cons (DatP.to_in hs h) (DatPs.to_all hs r)
end

section
variable {h₀ h : Heap} {L : Addr} {news : List (Addr × Obj)}
mutual
theorem td_in (N : News h₀ L h news) : ∀ {v : Value} {d : Dat} (n : Nat), Dt news v d → tupD n d = true → ∃ as, Reads h v (kqdP d) as
  | _, _, _, .none, _ => ⟨_, Reads.none⟩
  | _, _, _, .bool b, _ => ⟨_, Reads.bool b⟩
  | _, _, _, .int i t, _ => ⟨_, Reads.int i t⟩
  | _, _, _, .str x t, _ => ⟨_, Reads.str x t⟩
  | _, _, n, .bytes _ _, hk => by cases n <;> simp [tupD] at hk
  | _, _, 0, .tuple _ _, hk => by simp [tupD] at hk
  | _, _, n, .list _ _, hk => by cases n <;> simp [tupD] at hk
  | _, _, n + 1, .tuple hm r, hk => by
    obtain ⟨as, q⟩ := td_all N n r (by simpa [tupD] using hk)
    rw [kqdP]
    exact ⟨as, reads_tuple_at (N.get hm) rfl rfl (by simpa using q)⟩
theorem td_all (N : News h₀ L h news) : ∀ {vs : List Value} {ds : List Dat} (n : Nat), Dts news vs ds → (∀ d ∈ ds, tupD n d = true) → ∃ as, ReadsAll h vs (kqdPs ds) as
  | _, _, _, .nil, _ => ⟨_, ReadsAll.nil⟩
  | _, _, n, .cons hd r, hk => by
    obtain ⟨as, q⟩ := td_in N n hd (hk _ (.head _))
    obtain ⟨bs, p⟩ := td_all N n r fun d hm => hk d (.tail _ hm)
    rw [kqdPs]
    exact ⟨_, ReadsAll.cons q p⟩
end
end

theorem td_layL (n : Nat) (ih : ∀ d, tupD n d = true → (kqdP d).canLay0 = true ∧ (kqdP d).depth ≤ n) : ∀ ds : List Dat, (∀ d ∈ ds, tupD n d = true) → PyData.canLayAll0 (kqdPs ds) = true ∧ PyData.depthAll (kqdPs ds) ≤ n := by
  intro ds
  induction ds with
  | nil => intro _; simp [kqdPs, PyData.canLayAll0, PyData.depthAll]
  | cons d ds hi =>
    intro h
    have h1 := ih d (h d (.head _))
    have h2 := hi fun e he => h e (.tail _ he)
    simp only [kqdPs, PyData.canLayAll0, PyData.depthAll, h1.1, h2.1, Bool.and_self, true_and]
    have a1 := h1.2
    have a2 := h2.2
    omega
theorem td_lay : ∀ (n : Nat) (d : Dat), tupD n d = true → (kqdP d).canLay0 = true ∧ (kqdP d).depth ≤ n := by
  intro n
  induction n with
  | zero =>
    intro d h
    cases d <;> simp_all [tupD, kqdP, PyData.canLay0, PyData.depth]
  | succ n ih =>
    intro d h
    cases d with
    | none => simp [kqdP, PyData.canLay0, PyData.depth]
    | bool b => simp [kqdP, PyData.canLay0, PyData.depth]
    | int i => simp [kqdP, PyData.canLay0, PyData.depth]
    | str x => simp [tupD] at h; simp [kqdP, PyData.canLay0, PyData.depth, h]
    | bytes b => simp [tupD] at h
    | list ds => simp [tupD] at h
    | tuple ds =>
      have q := td_layL n ih ds (by simpa [tupD] using h)
      have q2 := q.2
      simp only [kqdP, PyData.canLay0, PyData.depth, q.1, true_and]
      omega
theorem td_eqvL (n : Nat) (ih : ∀ d, tupD n d = true → PyData.eqv (kqdP d) (kqdP d) = true) : ∀ ds : List Dat, (∀ d ∈ ds, tupD n d = true) → PyData.eqvAll (kqdPs ds) (kqdPs ds) = true := by
  intro ds
  induction ds with
  | nil => intro _; simp [kqdPs, PyData.eqvAll]
  | cons d ds hi =>
    intro h
    have h1 := ih d (h d (.head _))
    have h2 := hi fun e he => h e (.tail _ he)
    simp only [kqdPs, PyData.eqvAll, h1, h2, Bool.and_self]
theorem td_eqv : ∀ (n : Nat) (d : Dat), tupD n d = true → PyData.eqv (kqdP d) (kqdP d) = true := by
  intro n
  induction n with
  | zero =>
    intro d h
    cases d <;> simp_all [tupD, kqdP, PyData.eqv]
  | succ n ih =>
    intro d h
    cases d with
    | tuple ds =>
      have q := td_eqvL n ih ds (by simpa [tupD] using h)
      simp only [kqdP, PyData.eqv, q]
    | _ => simp_all [tupD, kqdP, PyData.eqv]

section
variable {prog : Program} {w : World} {A : Around} {E : Value → Shared → Prop} {s : Shared} {h₀ : Heap} {L : Addr} {news n₁ n₂ : List (Addr × Obj)} {a b : Value} {d : Dat} {ds : List Dat} {Q : Value → Shared → Prop} {k : Nat}
theorem td_shaped (hd : tupD k d = true) (hk : k ≤ 64) : SeqAt.shaped (kqdP d) = true := by
  have l := td_lay k d hd
  have l2 := l.2
  unfold SeqAt.shaped
  rw [l.1, Bool.true_and]
  exact decide_eq_true (by omega)
theorem td_ne (N : News h₀ L s.heap news) (Da : Dt n₁ a d) (sa : ∀ p ∈ n₁, p ∈ news) (Db : Dt n₂ b d) (sb : ∀ p ∈ n₂, p ∈ news) (hd : tupD k d = true) (hk : k ≤ 64) (hu : A.units + 64 < cLine)
    (h : Q (.bool false) s) : wpAny (model prog w) A (compareOp .NotEq a b) Q E s := by
  obtain ⟨as, ra⟩ := td_in N k (Da.mono sa) hd
  obtain ⟨bs, rb⟩ := td_in N k (Db.mono sb) hd
  exact ne_dataH ra rb (td_shaped hd hk) (td_shaped hd hk) hu (by rw [td_eqv k d hd]; exact h)
theorem td_eq (N : News h₀ L s.heap news) (Da : Dt n₁ a d) (sa : ∀ p ∈ n₁, p ∈ news) (Db : Dt n₂ b d) (sb : ∀ p ∈ n₂, p ∈ news) (hd : tupD k d = true) (hk : k ≤ 64) (hu : A.units + 64 < cLine)
    (h : Q (.bool true) s) : wpAny (model prog w) A (compareOp .Eq a b) Q E s := by
  obtain ⟨as, ra⟩ := td_in N k (Da.mono sa) hd
  obtain ⟨bs, rb⟩ := td_in N k (Db.mono sb) hd
  exact eq_dataH ra rb (td_shaped hd hk) (td_shaped hd hk) hu (by rw [td_eqv k d hd]; exact h)
theorem td_shapedL (hd : ∀ d ∈ ds, tupD k d = true) (hk : k ≤ 63) : SeqAt.shaped (.list (kqdPs ds)) = true := by
  have l := td_layL k (td_lay k) ds hd
  have l2 := l.2
  unfold SeqAt.shaped
  simp only [PyData.canLay0, PyData.depth, l.1, Bool.true_and]
  exact decide_eq_true (by omega)
theorem td_eqvLL (hd : ∀ d ∈ ds, tupD k d = true) : PyData.eqv (.list (kqdPs ds)) (.list (kqdPs ds)) = true := by
  simp only [PyData.eqv]
  exact td_eqvL k (td_eqv k) ds hd
theorem td_neL {x y : Addr} {vs ws : List Value} {nx ny : Nat} (N : News h₀ L s.heap news) (hx : (x, listOf vs.toArray nx) ∈ news) (hy : (y, listOf ws.toArray ny) ∈ news) (Da : Dts n₁ vs ds) (sa : ∀ p ∈ n₁, p ∈ news) (Db : Dts n₂ ws ds) (sb : ∀ p ∈ n₂, p ∈ news)
    (hd : ∀ d ∈ ds, tupD k d = true) (hk : k ≤ 63) (hu : A.units + 64 < cLine)
    (h : Q (.bool false) s) : wpAny (model prog w) A (compareOp .NotEq (.ref x) (.ref y)) Q E s := by
  obtain ⟨as, ra⟩ := td_all N k (Da.mono sa) hd
  obtain ⟨bs, rb⟩ := td_all N k (Db.mono sb) hd
  exact ne_dataH (reads_list_at (N.get hx) rfl rfl (by simpa using ra)) (reads_list_at (N.get hy) rfl rfl (by simpa using rb)) (td_shapedL hd hk) (td_shapedL hd hk) hu (by rw [td_eqvLL hd]; exact h)
theorem td_eqL {x y : Addr} {vs ws : List Value} {nx ny : Nat} (N : News h₀ L s.heap news) (hx : (x, listOf vs.toArray nx) ∈ news) (hy : (y, listOf ws.toArray ny) ∈ news) (Da : Dts n₁ vs ds) (sa : ∀ p ∈ n₁, p ∈ news) (Db : Dts n₂ ws ds) (sb : ∀ p ∈ n₂, p ∈ news)
    (hd : ∀ d ∈ ds, tupD k d = true) (hk : k ≤ 63) (hu : A.units + 64 < cLine)
    (h : Q (.bool true) s) : wpAny (model prog w) A (compareOp .Eq (.ref x) (.ref y)) Q E s := by
  obtain ⟨as, ra⟩ := td_all N k (Da.mono sa) hd
  obtain ⟨bs, rb⟩ := td_all N k (Db.mono sb) hd
  exact eq_dataH (reads_list_at (N.get hx) rfl rfl (by simpa using ra)) (reads_list_at (N.get hy) rfl rfl (by simpa using rb)) (td_shapedL hd hk) (td_shapedL hd hk) hu (by rw [td_eqvLL hd]; exact h)
end

/-! items of the ledger -/
section
variable {prog : Program} {w : World} {A : Around} {E : Value → Shared → Prop} {s : Shared} {h₀ : Heap} {L a : Addr} {news : List (Addr × Obj)} {Q : Value → Shared → Prop}
theorem my_tup {value slice : PySem.Expr} {vs : List Value} {n : Nat} {k : Int} {u : Tok} {v : Value} {j : Nat} (N : News h₀ L s.heap news) (hm : (a, tupO vs n) ∈ news) (hlo : -(2 ^ 63) ≤ k) (hhi : k < 2 ^ 63) (hj : seqIndex? k vs.length = some j) (hx : vs[j]? = some v) (h : Q v s)
    (hs : subscripted slice false (.ref a) (.int k u) = operate [.ref a, .int k u] (getItem (.ref a) (.int k u)) := by with_unfolding_all rfl) :
    wpAny (model prog w) A (subscriptTail value slice (.ref a) (.int k u)) Q E s := item_tupleT ⟨_, (N _ hm).1, rfl, n, rfl⟩ hlo hhi hj hx h hs
theorem my_lst {value slice : PySem.Expr} {vs : List Value} {n : Nat} {k : Int} {u : Tok} {v : Value} (N : News h₀ L s.heap news) (hm : (a, listOf vs.toArray n) ∈ news) (h0 : 0 ≤ k) (hhi : k < 2 ^ 63) (hx : vs[k.toNat]? = some v) (h : Q v s)
    (hs : subscripted slice false (.ref a) (.int k u) = operate [.ref a, .int k u] (getItem (.ref a) (.int k u)) := by with_unfolding_all rfl) :
    wpAny (model prog w) A (subscriptTail value slice (.ref a) (.int k u)) Q E s :=
  have hl : s.heap.IsList a vs.toArray := ⟨_, (N _ hm).1, rfl, n, rfl⟩
  tail_any hl.typeIs slot_list_getitem.lookup (wpAny_getItem_list hl h0 hhi (by simpa using hx) h) hs
end

/-! contracts -/
def CallOk (prog : Program) (w : World) (K : Frag) (p : Program) (loose : List Str) (mean : ExcName → Option Value) (mg mb : Str → Option Value) (rank : Nat) (f : Addr) (vs : List Value) (news : List (Addr × Obj)) (Post : Value → List (Addr × Obj) → Prop) : Prop :=
  ∀ (dp un : Nat) (gd : Option (List Code)) (cn : Str) (cs : Scope) (a : Addr) (ccd : Value) (cl : List (Str × Addr)) (outer : List Env) (A₀ : Around) (base h₀ : Heap) (L : Addr) (m : Str → Option Value) (s : Shared) (Q E : Value → Shared → Prop),
    Below A₀ base outer h₀ → Fr h₀ L s.heap m → K.In h₀ → News h₀ L s.heap news → Top p loose mean mg mb h₀ → cs.kind = .function → dp + rank < recursionLimit → un + 8 * rank < cLine →
    (∀ r news' h' tk', Fr h₀ L h' m → News h₀ L h' news' → Post r news' → Q r { s with heap := h', toks := tk' }) →
    wpAny (model prog w) (ktrTop dp un gd cn cs L a ccd cl outer) (call (.ref f) vs) Q E s

structure JarOk (x y : Int) : Prop where
  x0 : 0 ≤ x
  y0 : 0 ≤ y
  y1 : y < 2147483647

/-- an entry of the ledger l that is of D, or was made above news -/
def Gd (D news l : List (Addr × Obj)) (p : Addr × Obj) : Prop := p ∈ l ∧ (p ∈ D ∨ ∀ q ∈ news, q.1 < p.1)
def GdJ (j : Addr) (D rest l : List (Addr × Obj)) (p : Addr × Obj) : Prop := Gd D rest l p ∧ (p ∈ D ∨ @LT.lt Nat _ j p.1)
/-- a call that draws from the jar and brings data -/
def JPost (j : Addr) (n : Nat) (D rest : List (Addr × Obj)) (R : Dat → Prop) (r : Value) (l : List (Addr × Obj)) : Prop :=
  ∃ x tx y ty d, JarOk x y ∧ (j, jarO x tx y ty n) ∈ l ∧ (∀ p ∈ rest, p ∈ l) ∧ R d ∧ DatP (GdJ j D rest l) r d
def PPost (D news : List (Addr × Obj)) (d : Dat) (r : Value) (l : List (Addr × Obj)) : Prop := (∀ p ∈ news, p ∈ l) ∧ DatP (Gd D news l) r d

/-- the jar taken out of the ledger -/
inductive Pull (q : Addr × Obj) : List (Addr × Obj) → List (Addr × Obj) → Prop where
  | head {l : List (Addr × Obj)} : Pull q (q :: l) l
  | tail {p : Addr × Obj} {l r : List (Addr × Obj)} : Pull q l r → Pull q (p :: l) (p :: r)
theorem Pull.mem {q : Addr × Obj} {l r : List (Addr × Obj)} (h : Pull q l r) : ∀ p ∈ q :: r, p ∈ l := by
  induction h with
  | head => exact fun p hp => hp
  | tail _ ih =>
    intro p hp
    rcases List.mem_cons.mp hp with rfl | hp
    · exact .tail _ (ih _ (.head _))
    · rcases List.mem_cons.mp hp with rfl | hp
      · exact .head _
      · exact .tail _ (ih _ (.tail _ hp))

section
variable {prog : Program} {w : World} {K : Frag} {p : Program} {loose : List Str} {mean : ExcName → Option Value} {mg mb : Str → Option Value} {rank : Nat} {f : Addr} {vs : List Value} {news rest : List (Addr × Obj)}
  {dp un : Nat} {gd : Option (List Code)} {cn : Str} {cs : Scope} {a : Addr} {ccd : Value} {cl : List (Str × Addr)} {outer : List Env} {A₀ : Around} {base h₀ : Heap} {L : Addr} {m : Str → Option Value} {s : Shared} {Q E : Value → Shared → Prop}
theorem pure_use {D : List (Addr × Obj)} {d : Dat} (B : Below A₀ base outer h₀) (F : Fr h₀ L s.heap m) (X : K.In h₀) (N : News h₀ L s.heap news) (T : Top p loose mean mg mb h₀) (hk : cs.kind = .function)
    (C : CallOk prog w K p loose mean mg mb rank f vs news (PPost D news d)) (hr : dp + rank < recursionLimit) (hu : un + 8 * rank < cLine)
    (ret : ∀ r tl h' tk', Fr h₀ L h' m → News h₀ L h' (news ++ tl) → Above news tl → Dt (D ++ tl) r d → Q r { s with heap := h', toks := tk' }) :
    wpAny (model prog w) (ktrTop dp un gd cn cs L a ccd cl outer) (call (.ref f) vs) Q E s :=
  C _ _ _ _ _ _ _ _ _ _ _ _ _ _ _ _ _ B F X N T hk hr hu fun r l h' tk' F' N' hp => by
    classical
    refine ret r (l.filter fun p => decide (∀ q ∈ news, q.1 < p.1)) h' tk' F' (fun q hq => N' q ((List.mem_append.mp hq).elim (hp.1 q) fun h => (List.mem_filter.mp h).1))
      (fun p hp q hq => of_decide_eq_true (List.mem_filter.mp hp).2 q hq) (hp.2.to_in fun p hG => ?_)
    rcases hG.2 with h | h
    · exact List.mem_append.mpr (.inl h)
    · exact List.mem_append.mpr (.inr (List.mem_filter.mpr ⟨hG.1, decide_eq_true h⟩))
theorem jar_use {j : Addr} {x y : Int} {tx ty : Tok} {n : Nat} {D : List (Addr × Obj)} {R : Dat → Prop} (B : Below A₀ base outer h₀) (F : Fr h₀ L s.heap m) (X : K.In h₀) (N : News h₀ L s.heap news) (T : Top p loose mean mg mb h₀) (hk : cs.kind = .function)
    (P : Pull (j, jarO x tx y ty n) news rest)
    (C : CallOk prog w K p loose mean mg mb rank f vs ((j, jarO x tx y ty n) :: rest) (JPost j n D rest R)) (hr : dp + rank < recursionLimit) (hu : un + 8 * rank < cLine)
    (ret : ∀ r tl h' tk' x' tx' y' ty' d, JarOk x' y' → R d → Fr h₀ L h' m → News h₀ L h' ((j, jarO x' tx' y' ty' n) :: (rest ++ tl)) → Above rest tl → (∀ p ∈ tl, @LT.lt Nat _ j p.1) → Off j tl → Dt (D ++ tl) r d → Q r { s with heap := h', toks := tk' }) :
    wpAny (model prog w) (ktrTop dp un gd cn cs L a ccd cl outer) (call (.ref f) vs) Q E s :=
  C _ _ _ _ _ _ _ _ _ _ _ _ _ _ _ _ _ B F X (News.sub N P.mem) T hk hr hu fun r l h' tk' F' N' hp => by
    classical
    obtain ⟨x', tx', y', ty', d, ok, hj, hs, hR, hD⟩ := hp
    have hlt : ∀ p ∈ l.filter (fun p => decide ((∀ q ∈ rest, q.1 < p.1) ∧ @LT.lt Nat _ j p.1)), @LT.lt Nat _ j p.1 := fun p hp => (of_decide_eq_true (List.mem_filter.mp hp).2).2
    refine ret r (l.filter fun p => decide ((∀ q ∈ rest, q.1 < p.1) ∧ @LT.lt Nat _ j p.1)) h' tk' x' tx' y' ty' d ok hR F' (fun q hq => ?_) (fun p hp q hq => (of_decide_eq_true (List.mem_filter.mp hp).2).1 q hq) hlt (fun p hp e => ?_) (hD.to_in fun p hG => ?_)
    · rcases List.mem_cons.mp hq with rfl | hq
      · exact N' _ hj
      · exact N' q ((List.mem_append.mp hq).elim (hs q) fun h => (List.mem_filter.mp h).1)
    · have := hlt p hp
      rw [e] at this
      exact Nat.lt_irrefl _ this
    · rcases hG.1.2 with h | h
      · exact List.mem_append.mpr (.inl h)
      · rcases hG.2 with h' | h'
        · exact List.mem_append.mpr (.inl h')
        · exact List.mem_append.mpr (.inr (List.mem_filter.mpr ⟨hG.1.1, decide_eq_true ⟨h, h'⟩⟩))
end

/-! inversions -/
theorem in_none {l : List (Addr × Obj)} {v : Value} (h : Dt l v .none) : v = .none := by cases h; rfl
theorem in_str {l : List (Addr × Obj)} {v : Value} {x : Str} (h : Dt l v (.str x)) : ∃ t, v = .str x t := by cases h; exact ⟨_, rfl⟩
theorem in_int {l : List (Addr × Obj)} {v : Value} {x : Int} (h : Dt l v (.int x)) : ∃ t, v = .int x t := by cases h; exact ⟨_, rfl⟩
theorem in_bool {l : List (Addr × Obj)} {v : Value} {x : Bool} (h : Dt l v (.bool x)) : v = .bool x := by cases h; rfl
theorem in_tuple {l : List (Addr × Obj)} {v : Value} {ds : List Dat} (h : Dt l v (.tuple ds)) : ∃ a vs n, v = .ref a ∧ (a, tupO vs n) ∈ l ∧ Dts l vs ds := by
  cases h with
  | tuple hm r => exact ⟨_, _, _, rfl, hm, r⟩
theorem all_nil {l : List (Addr × Obj)} {vs : List Value} (h : Dts l vs []) : vs = [] := by cases h; rfl
theorem all_cons {l : List (Addr × Obj)} {vs : List Value} {d : Dat} {ds : List Dat} (h : Dts l vs (d :: ds)) : ∃ v ws, vs = v :: ws ∧ Dt l v d ∧ Dts l ws ds := by
  cases h with
  | cons h r => exact ⟨_, _, rfl, h, r⟩
theorem in_tup0 {l : List (Addr × Obj)} {v : Value} (h : Dt l v (.tuple [])) : ∃ a n, v = .ref a ∧ (a, tupO [] n) ∈ l := by
  obtain ⟨a, vs, n, rfl, hm, r⟩ := in_tuple h
  obtain rfl := all_nil r
  exact ⟨_, _, rfl, hm⟩
theorem in_tup1 {l : List (Addr × Obj)} {v : Value} {d₁ : Dat} (h : Dt l v (.tuple [d₁])) : ∃ a v₁ n, v = .ref a ∧ (a, tupO [v₁] n) ∈ l ∧ Dt l v₁ d₁ := by
  obtain ⟨a, vs, n, rfl, hm, r⟩ := in_tuple h
  obtain ⟨v₁, ws, rfl, h1, r⟩ := all_cons r
  obtain rfl := all_nil r
  exact ⟨_, _, _, rfl, hm, h1⟩
theorem in_tup2 {l : List (Addr × Obj)} {v : Value} {d₁ d₂ : Dat} (h : Dt l v (.tuple [d₁, d₂])) : ∃ a v₁ v₂ n, v = .ref a ∧ (a, tupO [v₁, v₂] n) ∈ l ∧ Dt l v₁ d₁ ∧ Dt l v₂ d₂ := by
  obtain ⟨a, vs, n, rfl, hm, r⟩ := in_tuple h
  obtain ⟨v₁, ws, rfl, h1, r⟩ := all_cons r
  obtain ⟨v₂, ws, rfl, h2, r⟩ := all_cons r
  obtain rfl := all_nil r
  exact ⟨_, _, _, _, rfl, hm, h1, h2⟩
theorem in_tup3 {l : List (Addr × Obj)} {v : Value} {d₁ d₂ d₃ : Dat} (h : Dt l v (.tuple [d₁, d₂, d₃])) : ∃ a v₁ v₂ v₃ n, v = .ref a ∧ (a, tupO [v₁, v₂, v₃] n) ∈ l ∧ Dt l v₁ d₁ ∧ Dt l v₂ d₂ ∧ Dt l v₃ d₃ := by
  obtain ⟨a, vs, n, rfl, hm, r⟩ := in_tuple h
  obtain ⟨v₁, ws, rfl, h1, r⟩ := all_cons r
  obtain ⟨v₂, ws, rfl, h2, r⟩ := all_cons r
  obtain ⟨v₃, ws, rfl, h3, r⟩ := all_cons r
  obtain rfl := all_nil r
  exact ⟨_, _, _, _, _, rfl, hm, h1, h2, h3⟩
theorem in_tup4 {l : List (Addr × Obj)} {v : Value} {d₁ d₂ d₃ d₄ : Dat} (h : Dt l v (.tuple [d₁, d₂, d₃, d₄])) : ∃ a v₁ v₂ v₃ v₄ n, v = .ref a ∧ (a, tupO [v₁, v₂, v₃, v₄] n) ∈ l ∧ Dt l v₁ d₁ ∧ Dt l v₂ d₂ ∧ Dt l v₃ d₃ ∧ Dt l v₄ d₄ := by
  obtain ⟨a, vs, n, rfl, hm, r⟩ := in_tuple h
  obtain ⟨v₁, ws, rfl, h1, r⟩ := all_cons r
  obtain ⟨v₂, ws, rfl, h2, r⟩ := all_cons r
  obtain ⟨v₃, ws, rfl, h3, r⟩ := all_cons r
  obtain ⟨v₄, ws, rfl, h4, r⟩ := all_cons r
  obtain rfl := all_nil r
  exact ⟨_, _, _, _, _, _, rfl, hm, h1, h2, h3, h4⟩
theorem mk_tup {l : List (Addr × Obj)} {a : Addr} {vs : List Value} {n : Nat} {ds : List Dat} (hm : (a, tupO vs n) ∈ l) (h : Dts l vs ds) : Dt l (.ref a) (.tuple ds) := .tuple hm h

/-! the types -/
inductive Rg where
  | no | a | st | five | b | r
def rgD : Rg → Dat
  | .no => .none
  | .a => .str (Str.ofString "'a")
  | .st => .str (Str.ofString "'static")
  | .five => .int 5
  | .b => .str (Str.ofString "'b")
  | .r => .str (Str.ofString "'r")
inductive Pm where
  | T | U | V | A
def pmS : Pm → Str
  | .T => Str.ofString "T"
  | .U => Str.ofString "U"
  | .V => Str.ofString "V"
  | .A => Str.ofString "A"
inductive Ty where
  | int | bool | never
  | par (x : Pm)
  | ref (r : Rg) (m : Bool) (t : Ty)
  | box (t : Ty)
  | arr (t : Ty)
  | adt (r : Rg) (t : Ty)
  | tup (t u : Ty)
def tyD : Ty → Dat
  | .int => .tuple [.str (Str.ofString "int"), .str (Str.ofString "u8")]
  | .bool => .tuple [.str (Str.ofString "bool")]
  | .never => .tuple [.str (Str.ofString "never")]
  | .par x => .tuple [.str (Str.ofString "param"), .str (pmS x)]
  | .ref r m t => .tuple [.str (Str.ofString "ref"), rgD r, .bool m, tyD t]
  | .box t => .tuple [.str (Str.ofString "box"), tyD t]
  | .arr t => .tuple [.str (Str.ofString "array"), tyD t, .int 3]
  | .adt r t => .tuple [.str (Str.ofString "adt"), .str (Str.ofString "m::E"), .tuple [rgD r], .tuple [tyD t]]
  | .tup t u => .tuple [.str (Str.ofString "tuple"), .tuple [tyD t, tyD u]]
def Ty.dp : Ty → Nat
  | .ref _ _ t => t.dp + 1
  | .box t => t.dp + 1
  | .arr t => t.dp + 1
  | .adt _ t => t.dp + 1
  | .tup t u => max t.dp u.dp + 1
  | _ => 0
def erase : Ty → Ty
  | .ref _ m t => .ref .no m (erase t)
  | .box t => .box (erase t)
  | .arr t => .arr (erase t)
  | .adt _ t => .adt .no (erase t)
  | .tup t u => .tup (erase t) (erase u)
  | t => t
def subst (σ : Pm → Option Ty) : Ty → Ty
  | .par x => (σ x).getD (.par x)
  | .ref r m t => .ref r m (subst σ t)
  | .box t => .box (subst σ t)
  | .arr t => .arr (subst σ t)
  | .adt r t => .adt r (subst σ t)
  | .tup t u => .tup (subst σ t) (subst σ u)
  | t => t
/-- the second reading: what is due, the dues being erased already -/
def due (σ : Pm → Option Ty) : Ty → Ty
  | .par x => (σ x).getD (.par x)
  | .ref _ m t => .ref .no m (due σ t)
  | .box t => .box (due σ t)
  | .arr t => .arr (due σ t)
  | .adt _ t => .adt .no (due σ t)
  | .tup t u => .tup (due σ t) (due σ u)
  | t => t
theorem due_is (σ : Pm → Option Ty) (t : Ty) : erase (subst σ t) = due (fun x => (σ x).map erase) t := by
  induction t with
  | par x => simp only [subst, due]; cases σ x <;> rfl
  | _ => simp_all [subst, due, erase]
theorem erase_dp (t : Ty) : (erase t).dp = t.dp := by
  induction t <;> simp_all [erase, Ty.dp]
theorem subst_dp {σ : Pm → Option Ty} {k : Nat} (hσ : ∀ x t, σ x = some t → t.dp ≤ k) (t : Ty) : (subst σ t).dp ≤ t.dp + k := by
  induction t with
  | par x =>
    simp only [subst]
    cases h : σ x with
    | none => simp [Ty.dp]
    | some t => have := hσ x t h; simp only [Option.getD_some, Ty.dp]; omega
  | _ => simp_all [subst, Ty.dp] <;> omega
theorem due_dp {σ : Pm → Option Ty} {k : Nat} (hσ : ∀ x t, σ x = some t → t.dp ≤ k) (t : Ty) : (due σ t).dp ≤ t.dp + k := by
  induction t with
  | par x =>
    simp only [due]
    cases h : σ x with
    | none => simp [Ty.dp]
    | some t => have := hσ x t h; simp only [Option.getD_some, Ty.dp]; omega
  | _ => simp_all [due, Ty.dp] <;> omega
theorem tupD_succ : ∀ (n : Nat) (d : Dat), tupD n d = true → tupD (n + 1) d = true := by
  intro n
  induction n with
  | zero => intro d h; cases d <;> simp_all [tupD]
  | succ n ih =>
    intro d h
    cases d with
    | tuple ds =>
      have h1 : ∀ d ∈ ds, tupD n d = true := by simpa [tupD] using h
      show ds.all (tupD (n + 1)) = true
      exact List.all_eq_true.mpr fun d hd => ih d (h1 d hd)
    | _ => simp_all [tupD]
theorem tupD_le {n k : Nat} {d : Dat} (h : tupD n d = true) (hk : n ≤ k) : tupD k d = true := by
  induction hk with
  | refl => exact h
  | step _ ih => exact tupD_succ _ _ ih
theorem rg_ok (n : Nat) (r : Rg) : tupD n (rgD r) = true := by
  have h : tupD 0 (rgD r) = true := by cases r <;> decide +kernel
  exact tupD_le h (Nat.zero_le n)
theorem str_ok (n : Nat) {x : Str} (h : PyData.strOk x = true) : tupD n (.str x) = true := by cases n <;> exact h
theorem int_ok (n : Nat) {x : Int} : tupD n (.int x) = true := by cases n <;> rfl
theorem bool_ok (n : Nat) {x : Bool} : tupD n (.bool x) = true := by cases n <;> rfl
theorem pm_ok (n : Nat) (x : Pm) : tupD n (.str (pmS x)) = true := str_ok n (by cases x <;> decide +kernel)
theorem tuple_ok {n : Nat} {ds : List Dat} (h : ∀ d ∈ ds, tupD n d = true) : tupD (n + 1) (.tuple ds) = true := List.all_eq_true.mpr h
theorem ty_ok (t : Ty) : ∀ {n : Nat}, 2 * t.dp + 1 ≤ n → tupD n (tyD t) = true := by
  induction t with
  | int => intro n h; exact tupD_le (n := 1) (by decide +kernel) h
  | bool => intro n h; exact tupD_le (n := 1) (by decide +kernel) h
  | never => intro n h; exact tupD_le (n := 1) (by decide +kernel) h
  | par x => intro n h; exact tupD_le (n := 1) (by cases x <;> decide +kernel) h
  | ref r m t ih =>
    intro n h
    simp only [Ty.dp] at h
    obtain ⟨k, rfl⟩ : ∃ k, n = k + 1 := ⟨n - 1, by omega⟩
    refine tuple_ok fun d hd => ?_
    simp only [List.mem_cons, List.not_mem_nil, or_false] at hd
    rcases hd with rfl | rfl | rfl | rfl
    · exact str_ok _ (by decide +kernel)
    · exact rg_ok _ _
    · exact bool_ok _
    · exact ih (by omega)
  | box t ih =>
    intro n h
    simp only [Ty.dp] at h
    obtain ⟨k, rfl⟩ : ∃ k, n = k + 1 := ⟨n - 1, by omega⟩
    refine tuple_ok fun d hd => ?_
    simp only [List.mem_cons, List.not_mem_nil, or_false] at hd
    rcases hd with rfl | rfl
    · exact str_ok _ (by decide +kernel)
    · exact ih (by omega)
  | arr t ih =>
    intro n h
    simp only [Ty.dp] at h
    obtain ⟨k, rfl⟩ : ∃ k, n = k + 1 := ⟨n - 1, by omega⟩
    refine tuple_ok fun d hd => ?_
    simp only [List.mem_cons, List.not_mem_nil, or_false] at hd
    rcases hd with rfl | rfl | rfl
    · exact str_ok _ (by decide +kernel)
    · exact ih (by omega)
    · exact int_ok _
  | adt r t ih =>
    intro n h
    simp only [Ty.dp] at h
    obtain ⟨k, rfl⟩ : ∃ k, n = k + 1 + 1 := ⟨n - 2, by omega⟩
    refine tuple_ok fun d hd => ?_
    simp only [List.mem_cons, List.not_mem_nil, or_false] at hd
    rcases hd with rfl | rfl | rfl | rfl
    · exact str_ok _ (by decide +kernel)
    · exact str_ok _ (by decide +kernel)
    · exact tuple_ok fun d hd => by rw [List.mem_singleton.mp hd]; exact rg_ok _ _
    · exact tuple_ok fun d hd => by rw [List.mem_singleton.mp hd]; exact ih (by omega)
  | tup t u ih ih' =>
    intro n h
    simp only [Ty.dp] at h
    obtain ⟨k, rfl⟩ : ∃ k, n = k + 1 + 1 := ⟨n - 2, by omega⟩
    refine tuple_ok fun d hd => ?_
    simp only [List.mem_cons, List.not_mem_nil, or_false] at hd
    rcases hd with rfl | rfl
    · exact str_ok _ (by decide +kernel)
    · refine tuple_ok fun d hd => ?_
      simp only [List.mem_cons, List.not_mem_nil, or_false] at hd
      rcases hd with rfl | rfl
      · exact ih (by omega)
      · exact ih' (by omega)
end Mine
namespace Mine
example : True := by
  w_top off
  k_with_none
  trivial
/-! a comprehension over a tuple of the ledger -/
section
variable {prog : Program} {w : World} {A : Around} {E : Value → Shared → Prop} {s : Shared} {h₀ : Heap} {L : Addr} {m : Str → Option Value} {env : Env}
def HasTup (ax : Addr) (vs : List Value) (k : Nat) (l : List (Addr × Obj)) : Prop := (ax, tupO vs k) ∈ l
def SrcT (prog : Program) (w : World) (A : Around) (h₀ : Heap) (L : Addr) (m : Str → Option Value) (env : Env) (elt : PySem.Expr) (x : Str) (scope : Scope) (cl : List (Str × Addr)) (Fin : Shared → List Value → List (Addr × Obj) → Prop) (xv : Value) (s₁ : Shared) : Prop :=
  ∃ ax vs k news, xv = .ref ax ∧ A.handled = none ∧ Fr h₀ L s₁.heap m ∧ News h₀ L s₁.heap news ∧ HasTup ax vs k news ∧ vs.length ≤ sizeLine ∧
    ∀ s₂ : Shared, (∃ h, s₂ = { s₁ with heap := h }) → LCg.CompRest prog w A h₀ L m env elt x scope cl s₂ (HasTup ax vs k) (fun i v => vs.toArray[i]? = some v) (Fin s₂) vs.length 0 [] news
theorem srcT_of {elt : PySem.Expr} {x : Str} {scope : Scope} {cl : List (Str × Addr)} {Fin : Shared → List Value → List (Addr × Obj) → Prop} {ax : Addr} {vs : List Value} {k : Nat} {news : List (Addr × Obj)} {s₁ : Shared}
    (hh : A.handled = none) (F : Fr h₀ L s₁.heap m) (N : News h₀ L s₁.heap news) (hm : (ax, tupO vs k) ∈ news) (hsz : vs.length ≤ sizeLine)
    (h : ∀ g, LCg.CompRest prog w A h₀ L m env elt x scope cl { s₁ with heap := g } (HasTup ax vs k) (fun i v => vs.toArray[i]? = some v) (Fin { s₁ with heap := g }) vs.length 0 [] news) :
    SrcT prog w A h₀ L m env elt x scope cl Fin (.ref ax) s₁ := ⟨ax, vs, k, news, rfl, hh, F, N, hm, hsz, fun _ ⟨g, e⟩ => e ▸ h g⟩
theorem tup_st {ax I : Addr} {vs : List Value} {k : Nat} : ∀ i (h h' : Heap) (o : Obj) (nw : List (Addr × Obj)), (h.IsTupleIter I ax i ∧ h.IsTuple ax vs.toArray) → h.get? I = some o → h'.get? I = some o → (∀ b o, h₀.get? b = some o → h'.get? b = some o) → News h₀ L h' nw → HasTup ax vs k nw → (h'.IsTupleIter I ax i ∧ h'.IsTuple ax vs.toArray) :=
  fun i h h' o nw st e e' _ N S => ⟨by obtain ⟨o', q, r⟩ := st.1; rw [e] at q; cases q; exact ⟨o, e', r⟩, ⟨_, (N _ S).1, rfl, _, rfl⟩⟩
theorem ListComp_tup {elt iter : PySem.Expr} {x : Str} {px : Pos} {scope : Scope} {cl : List (Str × Addr)} {pos : Pos} {Q : Value → Shared → Prop} (F₀ : Fr h₀ L s.heap m)
    (hclos : closureFor scope env = pure cl) (hcell : ∀ y ∈ scope.names, y.2 ≠ .cell) (hkind : scope.kind = .function)
    (hnames : ∀ y ∈ scope.names, y.2 = .local → scope.names.lookup y.1 = some .local) (hx : scope.names.lookup x = some .local)
    (h : wpAny (model prog w) A (eval iter env) (SrcT prog w A h₀ L m env elt x scope cl (fun s₂ => LCg.FinE h₀ L m s₂ Q)) E s)
    (hs : ∀ x, foldedSetIterable iter env x = pure x := by intro _; rfl) :
    wpAny (model prog w) A (eval (.ListComp elt [⟨.Name x px, iter, [], 0⟩] scope pos) env) Q E s := by
  rw [eval_ListComp]
  refine wpAny_comprehension_free (use := none) rfl hs hclos hkind hnames (wpAny_mono h (fun xv s₁ h₁ => ?_) fun _ _ e => e)
  obtain ⟨ax, vs, k, news, rfl, hh, F, N, S, hsz, R⟩ := h₁
  have hl : s₁.heap.IsTuple ax vs.toArray := ⟨_, (N _ S).1, rfl, _, rfl⟩
  have hlt : ax < s₁.heap.objs.size := Heap.lt_size (N _ S).1
  refine wpAny_pyIter_tuple hl ?_
  have up : ∀ b o, s₁.heap.get? b = some o → (s₁.heap.push { cls := .type "tuple_iterator", data := .fields #[.ref ax, .int 0 0] }).get? b = some o := fun b o e => Heap.get?_push_of_some _ e
  have W : Walks prog w A s₁.heap.objs.size [s₁.heap.objs.size, ax] [s₁.heap.objs.size] vs.length (fun i v => vs.toArray[i]? = some v) (fun i h => h.IsTupleIter s₁.heap.objs.size ax i ∧ h.IsTuple ax vs.toArray) := by
    have := Walks.tuple (prog := prog) (w := w) hh s₁.heap.objs.size ax (Nat.ne_of_lt hlt) vs.toArray
    rwa [List.size_toArray] at this
  refine LCg.block_U W hsz (fun i h st => by obtain ⟨o, e, _⟩ := st.1; exact ⟨o, e⟩) tup_st hcell hkind hx ⟨⟨_, Heap.get?_push_size _ rfl, rfl, rfl⟩, hl.at fun o e => up _ o e⟩ (fun b hb => ?_)
    (F.keeps up) (N.grown up) (Nat.ne_of_lt F.ns.lt) (next_is_new F) (fun p hp => Nat.ne_of_lt (Heap.lt_size (N p hp).1)) S (R _ ⟨_, rfl⟩) ?_
  · show b < (s₁.heap.push _).objs.size
    rw [Heap.size_push]
    rcases List.mem_cons.mp hb with rfl | hb
    · exact Nat.lt_succ_self _
    · rw [List.mem_singleton.mp hb]; exact Nat.lt_succ_of_lt hlt
  · intro D C h tk m' ys news' F' N' o1 hn hC₀ hD₀ hCL hDL hCD offC fin
    refine ⟨m', hn, fun h'' hs'' => fin D h'' tk (F'.change hs'' hCL hC₀) (fun p hp => ?_) o1⟩
    refine ⟨hs''.extBut _ _ ?_ (N' p hp).1, (N' p hp).2⟩
    rcases List.mem_cons.mp hp with rfl | hp
    · exact Ne.symm hCD
    · exact offC p hp
end
theorem sub_trans {X Y Z : List (Addr × Obj)} (h : ∀ p ∈ X, p ∈ Y) (k : ∀ p ∈ Y, p ∈ Z) : ∀ p ∈ X, p ∈ Z := fun p hp => k p (h p hp)
theorem gd_app {X Y D news l : List (Addr × Obj)} (h : ∀ p ∈ X, Gd D news l p) (k : ∀ p ∈ Y, Gd D news l p) : ∀ p ∈ X ++ Y, Gd D news l p := fun p hp => (List.mem_append.mp hp).elim (h p) (k p)
theorem gd_old {X D news l : List (Addr × Obj)} (h : ∀ p ∈ X, p ∈ l) (k : ∀ p ∈ X, p ∈ D) : ∀ p ∈ X, Gd D news l p := fun p hp => ⟨h p hp, .inl (k p hp)⟩
theorem gd_new {X D news l led : List (Addr × Obj)} (h : ∀ p ∈ X, p ∈ l) (a : Above led X) (k : ∀ p ∈ news, p ∈ led) : ∀ p ∈ X, Gd D news l p := fun p hp => ⟨h p hp, .inr fun q hq => a p hp q (k q hq)⟩
theorem gd_one {a : Addr} {o : Obj} {D news l led : List (Addr × Obj)} (h : (a, o) ∈ l) (k : AllLt a led) (s : ∀ p ∈ news, p ∈ led) : Gd D news l (a, o) := ⟨h, .inr (above_lt k s)⟩
theorem gd_had {q : Addr × Obj} {D news l : List (Addr × Obj)} (h : q ∈ l) (k : q ∈ D) : Gd D news l q := ⟨h, .inl k⟩
theorem datP_in {G : Addr × Obj → Prop} {l : List (Addr × Obj)} {v : Value} {d : Dat} (h : Dt l v d) (hs : ∀ p ∈ l, G p) : DatP G v d := .of_in hs h
theorem datP_gd {D news l : List (Addr × Obj)} {a : Addr} {vs : List Value} {n : Nat} {ds : List Dat} (h : (a, tupO vs n) ∈ l) (g : Gd D news l (a, tupO vs n)) (r : DatPs (Gd D news l) vs ds) : DatP (Gd D news l) (.ref a) (.tuple ds) := .tuple g r
theorem datP_gdJ {j : Addr} {D news l : List (Addr × Obj)} {a : Addr} {vs : List Value} {n : Nat} {ds : List Dat} (h : (a, tupO vs n) ∈ l) (g : GdJ j D news l (a, tupO vs n)) (r : DatPs (GdJ j D news l) vs ds) : DatP (GdJ j D news l) (.ref a) (.tuple ds) := .tuple g r
theorem gdJ_app {j : Addr} {X Y D news l : List (Addr × Obj)} (h : ∀ p ∈ X, GdJ j D news l p) (k : ∀ p ∈ Y, GdJ j D news l p) : ∀ p ∈ X ++ Y, GdJ j D news l p := fun p hp => (List.mem_append.mp hp).elim (h p) (k p)
theorem gdJ_nil {j : Addr} {D news l : List (Addr × Obj)} : ∀ p ∈ ([] : List (Addr × Obj)), GdJ j D news l p := fun _ h => nomatch h
theorem gdJ_old {j : Addr} {X D news l : List (Addr × Obj)} (h : ∀ p ∈ X, p ∈ l) (k : ∀ p ∈ X, p ∈ D) : ∀ p ∈ X, GdJ j D news l p := fun p hp => ⟨⟨h p hp, .inl (k p hp)⟩, .inl (k p hp)⟩
theorem gdJ_new {j : Addr} {X D news l led : List (Addr × Obj)} (h : ∀ p ∈ X, p ∈ l) (a : Above led X) (b : ∀ p ∈ X, @LT.lt Nat _ j p.1) (k : ∀ p ∈ news, p ∈ led) : ∀ p ∈ X, GdJ j D news l p := fun p hp => ⟨⟨h p hp, .inr fun q hq => a p hp q (k q hq)⟩, .inr (b p hp)⟩
theorem gdJ_one {j a : Addr} {o : Obj} {D news l led : List (Addr × Obj)} (h : (a, o) ∈ l) (k : AllLt a led) (s : ∀ p ∈ news, p ∈ led) (b : @LT.lt Nat _ j a) : GdJ j D news l (a, o) := ⟨⟨h, .inr (above_lt k s)⟩, .inr b⟩
theorem gdJ_had {j : Addr} {q : Addr × Obj} {D news l : List (Addr × Obj)} (h : q ∈ l) (k : q ∈ D) : GdJ j D news l q := ⟨⟨h, .inl k⟩, .inl k⟩
theorem off3_nil {I C D : Addr} : LCg.Off3 I C D [] := trivial
theorem off3_cons {I C D a : Addr} {o : Obj} {l : List (Addr × Obj)} (h : (@Ne Nat a I) ∧ (@Ne Nat a C) ∧ (@Ne Nat a D)) (k : LCg.Off3 I C D l) : LCg.Off3 I C D ((a, o) :: l) := ⟨h, k⟩
theorem off3_had {I C D a : Addr} {o : Obj} {l r : List (Addr × Obj)} (h : LCg.Off3 I C D l) (hm : (a, o) ∈ l) (k : LCg.Off3 I C D r) : LCg.Off3 I C D ((a, o) :: r) := ⟨h.mem _ hm, k⟩
theorem off3_app {I C D : Addr} {l r : List (Addr × Obj)} (h : LCg.Off3 I C D l) (k : LCg.Off3 I C D r) : LCg.Off3 I C D (l ++ r) :=
  LCg.Off3.of fun p hp => (List.mem_append.mp hp).elim (h.mem p) (k.mem p)
theorem off3_sub {I C D : Addr} {l r : List (Addr × Obj)} (h : LCg.Off3 I C D l) (k : ∀ p ∈ r, p ∈ l) : LCg.Off3 I C D r := LCg.Off3.of fun p hp => h.mem p (k p hp)
theorem off3_above {I C D : Addr} {oI oC oD : Obj} {l tl : List (Addr × Obj)} (h : Above l tl) (hI : (I, oI) ∈ l) (hC : (C, oC) ∈ l) (hD : (D, oD) ∈ l) : LCg.Off3 I C D tl :=
  LCg.Off3.of fun p hp => ⟨Nat.ne_of_gt (h p hp _ hI), Nat.ne_of_gt (h p hp _ hC), Nat.ne_of_gt (h p hp _ hD)⟩
theorem comp_end {h₀ : Heap} {L I C D : Addr} {m : Str → Option Value} {s₁ : Shared} {oI oC oD : Obj} {S : List (Addr × Obj) → Prop} {rest : Value → List (Addr × Obj) → Prop} {y : Value} {h' : Heap} {tk : Nat} {all l₁ l₂ news' : List (Addr × Obj)}
    (F : Fr h₀ L h' m) (N : News h₀ L h' all) (p1 : Pull (I, oI) all l₁) (p2 : Pull (C, oC) l₁ l₂) (p3 : Pull (D, oD) l₂ news') (off : LCg.Off3 I C D news') (hS : S news') (r : rest y news') :
    LCg.CompEnd h₀ L m s₁ I oI C oC D oD S rest y { s₁ with heap := h', toks := tk } := by
  refine LCg.CompEnd.intro F N news' (fun p hp => ?_) off hS r
  rcases List.mem_cons.mp hp with rfl | hp
  · exact p1.mem _ (.head _)
  · refine p1.mem _ (.tail _ ?_)
    rcases List.mem_cons.mp hp with rfl | hp
    · exact p2.mem _ (.head _)
    · refine p2.mem _ (.tail _ ?_)
      rcases List.mem_cons.mp hp with rfl | hp
      · exact p3.mem _ (.head _)
      · exact p3.mem _ (.tail _ hp)
theorem off_above {d : Addr} {o : Obj} {l tl : List (Addr × Obj)} (h : Above l tl) (hd : (d, o) ∈ l) : Off d tl := fun p hp => Nat.ne_of_gt (h p hp _ hd)
theorem off_lt {a d : Addr} {l news : List (Addr × Obj)} (h : AllLt a l) (k : @LE.le Nat _ a d) (s : ∀ p ∈ news, p ∈ l) : Off d news := fun p hp => Nat.ne_of_lt (Nat.lt_of_lt_of_le (above_lt h s p hp) k)
theorem comp_end_pure {h₀ : Heap} {L I C D : Addr} {m : Str → Option Value} {s₁ : Shared} {oI oC oD : Obj} {S : List (Addr × Obj) → Prop} {rest : Value → List (Addr × Obj) → Prop} {y : Value} {h' : Heap} {tk : Nat} {l₀ tl : List (Addr × Obj)}
    (F : Fr h₀ L h' m) (N : News h₀ L h' ((I, oI) :: (C, oC) :: (D, oD) :: (l₀ ++ tl))) (off : LCg.Off3 I C D l₀) (ab : Above ((I, oI) :: (C, oC) :: (D, oD) :: l₀) tl) (hS : S (l₀ ++ tl)) (r : rest y (l₀ ++ tl)) :
    LCg.CompEnd h₀ L m s₁ I oI C oC D oD S rest y { s₁ with heap := h', toks := tk } :=
  LCg.CompEnd.intro F N (l₀ ++ tl) (fun _ hp => hp) (off3_app off (off3_above ab (.head _) (.tail _ (.head _)) (.tail _ (.tail _ (.head _))))) hS r
end Mine
namespace Mine
example : True := by
  w_top off
  k_with_none
  trivial
section
variable {M : Model} {A : Around} {E : Value → Shared → Prop} {s : Shared} {h₀ h : Heap} {L : Addr} {m : Str → Option Value} {news : List (Addr × Obj)} {vs : List Value} {Q : Value → Shared → Prop}
theorem tup_let {hS : Heap} {gS : Array GenState} {dS : Drawn} {tS : Nat} {oS : OsState} (F : Fr h₀ L hS m) (N : News h₀ L hS news) (hz : vs.length ≤ sizeLine)
    (k : ∀ D h', let e : Addr × Obj := (D, tupO vs 0); let N' := e :: news; Fr h₀ L h' m → News h₀ L h' N' → AllLt D news → Q (.ref D) ⟨h', gS, dS, tS, oS⟩) : wpAny M A (newTuple vs) Q E ⟨hS, gS, dS, tS, oS⟩ :=
  kup_newTuple F N (fun D h' F' N' l1 => k D h' F' N' (allLt_of l1)) hz
theorem lst_let {hS : Heap} {gS : Array GenState} {dS : Drawn} {tS : Nat} {oS : OsState} (F : Fr h₀ L hS m) (N : News h₀ L hS news) (hz : vs.length ≤ sizeLine)
    (k : ∀ D h', let e : Addr × Obj := (D, listOf vs.toArray 0); let N' := e :: news; Fr h₀ L h' m → News h₀ L h' N' → AllLt D news → Q (.ref D) ⟨h', gS, dS, tS, oS⟩) : wpAny M A (newList vs) Q E ⟨hS, gS, dS, tS, oS⟩ :=
  newList_K F N (fun D h' F' N' l1 => k D h' F' N' (allLt_of l1)) hz
theorem con_str {hS : Heap} {gS : Array GenState} {dS : Drawn} {tS : Nat} {oS : OsState} {env : Env} {x : Str} {k : Nat} {pos : PySem.Pos} (h : Q (.str x tS) ⟨hS, gS, dS, tS + 1, oS⟩) : wpAny M A (eval (.Constant (.str x) k pos) env) Q E ⟨hS, gS, dS, tS, oS⟩ := Calls.Constant_str h
theorem con_int {hS : Heap} {gS : Array GenState} {dS : Drawn} {tS : Nat} {oS : OsState} {env : Env} {i : Int} {k : Nat} {pos : PySem.Pos} (h : Q (.int i tS) ⟨hS, gS, dS, tS + 1, oS⟩) : wpAny M A (eval (.Constant (.int i) k pos) env) Q E ⟨hS, gS, dS, tS, oS⟩ := wpAny_Constant_int h
theorem led_let {P : Prop} (N : News h₀ L h news) (k : let Y := news; News h₀ L h Y → P) : P := k N
end
theorem lt_all {d j : Addr} {o : Obj} {l : List (Addr × Obj)} (h : AllLt d l) (m : (j, o) ∈ l) : @LT.lt Nat _ j d := ktn_ltOf h _ m
theorem ne_all {d j : Addr} {o : Obj} {l : List (Addr × Obj)} (h : AllLt d l) (m : (j, o) ∈ l) : @Ne Nat d j := fun e => absurd (ktn_ltOf h _ m) (by subst e; exact Nat.lt_irrefl _)
theorem ne_all2 {d j : Addr} {o : Obj} {l : List (Addr × Obj)} (h : AllLt d l) (m : (j, o) ∈ l) : @Ne Nat j d := (ne_all h m).symm
theorem ne_up1 {d j : Nat} {o : Obj} {l : List (Addr × Obj)} (h : AllLt d l) (m : (j, o) ∈ l) : @Ne Nat (d + 1) j := by have := lt_all h m; omega
theorem ne_up2 {d j : Nat} {o : Obj} {l : List (Addr × Obj)} (h : AllLt d l) (m : (j, o) ∈ l) : @Ne Nat (d + 1 + 1) j := by have := lt_all h m; omega
theorem ne_up3 {d j : Nat} {o : Obj} {l : List (Addr × Obj)} (h : AllLt d l) (m : (j, o) ∈ l) : @Ne Nat (d + 1 + 1 + 1) j := by have := lt_all h m; omega
theorem ne_dn1 {d j : Nat} {o : Obj} {l : List (Addr × Obj)} (h : AllLt d l) (m : (j, o) ∈ l) : @Ne Nat j (d + 1) := (ne_up1 h m).symm
theorem ne_dn2 {d j : Nat} {o : Obj} {l : List (Addr × Obj)} (h : AllLt d l) (m : (j, o) ∈ l) : @Ne Nat j (d + 1 + 1) := (ne_up2 h m).symm
theorem ne_dn3 {d j : Nat} {o : Obj} {l : List (Addr × Obj)} (h : AllLt d l) (m : (j, o) ∈ l) : @Ne Nat j (d + 1 + 1 + 1) := (ne_up3 h m).symm
theorem ne_tr {d a j : Nat} {o : Obj} {l : List (Addr × Obj)} (t : @LT.lt Nat _ d a) (h : AllLt d l) (m : (j, o) ∈ l) : @Ne Nat a j := by have := lt_all h m; omega
theorem ne_trs {d a j : Nat} {o : Obj} {l : List (Addr × Obj)} (t : @LT.lt Nat _ d a) (h : AllLt d l) (m : (j, o) ∈ l) : @Ne Nat j a := (ne_tr t h m).symm
theorem ne_tr2 {d c a j : Nat} {o : Obj} {l : List (Addr × Obj)} (t : @LT.lt Nat _ c a) (u : @LT.lt Nat _ d c) (h : AllLt d l) (m : (j, o) ∈ l) : @Ne Nat a j := by have := lt_all h m; omega
theorem ne_tr2s {d c a j : Nat} {o : Obj} {l : List (Addr × Obj)} (t : @LT.lt Nat _ c a) (u : @LT.lt Nat _ d c) (h : AllLt d l) (m : (j, o) ∈ l) : @Ne Nat j a := (ne_tr2 t u h m).symm
theorem ne_of_lt' {a b : Nat} (h : @LT.lt Nat _ a b) : @Ne Nat a b := Nat.ne_of_lt h
theorem ne_of_gt' {a b : Nat} (h : @LT.lt Nat _ b a) : @Ne Nat a b := (Nat.ne_of_lt h).symm
theorem ne_lt2 {a b c : Nat} (h : @LT.lt Nat _ a b) (k : @LT.lt Nat _ b c) : @Ne Nat a c := by omega
theorem ne_gt2 {a b c : Nat} (h : @LT.lt Nat _ a b) (k : @LT.lt Nat _ b c) : @Ne Nat c a := by omega
section
variable {I C D a : Nat} {o o' : Obj} {l r : List (Addr × Obj)}
theorem ne_o3a (h : LCg.Off3 I C D l) (m : (a, o) ∈ l) : @Ne Nat a I := (h.mem _ m).1
theorem ne_o3b (h : LCg.Off3 I C D l) (m : (a, o) ∈ l) : @Ne Nat a C := (h.mem _ m).2.1
theorem ne_o3c (h : LCg.Off3 I C D l) (m : (a, o) ∈ l) : @Ne Nat a D := (h.mem _ m).2.2
theorem ne_o3a' (h : LCg.Off3 I C D l) (m : (a, o) ∈ l) : @Ne Nat I a := (h.mem _ m).1.symm
theorem ne_o3b' (h : LCg.Off3 I C D l) (m : (a, o) ∈ l) : @Ne Nat C a := (h.mem _ m).2.1.symm
theorem ne_o3c' (h : LCg.Off3 I C D l) (m : (a, o) ∈ l) : @Ne Nat D a := (h.mem _ m).2.2.symm
theorem off1_mem : ∀ {l : List (Addr × Obj)}, LCg.Off1 D l → ∀ p ∈ l, @Ne Nat p.1 D
  | [], _, _, h => nomatch h
  | _ :: _, h, p, hp => (List.mem_cons.mp hp).elim (fun e => e ▸ h.1) (fun k => off1_mem h.2 p k)
theorem ne_o1 (h : LCg.Off1 D l) (m : (a, o) ∈ l) : @Ne Nat a D := off1_mem h _ m
theorem ne_o1' (h : LCg.Off1 D l) (m : (a, o) ∈ l) : @Ne Nat D a := (off1_mem h _ m).symm
theorem off_o3a (h : LCg.Off3 I C D l) (s : ∀ p ∈ r, p ∈ l) : Off I r := fun p hp => (h.mem p (s p hp)).1
theorem off_o3b (h : LCg.Off3 I C D l) (s : ∀ p ∈ r, p ∈ l) : Off C r := fun p hp => (h.mem p (s p hp)).2.1
theorem off_o3c (h : LCg.Off3 I C D l) (s : ∀ p ∈ r, p ∈ l) : Off D r := fun p hp => (h.mem p (s p hp)).2.2
theorem off_o1 (h : LCg.Off1 D l) (s : ∀ p ∈ r, p ∈ l) : Off D r := fun p hp => off1_mem h p (s p hp)
theorem off3_any (h : LCg.Off3 I C D l) (hm : (a, o) ∈ l) (k : LCg.Off3 I C D r) : LCg.Off3 I C D ((a, o') :: r) := ⟨h.mem (a, o) hm, k⟩
end
theorem gd_cons0 {X D news l : List (Addr × Obj)} {q : Addr × Obj} (h : Gd D news l q) (k : ∀ p ∈ X, Gd D news l p) : ∀ p ∈ q :: X, Gd D news l p := fun p hp => by
  rcases List.mem_cons.mp hp with rfl | hp
  · exact h
  · exact k p hp
theorem room0 {dp R : Nat} (h : dp + R < recursionLimit) : dp < recursionLimit := Nat.lt_of_le_of_lt (Nat.le_add_right _ _) h
theorem room1 {dp b R : Nat} (h : dp + R < recursionLimit) (e : b ≤ R) : dp + b < recursionLimit := Nat.lt_of_le_of_lt (Nat.add_le_add_left e _) h
theorem room2 {dp a b R : Nat} (h : dp + R < recursionLimit) (e : a + b ≤ R) : dp + a + b < recursionLimit := by rw [Nat.add_assoc]; exact room1 h e
theorem unit1 {un r R : Nat} (h : un + 8 * R < cLine) (e : r ≤ R) : un + 8 * r < cLine := Nat.lt_of_le_of_lt (Nat.add_le_add_left (Nat.mul_le_mul_left _ e) _) h
theorem unit2 {un a r R : Nat} (h : un + 8 * R < cLine) (e : a + 8 * r ≤ 8 * R) : un + a + 8 * r < cLine := by rw [Nat.add_assoc]; exact Nat.lt_of_le_of_lt (Nat.add_le_add_left e _) h
section
variable {M : Model} {A : Around} {E : Value → Shared → Prop} {s : Shared} {env : Env} {st : Stmt} {rest : List Stmt} {Q : Flow → Shared → Prop}
theorem ec_let (h : let K : Flow → Shared → Prop := fun f s' => match f with | .next => wpAny M A (execs rest env) Q E s' | f => Q f s'; wpAny M A (exec st env) K E s) :
    wpAny M A (execs (st :: rest) env) Q E s := wpAny_execs_cons h
theorem ec_let2 (h : let q := Q; let e := E; let K : Flow → Shared → Prop := fun f s' => match f with | .next => wpAny M A (execs rest env) q e s' | f => q f s'; wpAny M A (exec st env) K e s) :
    wpAny M A (execs (st :: rest) env) Q E s := wpAny_execs_cons h
end
theorem fr_let {h₀ h : Heap} {L : Addr} {m : Str → Option Value} {P : Prop} (F : Fr h₀ L h m) (k : let m' := m; Fr h₀ L h m' → P) : P := k F
end Mine
local macro_rules | `(tactic| walk_at $s:str) => `(tactic| k_extra $s)
local macro_rules | `(tactic| kqd_sub) => `(tactic| k_extra "w_kqd_sub")
local macro_rules | `(tactic| tb_rel) => `(tactic| k_extra "w_tb_rel")
local macro_rules | `(tactic| tb_start) => `(tactic| k_extra "w_tb_start")
local macro_rules | `(tactic| k_room) => `(tactic| k_extra "w_k_room")
local macro_rules | `(tactic| kqd_all) => `(tactic| k_extra "w_kqd_all")
local macro_rules | `(tactic| lcg_off) => `(tactic| k_extra "w_lcg_off")
local macro_rules | `(tactic| k_mem) => `(tactic| k_extra "w_k_mem")
local macro_rules | `(tactic| k_all) => `(tactic| k_extra "w_k_all")
local macro_rules | `(tactic| ktr_enter) => `(tactic| k_extra "w_ktr_enter")
local macro_rules | `(tactic| k_ne) => `(tactic| k_extra "w_k_ne")
local macro_rules | `(tactic| lcg_src) => `(tactic| k_extra "w_lcg_src")
local macro_rules | `(tactic| wrow_close) => `(tactic| k_extra "w_wrow_close")
local macro_rules | `(tactic| kc_close) => `(tactic| k_extra "w_kc_close")
local macro_rules | `(tactic| ktr_room) => `(tactic| k_extra "w_ktr_room")
local macro_rules | `(tactic| ktr_units) => `(tactic| k_extra "w_ktr_units")
local macro_rules | `(tactic| k_lt $h:ident) => `(tactic| first | (k_extra "pack"; replace $h := allLt_of $h) | (replace $h := allLt_of $h; simp only [AllLt, and_true] at $h:ident) | (replace $h := allLt_of $h))
namespace Mine
example : True := by
  w_top off
  k_with_none
  trivial

def parts : Ty → List Ty
  | .ref _ _ t => [t]
  | .box t => [t]
  | .arr t => [t]
  | .adt _ t => [t]
  | .tup t u => [t, u]
  | _ => []
def rebuild : Ty → List Ty → Ty
  | .ref r m _, [t] => .ref r m t
  | .box _, [t] => .box t
  | .arr _, [t] => .arr t
  | .adt r _, [t] => .adt r t
  | .tup _ _, [t, u] => .tup t u
  | t, _ => t

section
variable {w : World} {loose : List Str} {mean : ExcName → Option Value} {mg mb : Str → Option Value}

def PartsOk (w : World) (loose : List Str) (mean : ExcName → Option Value) (mg mb : Str → Option Value) (t : Ty) : Prop :=
  ∀ v D news, Dt D v (tyD t) → (∀ p ∈ D, p ∈ news) →
    CallOk PySem.Challenge.rw_xm0591_01.row.prog w (hd.heap_1 w.params) topProg loose mean mg mb 2 28 [v] news (PPost D news (.tuple ((parts t).map tyD)))
example : True := by
  k_with_none
  k_with "subscriptTail" =>
   ((k_here; (with_reducible show wpAny _ _ (subscriptTail _ _ (Value.ref _) (Value.int _ _)) _ _ _); k_dflt (first
   | (refine' my_tup ?Z0 ?Z1 ?Z2 ?Z3 ?Z4 ?Z5 ?_; (case Z0 => k_asm); (case Z1 => k_mem); (case Z2 | Z3 => decide); (case Z4 | Z5 => rfl); k_whole)
   | (refine' my_lst ?Z0 ?Z1 ?Z2 ?Z3 ?Z5 ?_; (case Z0 => k_asm); (case Z1 => k_mem); (case Z2 | Z3 => decide); (case Z5 => rfl); k_whole))))
  k_with "w_k_room" =>
   (ktr_room)
  k_with "execs cons" =>
   (k_here; (try k_gentoks); (first | ((fail_if_success (fail_if_success k_fold)); (with_reducible refine' ec_let2 ?_); intro q0 e0 K0) | ((with_reducible refine' ec_let ?_); intro K0)); (all_goals (try ((with_reducible rename Fr _ _ _ (fun _ => ite _ _ _) => f9); refine fr_let f9 ?_; clear f9; intro m0 F0))); (try dsimp only))
  k_with "eval Constant str" =>
   (with_reducible refine' con_str ?_)
  k_with "eval Constant int" =>
   (with_reducible refine' con_int ?_)
  k_with "subscriptTail Name Constant ref int" =>
   (k_extra "subscriptTail")
  k_with "callWith ref" =>
   (k_here; (with_reducible show wpAny _ _ (callWith _ (Value.ref _) _ (backTo _ (starEach (_ :: _) _)) []) _ _ _); k_dflt (refine' callWith_K ?zc1 ?zc2 ?_; (case zc1 => with_reducible assumption); (case zc2 => k_is); k_whole))
  k_with "callWith ref" =>
   (k_here; (with_reducible show wpAny _ _ (callWith _ (Value.ref _) _ (backTo _ (starEach [] _)) []) _ _ _); k_dflt (refine' callWith_K0 ?zc1 ?zc2 ?_; (case zc1 => exact Frag.In.keeps (by with_reducible assumption) (Fr.keep (by k_asm))); (case zc2 => k_is); k_whole))
  k_with "eval Name" =>
   (k_here; k_dflt (first
   | (refine' nameX_L ?zn1 ?zn2 ?_ ?zn3 ?zn4; (case zn3 | zn4 => rfl); (case zn1 => k_asm); (case zn2 => rfl); k_whole)
   | (refine' nameX_K ?zn1 ?zn2 ?zn3 ?zn4 ?_ ?zn5 ?zn6; (case zn5 | zn6 => rfl); (case zn1 | zn2 | zn3 => k_asm); (case zn4 => k_is); k_whole)
   | (refine' nameX_B ?zn1 ?zn2 ?zn3 ?zn4 ?zn5 ?zn6 ?_ ?zn7 ?zn8; (case zn7 | zn8 => rfl); (case zn1 | zn2 | zn3 => k_asm); (case zn4 => k_is); (case zn5 => boot_fast); (case zn6 => decide); k_whole)
   | fail))
  k_with "newTuple" =>
   (k_here; k_dflt (refine' tup_let ?z30 ?z4 ?z0 ?_; (case z30 | z4 => k_asm); (case z0 => kmk_size)); intro D' h' e' Y' F' N' l1; (try k_sweep))
  k_with "newList" =>
   (k_here; k_dflt (refine' lst_let ?z30 ?z4 ?z0 ?_; (case z30 | z4 => k_asm); (case z0 => kmk_size)); intro D' h' e' Y' F' N' l1; (try k_sweep))
  k_with "binaryOp Add ref ref" =>
   (k_here; (with_reducible show wpAny _ _ (binaryOp Operator.Add (Value.ref _) (Value.ref _)) _ _ _); k_dflt (refine' kde_addT ?z1 ?z27 ?z25 ?z2 ?z18 ?z23 ?z21 ?z24 ?_; (case z1 | z27 => k_asm); (case z25 | z2 => exact News.isTup (by k_asm) (by k_mem)); (case z18 | z23 => exact List.cons_ne_nil _ _); (case z21 => exact Nat.le_of_ble_eq_true rfl); (case z24 => kun_lit)); intro D' h' F' N' l1; (replace l1 := allLt_of l1); (try k_sweep))
  k_with "k_up" =>
   (first
   | with_reducible exact hp
   | ((with_reducible refine List.mem_cons_of_mem _ ?_); k_extra "k_up")
   | ((with_reducible refine List.mem_append_left _ ?_); k_extra "k_up")
   | ((with_reducible refine List.mem_append_right _ ?_); k_extra "k_up")
   | fail)
  k_with "w_tb_start" =>
   (first
   | exact sub_nil
   | (intro p hp; k_extra "k_up")
   | (refine' sub_trans ?z28 ?z13; (case z28 => with_reducible assumption); (case z13 => (intro p hp; k_extra "k_up")))
   | ((with_reducible refine sub_app ?_ ?_) <;> tb_start)
   | ((with_reducible refine sub_cons ?_ ?_); k_mem; tb_start)
   | fail)
  k_with "w_k_mem" =>
   (focus ((repeat (with_reducible first | exact List.mem_cons_self | refine List.mem_cons_of_mem _ ?_ | refine List.mem_append_left _ ?_)); done))
  k_with "w_kqd_sub" =>
   (with_reducible first
   | exact gdJ_nil
   | (refine' gdJ_app ?_ ?_ <;> kqd_sub)
   | (refine' gd_app ?_ ?_ <;> kqd_sub)
   | (refine' gdJ_new ?z32 ?z12 ?z22 ?z9; (case z12 | z22 => assumption); (case z32 | z9 => k_dflt tb_start))
   | (refine' gd_new ?z32 ?z12 ?z9; (case z12 => assumption); (case z32 | z9 => k_dflt tb_start))
   | (refine' gd_cons0 ?z15 ?z10; (case z15 => first | (refine' gd_had ?z31 ?z38; (case z38 => assumption); (case z31 => k_dflt k_mem)) | (refine' gd_one ?z31 ?z38 ?z37; (case z38 => assumption); (case z31 => k_dflt k_mem); (case z37 => k_dflt tb_start))); (case z10 => kqd_sub))
   | (refine' gdJ_old ?z32 ?z9; (case z9 | z32 => k_dflt tb_start))
   | (refine' gd_old ?z32 ?z9; (case z9 | z32 => k_dflt tb_start))
   | fail)
  k_with "w_tb_rel" =>
   (with_reducible first
   | exact DatP.none
   | exact DatP.bool _
   | exact DatP.int _ _
   | exact DatP.str _ _
   | exact DatPs.nil
   | (refine' DatPs.cons ?_ ?_ <;> first | ((with_reducible show DatP _ _ _); tb_rel) | ((with_reducible show DatPs _ _ _); tb_rel) | ((with_reducible show Dat); skip) | ((with_reducible show List Dat); skip))
   | (refine' datP_in ?z5 ?z37; (case z5 => assumption); (case z37 => k_dflt kqd_sub))
   | (refine' datP_gdJ ?z31 ?z34 ?z35; (case z31 => k_dflt k_mem); (case z34 => first | (refine' gdJ_had ?z31 ?z38; (case z38 => assumption); (case z31 => k_dflt k_mem)) | (refine' gdJ_one ?z31 ?z38 ?z37 ?z19; (case z38 => assumption); (case z31 => k_dflt k_mem); (case z37 => k_dflt tb_start); (case z19 => k_dflt (k_extra "k_ltA")))); (case z35 => tb_rel))
   | (refine' datP_gd ?z31 ?z34 ?z35; (case z31 => k_dflt k_mem); (case z34 => first | (refine' gd_had ?z31 ?z38; (case z38 => assumption); (case z31 => k_dflt k_mem)) | (refine' gd_one ?z31 ?z38 ?z37; (case z38 => assumption); (case z31 => k_dflt k_mem); (case z37 => k_dflt tb_start))); (case z35 => tb_rel))
   | fail)
  k_with "w_lcg_off" =>
   (with_reducible first
   | assumption
   | exact off3_nil
   | (refine' off3_app ?_ ?_ <;> lcg_off)
   | (refine' off3_any ?z40 ?z14 ?z3; (case z40 => assumption); (case z14 => k_dflt k_mem); (case z3 => lcg_off))
   | (refine' off3_cons ⟨?z42, ?z16, ?z17⟩ ?z3; (case z42 | z16 | z17 => k_dflt k_ne); (case z3 => lcg_off))
   | (refine' off3_above ?z40 ?z42 ?z16 ?z17; (case z40 => assumption); (case z42 | z16 | z17 => k_dflt k_mem))
   | (refine' off3_sub ?z40 ?z3; (case z40 => assumption); (case z3 => k_dflt tb_start))
   | fail)
  k_with "w_ktr_room" =>
   ((try simp only [depth_under_make, depth_under_kw, depth_in1, depth_deeper, depth_caller]); (try dsimp only [ktrTop]); with_reducible first
   | (refine' room2 ?z11 ?z20; (case z11 => assumption); (case z20 => k_dflt (first | exact Nat.le_of_ble_eq_true rfl | omega)))
   | (refine' room1 ?z11 ?z20; (case z11 => assumption); (case z20 => k_dflt (first | exact Nat.le_of_ble_eq_true rfl | omega)))
   | (refine' room0 ?z11; (case z11 => assumption))
   | fail)
  k_with "w_ktr_units" =>
   ((try simp only [units_in1, units_deeper, Around.mark_units, units_caller]); (try dsimp only [ktrTop]); with_reducible first
   | (refine' unit2 ?z11 ?z20; (case z11 => assumption); (case z20 => k_dflt (first | exact Nat.le_of_ble_eq_true rfl | omega)))
   | (refine' unit1 ?z11 ?z20; (case z11 => assumption); (case z20 => k_dflt (first | exact Nat.le_of_ble_eq_true rfl | omega)))
   | fail)
  k_with "k_ltA" =>
   (first
   | (refine' lt_all ?z6 ?z36; (case z6 => with_reducible assumption); (case z36 => k_mem))
   | (refine ltN ?_; omega))
  k_with "w_kqd_all" =>
   (with_reducible first
   | assumption
   | exact off_nil
   | (refine' off_cons ?z29 ?z39; (case z29 => k_dflt k_ne); (case z39 => kqd_all))
   | (refine' off_app ?_ ?_ <;> kqd_all)
   | (refine' off_sub ?z8 ?z7; (case z8 => assumption); (case z7 => k_dflt tb_start))
   | (refine' off_above ?z8 ?z7; (case z8 => assumption); (case z7 => k_dflt k_mem))
   | (refine' off_lt ?z8 ?z33 ?z7; (case z8 => assumption); (case z33 => k_dflt ((show (_ : Nat) ≤ _); omega)); (case z7 => k_dflt tb_start))
   | (refine' off_o3a ?z8 ?z7; (case z8 => assumption); (case z7 => k_dflt tb_start))
   | (refine' off_o3b ?z8 ?z7; (case z8 => assumption); (case z7 => k_dflt tb_start))
   | (refine' off_o3c ?z8 ?z7; (case z8 => assumption); (case z7 => k_dflt tb_start))
   | (refine' off_o1 ?z8 ?z7; (case z8 => assumption); (case z7 => k_dflt tb_start))
   | fail)
  k_with "w_k_ne" =>
   (first
   | with_reducible assumption
   | (refine' ne_all ?z6 ?z36; (case z6 => with_reducible assumption); (case z36 => k_mem))
   | (refine' ne_all2 ?z6 ?z36; (case z6 => with_reducible assumption); (case z36 => k_mem))
   | (refine' Ne.symm ?z6; (case z6 => with_reducible assumption))
   | (refine' ne_o3a ?z6 ?z36; (case z6 => with_reducible assumption); (case z36 => k_mem))
   | (refine' ne_o3b ?z6 ?z36; (case z6 => with_reducible assumption); (case z36 => k_mem))
   | (refine' ne_o3c ?z6 ?z36; (case z6 => with_reducible assumption); (case z36 => k_mem))
   | (refine' ne_o3a' ?z6 ?z36; (case z6 => with_reducible assumption); (case z36 => k_mem))
   | (refine' ne_o3b' ?z6 ?z36; (case z6 => with_reducible assumption); (case z36 => k_mem))
   | (refine' ne_o3c' ?z6 ?z36; (case z6 => with_reducible assumption); (case z36 => k_mem))
   | (refine' ne_o1 ?z6 ?z36; (case z6 => with_reducible assumption); (case z36 => k_mem))
   | (refine' ne_o1' ?z6 ?z36; (case z6 => with_reducible assumption); (case z36 => k_mem))
   | (refine' ne_of_lt' ?z6; (case z6 => with_reducible assumption))
   | (refine' ne_of_gt' ?z6; (case z6 => with_reducible assumption))
   | (refine' ne_tr ?z41 ?z6 ?z36; (case z41 | z6 => with_reducible assumption); (case z36 => k_mem))
   | (refine' ne_trs ?z41 ?z6 ?z36; (case z41 | z6 => with_reducible assumption); (case z36 => k_mem))
   | (refine' ne_tr2 ?z41 ?z26 ?z6 ?z36; (case z41 | z26 | z6 => with_reducible assumption); (case z36 => k_mem))
   | (refine' ne_tr2s ?z41 ?z26 ?z6 ?z36; (case z41 | z26 | z6 => with_reducible assumption); (case z36 => k_mem))
   | (with_reducible refine' ne_up1 ?z6 ?z36; (case z6 => assumption); (case z36 => k_dflt k_mem))
   | (with_reducible refine' ne_up2 ?z6 ?z36; (case z6 => assumption); (case z36 => k_dflt k_mem))
   | (with_reducible refine' ne_up3 ?z6 ?z36; (case z6 => assumption); (case z36 => k_dflt k_mem))
   | (with_reducible refine' ne_dn1 ?z6 ?z36; (case z6 => assumption); (case z36 => k_dflt k_mem))
   | (with_reducible refine' ne_dn2 ?z6 ?z36; (case z6 => assumption); (case z36 => k_dflt k_mem))
   | (with_reducible refine' ne_dn3 ?z6 ?z36; (case z6 => assumption); (case z36 => k_dflt k_mem))
   | fail)
  k_with "pack" =>
   skip
  trivial
theorem parts_int  : PartsOk w loose mean mg mb .int := by
  intro v D news hv hs1
  unfold CallOk
  intro dp un gd cn cs a ccd cl outer A₀ base h₀ L m s Q E B F X N T hk hdp hun hret
  obtain ⟨b, w1, w2, n, rfl, hm, h1, h2⟩ := in_tup2 hv
  obtain ⟨t1, rfl⟩ := in_str h1
  obtain ⟨t2, rfl⟩ := in_str h2
  replace N := News.add N (hs1 _ hm)
  refine wpAny_call ?_
  k_dflt ktr_enter
  all_goals (try (with_reducible rename News _ _ _ _ => nL9; refine led_let nL9 ?_; clear nL9; intro Y0 N9))
  k_steps
  refine hret _ _ _ _ (by k_asm) (by k_asm) ⟨by tb_start, ?_⟩
  dsimp only [tyD, parts, List.map]
  (repeat (with_reducible rename _ ∧ _ => hc; (have hcl := hc.1); (have hcr := hc.2); clear hc))
  tb_rel
theorem parts_bool  : PartsOk w loose mean mg mb .bool := by
  intro v D news hv hs1
  unfold CallOk
  intro dp un gd cn cs a ccd cl outer A₀ base h₀ L m s Q E B F X N T hk hdp hun hret
  obtain ⟨b, w1, n, rfl, hm, h1⟩ := in_tup1 hv
  obtain ⟨t1, rfl⟩ := in_str h1
  replace N := News.add N (hs1 _ hm)
  refine wpAny_call ?_
  k_dflt ktr_enter
  all_goals (try (with_reducible rename News _ _ _ _ => nL9; refine led_let nL9 ?_; clear nL9; intro Y0 N9))
  k_steps
  refine hret _ _ _ _ (by k_asm) (by k_asm) ⟨by tb_start, ?_⟩
  dsimp only [tyD, parts, List.map]
  (repeat (with_reducible rename _ ∧ _ => hc; (have hcl := hc.1); (have hcr := hc.2); clear hc))
  tb_rel
theorem parts_never  : PartsOk w loose mean mg mb .never := by
  intro v D news hv hs1
  unfold CallOk
  intro dp un gd cn cs a ccd cl outer A₀ base h₀ L m s Q E B F X N T hk hdp hun hret
  obtain ⟨b, w1, n, rfl, hm, h1⟩ := in_tup1 hv
  obtain ⟨t1, rfl⟩ := in_str h1
  replace N := News.add N (hs1 _ hm)
  refine wpAny_call ?_
  k_dflt ktr_enter
  all_goals (try (with_reducible rename News _ _ _ _ => nL9; refine led_let nL9 ?_; clear nL9; intro Y0 N9))
  k_steps
  refine hret _ _ _ _ (by k_asm) (by k_asm) ⟨by tb_start, ?_⟩
  dsimp only [tyD, parts, List.map]
  (repeat (with_reducible rename _ ∧ _ => hc; (have hcl := hc.1); (have hcr := hc.2); clear hc))
  tb_rel
theorem parts_par (x : Pm) : PartsOk w loose mean mg mb (.par x) := by
  intro v D news hv hs1
  unfold CallOk
  intro dp un gd cn cs a ccd cl outer A₀ base h₀ L m s Q E B F X N T hk hdp hun hret
  obtain ⟨b, w1, w2, n, rfl, hm, h1, h2⟩ := in_tup2 hv
  obtain ⟨t1, rfl⟩ := in_str h1
  obtain ⟨t2, rfl⟩ := in_str h2
  replace N := News.add N (hs1 _ hm)
  refine wpAny_call ?_
  k_dflt ktr_enter
  all_goals (try (with_reducible rename News _ _ _ _ => nL9; refine led_let nL9 ?_; clear nL9; intro Y0 N9))
  k_steps
  refine hret _ _ _ _ (by k_asm) (by k_asm) ⟨by tb_start, ?_⟩
  dsimp only [tyD, parts, List.map]
  (repeat (with_reducible rename _ ∧ _ => hc; (have hcl := hc.1); (have hcr := hc.2); clear hc))
  tb_rel
theorem parts_ref (r : Rg) (q : Bool) (t : Ty) : PartsOk w loose mean mg mb (.ref r q t) := by
  intro v D news hv hs1
  unfold CallOk
  intro dp un gd cn cs a ccd cl outer A₀ base h₀ L m s Q E B F X N T hk hdp hun hret
  obtain ⟨b, w1, w2, w3, w4, n, rfl, hm, h1, h2, h3, h4⟩ := in_tup4 hv
  obtain ⟨t1, rfl⟩ := in_str h1
  obtain rfl := in_bool h3
  replace N := News.add N (hs1 _ hm)
  refine wpAny_call ?_
  k_dflt ktr_enter
  all_goals (try (with_reducible rename News _ _ _ _ => nL9; refine led_let nL9 ?_; clear nL9; intro Y0 N9))
  k_steps
  refine hret _ _ _ _ (by k_asm) (by k_asm) ⟨by tb_start, ?_⟩
  dsimp only [tyD, parts, List.map]
  (repeat (with_reducible rename _ ∧ _ => hc; (have hcl := hc.1); (have hcr := hc.2); clear hc))
  tb_rel
theorem parts_box (t : Ty) : PartsOk w loose mean mg mb (.box t) := by
  intro v D news hv hs1
  unfold CallOk
  intro dp un gd cn cs a ccd cl outer A₀ base h₀ L m s Q E B F X N T hk hdp hun hret
  obtain ⟨b, w1, w2, n, rfl, hm, h1, h2⟩ := in_tup2 hv
  obtain ⟨t1, rfl⟩ := in_str h1
  replace N := News.add N (hs1 _ hm)
  refine wpAny_call ?_
  k_dflt ktr_enter
  all_goals (try (with_reducible rename News _ _ _ _ => nL9; refine led_let nL9 ?_; clear nL9; intro Y0 N9))
  k_steps
  refine hret _ _ _ _ (by k_asm) (by k_asm) ⟨by tb_start, ?_⟩
  dsimp only [tyD, parts, List.map]
  (repeat (with_reducible rename _ ∧ _ => hc; (have hcl := hc.1); (have hcr := hc.2); clear hc))
  tb_rel
theorem parts_arr (t : Ty) : PartsOk w loose mean mg mb (.arr t) := by
  intro v D news hv hs1
  unfold CallOk
  intro dp un gd cn cs a ccd cl outer A₀ base h₀ L m s Q E B F X N T hk hdp hun hret
  obtain ⟨b, w1, w2, w3, n, rfl, hm, h1, h2, h3⟩ := in_tup3 hv
  obtain ⟨t1, rfl⟩ := in_str h1
  obtain ⟨t3, rfl⟩ := in_int h3
  replace N := News.add N (hs1 _ hm)
  refine wpAny_call ?_
  k_dflt ktr_enter
  all_goals (try (with_reducible rename News _ _ _ _ => nL9; refine led_let nL9 ?_; clear nL9; intro Y0 N9))
  k_steps
  refine hret _ _ _ _ (by k_asm) (by k_asm) ⟨by tb_start, ?_⟩
  dsimp only [tyD, parts, List.map]
  (repeat (with_reducible rename _ ∧ _ => hc; (have hcl := hc.1); (have hcr := hc.2); clear hc))
  tb_rel
theorem parts_adt (r : Rg) (t : Ty) : PartsOk w loose mean mg mb (.adt r t) := by
  intro v D news hv hs1
  unfold CallOk
  intro dp un gd cn cs a ccd cl outer A₀ base h₀ L m s Q E B F X N T hk hdp hun hret
  obtain ⟨b, w1, w2, w3, w4, n, rfl, hm, h1, h2, h3, h4⟩ := in_tup4 hv
  obtain ⟨t1, rfl⟩ := in_str h1
  obtain ⟨t2, rfl⟩ := in_str h2
  replace N := News.add N (hs1 _ hm)
  refine wpAny_call ?_
  k_dflt ktr_enter
  all_goals (try (with_reducible rename News _ _ _ _ => nL9; refine led_let nL9 ?_; clear nL9; intro Y0 N9))
  k_steps
  refine hret _ _ _ _ (by k_asm) (by k_asm) ⟨by tb_start, ?_⟩
  dsimp only [tyD, parts, List.map]
  (repeat (with_reducible rename _ ∧ _ => hc; (have hcl := hc.1); (have hcr := hc.2); clear hc))
  tb_rel
theorem parts_tup (t u : Ty) : PartsOk w loose mean mg mb (.tup t u) := by
  intro v D news hv hs1
  unfold CallOk
  intro dp un gd cn cs a ccd cl outer A₀ base h₀ L m s Q E B F X N T hk hdp hun hret
  obtain ⟨b, w1, w2, n, rfl, hm, h1, h2⟩ := in_tup2 hv
  obtain ⟨t1, rfl⟩ := in_str h1
  replace N := News.add N (hs1 _ hm)
  refine wpAny_call ?_
  k_dflt ktr_enter
  all_goals (try (with_reducible rename News _ _ _ _ => nL9; refine led_let nL9 ?_; clear nL9; intro Y0 N9))
  k_steps
  refine hret _ _ _ _ (by k_asm) (by k_asm) ⟨by tb_start, ?_⟩
  dsimp only [tyD, parts, List.map]
  (repeat (with_reducible rename _ ∧ _ => hc; (have hcl := hc.1); (have hcr := hc.2); clear hc))
  tb_rel
theorem parts_ok : ∀ t, PartsOk w loose mean mg mb t
  | .int => parts_int
  | .bool => parts_bool
  | .never => parts_never
  | .par x => parts_par x
  | .ref r q t => parts_ref r q t
  | .box t => parts_box t
  | .arr t => parts_arr t
  | .adt r t => parts_adt r t
  | .tup t u => parts_tup t u
end
end Mine
namespace Mine
example : True := by
  w_top off
  k_with_none
  trivial

section
variable {w : World} {loose : List Str} {mean : ExcName → Option Value} {mg mb : Str → Option Value}

def RebuiltOk (w : World) (loose : List Str) (mean : ExcName → Option Value) (mg mb : Str → Option Value) (t : Ty) (us : List Ty) : Prop :=
  ∀ v D₁ D₂ news pl ys k, Dt D₁ v (tyD t) → (pl, listOf (List.toArray ys) k) ∈ news → Dts D₂ ys (us.map tyD) → us.length = (parts t).length → (∀ p ∈ D₁, p ∈ news) → (∀ p ∈ D₂, p ∈ news) →
    CallOk PySem.Challenge.rw_xm0591_01.row.prog w (hd.heap_1 w.params) topProg loose mean mg mb 2 35 [v, .ref pl] news (PPost (D₁ ++ D₂) news (tyD (rebuild t us)))
example : True := by
  k_with_none
  k_with "w_tb_rel" =>
   (first
   | exact DatP.none
   | exact DatP.bool _
   | exact DatP.int _ _
   | exact DatP.str _ _
   | exact DatPs.nil
   | (refine DatPs.cons ?_ ?_ <;> tb_rel)
   | (refine datP_in (by assumption) ?_; kqd_sub)
   | (refine datP_gd (by k_mem) (by first | exact gd_had (by k_mem) (by assumption) | exact gd_one (by k_mem) (by assumption) (by tb_start)) ?_; tb_rel)
   | fail "tb_rel: no datum")
  k_with "subscriptTail" =>
   ((k_here; (with_reducible show wpAny _ _ (subscriptTail _ _ (Value.ref _) (Value.int _ _)) _ _ _); k_dflt (first
   | (refine' my_tup ?Z0 ?Z1 ?Z2 ?Z3 ?Z4 ?Z5 ?_; (case Z0 => k_asm); (case Z1 => k_mem); (case Z2 | Z3 => decide); (case Z4 | Z5 => rfl); k_whole)
   | (refine' my_lst ?Z0 ?Z1 ?Z2 ?Z3 ?Z5 ?_; (case Z0 => k_asm); (case Z1 => k_mem); (case Z2 | Z3 => decide); (case Z5 => rfl); k_whole))))
  k_with "w_k_room" =>
   (ktr_room)
  k_with "execs cons" =>
   (k_here; (try k_gentoks); (first | ((fail_if_success (fail_if_success k_fold)); (with_reducible refine' ec_let2 ?_); intro q0 e0 K0) | ((with_reducible refine' ec_let ?_); intro K0)); (all_goals (try ((with_reducible rename Fr _ _ _ (fun _ => ite _ _ _) => f9); refine fr_let f9 ?_; clear f9; intro m0 F0))); (try dsimp only))
  k_with "eval Constant str" =>
   (with_reducible refine' con_str ?_)
  k_with "eval Constant int" =>
   (with_reducible refine' con_int ?_)
  k_with "subscriptTail Name Constant ref int" =>
   (k_extra "subscriptTail")
  k_with "callWith ref" =>
   (k_here; (with_reducible show wpAny _ _ (callWith _ (Value.ref _) _ (backTo _ (starEach (_ :: _) _)) []) _ _ _); k_dflt (refine' callWith_K ?zc1 ?zc2 ?_; (case zc1 => with_reducible assumption); (case zc2 => k_is); k_whole))
  k_with "callWith ref" =>
   (k_here; (with_reducible show wpAny _ _ (callWith _ (Value.ref _) _ (backTo _ (starEach [] _)) []) _ _ _); k_dflt (refine' callWith_K0 ?zc1 ?zc2 ?_; (case zc1 => exact Frag.In.keeps (by with_reducible assumption) (Fr.keep (by k_asm))); (case zc2 => k_is); k_whole))
  k_with "eval Name" =>
   (k_here; k_dflt (first
   | (refine' nameX_L ?zn1 ?zn2 ?_ ?zn3 ?zn4; (case zn3 | zn4 => rfl); (case zn1 => k_asm); (case zn2 => rfl); k_whole)
   | (refine' nameX_K ?zn1 ?zn2 ?zn3 ?zn4 ?_ ?zn5 ?zn6; (case zn5 | zn6 => rfl); (case zn1 | zn2 | zn3 => k_asm); (case zn4 => k_is); k_whole)
   | (refine' nameX_B ?zn1 ?zn2 ?zn3 ?zn4 ?zn5 ?zn6 ?_ ?zn7 ?zn8; (case zn7 | zn8 => rfl); (case zn1 | zn2 | zn3 => k_asm); (case zn4 => k_is); (case zn5 => boot_fast); (case zn6 => decide); k_whole)
   | fail))
  k_with "newTuple" =>
   (k_here; k_dflt (refine' tup_let ?z30 ?z4 ?z0 ?_; (case z30 | z4 => k_asm); (case z0 => kmk_size)); intro D' h' e' Y' F' N' l1; (try k_sweep))
  k_with "newList" =>
   (k_here; k_dflt (refine' lst_let ?z30 ?z4 ?z0 ?_; (case z30 | z4 => k_asm); (case z0 => kmk_size)); intro D' h' e' Y' F' N' l1; (try k_sweep))
  k_with "binaryOp Add ref ref" =>
   (k_here; (with_reducible show wpAny _ _ (binaryOp Operator.Add (Value.ref _) (Value.ref _)) _ _ _); k_dflt (refine' kde_addT ?z1 ?z27 ?z25 ?z2 ?z18 ?z23 ?z21 ?z24 ?_; (case z1 | z27 => k_asm); (case z25 | z2 => exact News.isTup (by k_asm) (by k_mem)); (case z18 | z23 => exact List.cons_ne_nil _ _); (case z21 => exact Nat.le_of_ble_eq_true rfl); (case z24 => kun_lit)); intro D' h' F' N' l1; (replace l1 := allLt_of l1); (try k_sweep))
  k_with "k_up" =>
   (first
   | with_reducible exact hp
   | ((with_reducible refine List.mem_cons_of_mem _ ?_); k_extra "k_up")
   | ((with_reducible refine List.mem_append_left _ ?_); k_extra "k_up")
   | ((with_reducible refine List.mem_append_right _ ?_); k_extra "k_up")
   | fail)
  k_with "w_tb_start" =>
   (first
   | exact sub_nil
   | (intro p hp; k_extra "k_up")
   | (refine' sub_trans ?z28 ?z13; (case z28 => with_reducible assumption); (case z13 => (intro p hp; k_extra "k_up")))
   | ((with_reducible refine sub_app ?_ ?_) <;> tb_start)
   | ((with_reducible refine sub_cons ?_ ?_); k_mem; tb_start)
   | fail)
  k_with "w_k_mem" =>
   (focus ((repeat (with_reducible first | exact List.mem_cons_self | refine List.mem_cons_of_mem _ ?_ | refine List.mem_append_left _ ?_)); done))
  k_with "w_kqd_sub" =>
   (with_reducible first
   | exact gdJ_nil
   | (refine' gdJ_app ?_ ?_ <;> kqd_sub)
   | (refine' gd_app ?_ ?_ <;> kqd_sub)
   | (refine' gdJ_new ?z32 ?z12 ?z22 ?z9; (case z12 | z22 => assumption); (case z32 | z9 => k_dflt tb_start))
   | (refine' gd_new ?z32 ?z12 ?z9; (case z12 => assumption); (case z32 | z9 => k_dflt tb_start))
   | (refine' gd_cons0 ?z15 ?z10; (case z15 => first | (refine' gd_had ?z31 ?z38; (case z38 => assumption); (case z31 => k_dflt k_mem)) | (refine' gd_one ?z31 ?z38 ?z37; (case z38 => assumption); (case z31 => k_dflt k_mem); (case z37 => k_dflt tb_start))); (case z10 => kqd_sub))
   | (refine' gdJ_old ?z32 ?z9; (case z9 | z32 => k_dflt tb_start))
   | (refine' gd_old ?z32 ?z9; (case z9 | z32 => k_dflt tb_start))
   | fail)
  k_with "w_tb_rel" =>
   (with_reducible first
   | exact DatP.none
   | exact DatP.bool _
   | exact DatP.int _ _
   | exact DatP.str _ _
   | exact DatPs.nil
   | (refine' DatPs.cons ?_ ?_ <;> first | ((with_reducible show DatP _ _ _); tb_rel) | ((with_reducible show DatPs _ _ _); tb_rel) | ((with_reducible show Dat); skip) | ((with_reducible show List Dat); skip))
   | (refine' datP_in ?z5 ?z37; (case z5 => assumption); (case z37 => k_dflt kqd_sub))
   | (refine' datP_gdJ ?z31 ?z34 ?z35; (case z31 => k_dflt k_mem); (case z34 => first | (refine' gdJ_had ?z31 ?z38; (case z38 => assumption); (case z31 => k_dflt k_mem)) | (refine' gdJ_one ?z31 ?z38 ?z37 ?z19; (case z38 => assumption); (case z31 => k_dflt k_mem); (case z37 => k_dflt tb_start); (case z19 => k_dflt (k_extra "k_ltA")))); (case z35 => tb_rel))
   | (refine' datP_gd ?z31 ?z34 ?z35; (case z31 => k_dflt k_mem); (case z34 => first | (refine' gd_had ?z31 ?z38; (case z38 => assumption); (case z31 => k_dflt k_mem)) | (refine' gd_one ?z31 ?z38 ?z37; (case z38 => assumption); (case z31 => k_dflt k_mem); (case z37 => k_dflt tb_start))); (case z35 => tb_rel))
   | fail)
  k_with "w_lcg_off" =>
   (with_reducible first
   | assumption
   | exact off3_nil
   | (refine' off3_app ?_ ?_ <;> lcg_off)
   | (refine' off3_any ?z40 ?z14 ?z3; (case z40 => assumption); (case z14 => k_dflt k_mem); (case z3 => lcg_off))
   | (refine' off3_cons ⟨?z42, ?z16, ?z17⟩ ?z3; (case z42 | z16 | z17 => k_dflt k_ne); (case z3 => lcg_off))
   | (refine' off3_above ?z40 ?z42 ?z16 ?z17; (case z40 => assumption); (case z42 | z16 | z17 => k_dflt k_mem))
   | (refine' off3_sub ?z40 ?z3; (case z40 => assumption); (case z3 => k_dflt tb_start))
   | fail)
  k_with "w_ktr_room" =>
   ((try simp only [depth_under_make, depth_under_kw, depth_in1, depth_deeper, depth_caller]); (try dsimp only [ktrTop]); with_reducible first
   | (refine' room2 ?z11 ?z20; (case z11 => assumption); (case z20 => k_dflt (first | exact Nat.le_of_ble_eq_true rfl | omega)))
   | (refine' room1 ?z11 ?z20; (case z11 => assumption); (case z20 => k_dflt (first | exact Nat.le_of_ble_eq_true rfl | omega)))
   | (refine' room0 ?z11; (case z11 => assumption))
   | fail)
  k_with "w_ktr_units" =>
   ((try simp only [units_in1, units_deeper, Around.mark_units, units_caller]); (try dsimp only [ktrTop]); with_reducible first
   | (refine' unit2 ?z11 ?z20; (case z11 => assumption); (case z20 => k_dflt (first | exact Nat.le_of_ble_eq_true rfl | omega)))
   | (refine' unit1 ?z11 ?z20; (case z11 => assumption); (case z20 => k_dflt (first | exact Nat.le_of_ble_eq_true rfl | omega)))
   | fail)
  k_with "k_ltA" =>
   (first
   | (refine' lt_all ?z6 ?z36; (case z6 => with_reducible assumption); (case z36 => k_mem))
   | (refine ltN ?_; omega))
  k_with "w_kqd_all" =>
   (with_reducible first
   | assumption
   | exact off_nil
   | (refine' off_cons ?z29 ?z39; (case z29 => k_dflt k_ne); (case z39 => kqd_all))
   | (refine' off_app ?_ ?_ <;> kqd_all)
   | (refine' off_sub ?z8 ?z7; (case z8 => assumption); (case z7 => k_dflt tb_start))
   | (refine' off_above ?z8 ?z7; (case z8 => assumption); (case z7 => k_dflt k_mem))
   | (refine' off_lt ?z8 ?z33 ?z7; (case z8 => assumption); (case z33 => k_dflt ((show (_ : Nat) ≤ _); omega)); (case z7 => k_dflt tb_start))
   | (refine' off_o3a ?z8 ?z7; (case z8 => assumption); (case z7 => k_dflt tb_start))
   | (refine' off_o3b ?z8 ?z7; (case z8 => assumption); (case z7 => k_dflt tb_start))
   | (refine' off_o3c ?z8 ?z7; (case z8 => assumption); (case z7 => k_dflt tb_start))
   | (refine' off_o1 ?z8 ?z7; (case z8 => assumption); (case z7 => k_dflt tb_start))
   | fail)
  k_with "w_k_ne" =>
   (first
   | with_reducible assumption
   | (refine' ne_all ?z6 ?z36; (case z6 => with_reducible assumption); (case z36 => k_mem))
   | (refine' ne_all2 ?z6 ?z36; (case z6 => with_reducible assumption); (case z36 => k_mem))
   | (refine' Ne.symm ?z6; (case z6 => with_reducible assumption))
   | (refine' ne_o3a ?z6 ?z36; (case z6 => with_reducible assumption); (case z36 => k_mem))
   | (refine' ne_o3b ?z6 ?z36; (case z6 => with_reducible assumption); (case z36 => k_mem))
   | (refine' ne_o3c ?z6 ?z36; (case z6 => with_reducible assumption); (case z36 => k_mem))
   | (refine' ne_o3a' ?z6 ?z36; (case z6 => with_reducible assumption); (case z36 => k_mem))
   | (refine' ne_o3b' ?z6 ?z36; (case z6 => with_reducible assumption); (case z36 => k_mem))
   | (refine' ne_o3c' ?z6 ?z36; (case z6 => with_reducible assumption); (case z36 => k_mem))
   | (refine' ne_o1 ?z6 ?z36; (case z6 => with_reducible assumption); (case z36 => k_mem))
   | (refine' ne_o1' ?z6 ?z36; (case z6 => with_reducible assumption); (case z36 => k_mem))
   | (refine' ne_of_lt' ?z6; (case z6 => with_reducible assumption))
   | (refine' ne_of_gt' ?z6; (case z6 => with_reducible assumption))
   | (refine' ne_tr ?z41 ?z6 ?z36; (case z41 | z6 => with_reducible assumption); (case z36 => k_mem))
   | (refine' ne_trs ?z41 ?z6 ?z36; (case z41 | z6 => with_reducible assumption); (case z36 => k_mem))
   | (refine' ne_tr2 ?z41 ?z26 ?z6 ?z36; (case z41 | z26 | z6 => with_reducible assumption); (case z36 => k_mem))
   | (refine' ne_tr2s ?z41 ?z26 ?z6 ?z36; (case z41 | z26 | z6 => with_reducible assumption); (case z36 => k_mem))
   | (with_reducible refine' ne_up1 ?z6 ?z36; (case z6 => assumption); (case z36 => k_dflt k_mem))
   | (with_reducible refine' ne_up2 ?z6 ?z36; (case z6 => assumption); (case z36 => k_dflt k_mem))
   | (with_reducible refine' ne_up3 ?z6 ?z36; (case z6 => assumption); (case z36 => k_dflt k_mem))
   | (with_reducible refine' ne_dn1 ?z6 ?z36; (case z6 => assumption); (case z36 => k_dflt k_mem))
   | (with_reducible refine' ne_dn2 ?z6 ?z36; (case z6 => assumption); (case z36 => k_dflt k_mem))
   | (with_reducible refine' ne_dn3 ?z6 ?z36; (case z6 => assumption); (case z36 => k_dflt k_mem))
   | fail)
  k_with "pack" =>
   skip
  trivial
theorem rebuilt_int  (us : List Ty) : RebuiltOk w loose mean mg mb .int us := by
  intro v D₁ D₂ news pl ys k hv hpl hp hl hs1 hs2
  unfold CallOk
  intro dp un gd cn cs a ccd cl outer A₀ base h₀ L m s Q E B F X N T hk hdp hun hret
  obtain ⟨b, w1, w2, n, rfl, hm, h1, h2⟩ := in_tup2 hv
  obtain ⟨t1, rfl⟩ := in_str h1
  obtain ⟨t2, rfl⟩ := in_str h2
  have hy : ys = [] := by cases us with
    | nil => exact all_nil hp
    | cons _ _ => simp [parts] at hl
  have hu : us = [] := by cases us with
    | nil => rfl
    | cons _ _ => simp [parts] at hl
  subst hy hu
  replace N := News.add (News.add N (hs1 _ hm)) (.tail _ hpl)
  refine wpAny_call ?_
  k_dflt ktr_enter
  all_goals (try (with_reducible rename News _ _ _ _ => nL9; refine led_let nL9 ?_; clear nL9; intro Y0 N9))
  k_steps
  refine hret _ _ _ _ (by k_asm) (by k_asm) ⟨by tb_start, ?_⟩
  dsimp only [tyD, rebuild]
  (repeat (with_reducible rename _ ∧ _ => hc; (have hcl := hc.1); (have hcr := hc.2); clear hc))
  tb_rel
theorem rebuilt_bool  (us : List Ty) : RebuiltOk w loose mean mg mb .bool us := by
  intro v D₁ D₂ news pl ys k hv hpl hp hl hs1 hs2
  unfold CallOk
  intro dp un gd cn cs a ccd cl outer A₀ base h₀ L m s Q E B F X N T hk hdp hun hret
  obtain ⟨b, w1, n, rfl, hm, h1⟩ := in_tup1 hv
  obtain ⟨t1, rfl⟩ := in_str h1
  have hy : ys = [] := by cases us with
    | nil => exact all_nil hp
    | cons _ _ => simp [parts] at hl
  have hu : us = [] := by cases us with
    | nil => rfl
    | cons _ _ => simp [parts] at hl
  subst hy hu
  replace N := News.add (News.add N (hs1 _ hm)) (.tail _ hpl)
  refine wpAny_call ?_
  k_dflt ktr_enter
  all_goals (try (with_reducible rename News _ _ _ _ => nL9; refine led_let nL9 ?_; clear nL9; intro Y0 N9))
  k_steps
  refine hret _ _ _ _ (by k_asm) (by k_asm) ⟨by tb_start, ?_⟩
  dsimp only [tyD, rebuild]
  (repeat (with_reducible rename _ ∧ _ => hc; (have hcl := hc.1); (have hcr := hc.2); clear hc))
  tb_rel
theorem rebuilt_never  (us : List Ty) : RebuiltOk w loose mean mg mb .never us := by
  intro v D₁ D₂ news pl ys k hv hpl hp hl hs1 hs2
  unfold CallOk
  intro dp un gd cn cs a ccd cl outer A₀ base h₀ L m s Q E B F X N T hk hdp hun hret
  obtain ⟨b, w1, n, rfl, hm, h1⟩ := in_tup1 hv
  obtain ⟨t1, rfl⟩ := in_str h1
  have hy : ys = [] := by cases us with
    | nil => exact all_nil hp
    | cons _ _ => simp [parts] at hl
  have hu : us = [] := by cases us with
    | nil => rfl
    | cons _ _ => simp [parts] at hl
  subst hy hu
  replace N := News.add (News.add N (hs1 _ hm)) (.tail _ hpl)
  refine wpAny_call ?_
  k_dflt ktr_enter
  all_goals (try (with_reducible rename News _ _ _ _ => nL9; refine led_let nL9 ?_; clear nL9; intro Y0 N9))
  k_steps
  refine hret _ _ _ _ (by k_asm) (by k_asm) ⟨by tb_start, ?_⟩
  dsimp only [tyD, rebuild]
  (repeat (with_reducible rename _ ∧ _ => hc; (have hcl := hc.1); (have hcr := hc.2); clear hc))
  tb_rel
theorem rebuilt_par (x : Pm) (us : List Ty) : RebuiltOk w loose mean mg mb (.par x) us := by
  intro v D₁ D₂ news pl ys k hv hpl hp hl hs1 hs2
  unfold CallOk
  intro dp un gd cn cs a ccd cl outer A₀ base h₀ L m s Q E B F X N T hk hdp hun hret
  obtain ⟨b, w1, w2, n, rfl, hm, h1, h2⟩ := in_tup2 hv
  obtain ⟨t1, rfl⟩ := in_str h1
  obtain ⟨t2, rfl⟩ := in_str h2
  have hy : ys = [] := by cases us with
    | nil => exact all_nil hp
    | cons _ _ => simp [parts] at hl
  have hu : us = [] := by cases us with
    | nil => rfl
    | cons _ _ => simp [parts] at hl
  subst hy hu
  replace N := News.add (News.add N (hs1 _ hm)) (.tail _ hpl)
  refine wpAny_call ?_
  k_dflt ktr_enter
  all_goals (try (with_reducible rename News _ _ _ _ => nL9; refine led_let nL9 ?_; clear nL9; intro Y0 N9))
  k_steps
  refine hret _ _ _ _ (by k_asm) (by k_asm) ⟨by tb_start, ?_⟩
  dsimp only [tyD, rebuild]
  (repeat (with_reducible rename _ ∧ _ => hc; (have hcl := hc.1); (have hcr := hc.2); clear hc))
  tb_rel
theorem rebuilt_ref (r : Rg) (q : Bool) (t : Ty) (us : List Ty) : RebuiltOk w loose mean mg mb (.ref r q t) us := by
  intro v D₁ D₂ news pl ys k hv hpl hp hl hs1 hs2
  unfold CallOk
  intro dp un gd cn cs a ccd cl outer A₀ base h₀ L m s Q E B F X N T hk hdp hun hret
  obtain ⟨b, w1, w2, w3, w4, n, rfl, hm, h1, h2, h3, h4⟩ := in_tup4 hv
  obtain ⟨t1, rfl⟩ := in_str h1
  obtain rfl := in_bool h3
  obtain ⟨u1, rfl⟩ : ∃ u, us = [u] := by
    cases us with
    | nil => simp [parts] at hl
    | cons u us => cases us with
      | nil => exact ⟨u, rfl⟩
      | cons _ _ => simp [parts] at hl
  obtain ⟨y1, ys', rfl, hy1, hp⟩ := all_cons hp
  obtain rfl := all_nil hp
  replace N := News.add (News.add N (hs1 _ hm)) (.tail _ hpl)
  refine wpAny_call ?_
  k_dflt ktr_enter
  all_goals (try (with_reducible rename News _ _ _ _ => nL9; refine led_let nL9 ?_; clear nL9; intro Y0 N9))
  k_steps
  refine hret _ _ _ _ (by k_asm) (by k_asm) ⟨by tb_start, ?_⟩
  dsimp only [tyD, rebuild]
  (repeat (with_reducible rename _ ∧ _ => hc; (have hcl := hc.1); (have hcr := hc.2); clear hc))
  tb_rel
theorem rebuilt_box (t : Ty) (us : List Ty) : RebuiltOk w loose mean mg mb (.box t) us := by
  intro v D₁ D₂ news pl ys k hv hpl hp hl hs1 hs2
  unfold CallOk
  intro dp un gd cn cs a ccd cl outer A₀ base h₀ L m s Q E B F X N T hk hdp hun hret
  obtain ⟨b, w1, w2, n, rfl, hm, h1, h2⟩ := in_tup2 hv
  obtain ⟨t1, rfl⟩ := in_str h1
  obtain ⟨u1, rfl⟩ : ∃ u, us = [u] := by
    cases us with
    | nil => simp [parts] at hl
    | cons u us => cases us with
      | nil => exact ⟨u, rfl⟩
      | cons _ _ => simp [parts] at hl
  obtain ⟨y1, ys', rfl, hy1, hp⟩ := all_cons hp
  obtain rfl := all_nil hp
  replace N := News.add (News.add N (hs1 _ hm)) (.tail _ hpl)
  refine wpAny_call ?_
  k_dflt ktr_enter
  all_goals (try (with_reducible rename News _ _ _ _ => nL9; refine led_let nL9 ?_; clear nL9; intro Y0 N9))
  k_steps
  refine hret _ _ _ _ (by k_asm) (by k_asm) ⟨by tb_start, ?_⟩
  dsimp only [tyD, rebuild]
  (repeat (with_reducible rename _ ∧ _ => hc; (have hcl := hc.1); (have hcr := hc.2); clear hc))
  tb_rel
theorem rebuilt_arr (t : Ty) (us : List Ty) : RebuiltOk w loose mean mg mb (.arr t) us := by
  intro v D₁ D₂ news pl ys k hv hpl hp hl hs1 hs2
  unfold CallOk
  intro dp un gd cn cs a ccd cl outer A₀ base h₀ L m s Q E B F X N T hk hdp hun hret
  obtain ⟨b, w1, w2, w3, n, rfl, hm, h1, h2, h3⟩ := in_tup3 hv
  obtain ⟨t1, rfl⟩ := in_str h1
  obtain ⟨t3, rfl⟩ := in_int h3
  obtain ⟨u1, rfl⟩ : ∃ u, us = [u] := by
    cases us with
    | nil => simp [parts] at hl
    | cons u us => cases us with
      | nil => exact ⟨u, rfl⟩
      | cons _ _ => simp [parts] at hl
  obtain ⟨y1, ys', rfl, hy1, hp⟩ := all_cons hp
  obtain rfl := all_nil hp
  replace N := News.add (News.add N (hs1 _ hm)) (.tail _ hpl)
  refine wpAny_call ?_
  k_dflt ktr_enter
  all_goals (try (with_reducible rename News _ _ _ _ => nL9; refine led_let nL9 ?_; clear nL9; intro Y0 N9))
  k_steps
  refine hret _ _ _ _ (by k_asm) (by k_asm) ⟨by tb_start, ?_⟩
  dsimp only [tyD, rebuild]
  (repeat (with_reducible rename _ ∧ _ => hc; (have hcl := hc.1); (have hcr := hc.2); clear hc))
  tb_rel
theorem rebuilt_adt (r : Rg) (t : Ty) (us : List Ty) : RebuiltOk w loose mean mg mb (.adt r t) us := by
  intro v D₁ D₂ news pl ys k hv hpl hp hl hs1 hs2
  unfold CallOk
  intro dp un gd cn cs a ccd cl outer A₀ base h₀ L m s Q E B F X N T hk hdp hun hret
  obtain ⟨b, w1, w2, w3, w4, n, rfl, hm, h1, h2, h3, h4⟩ := in_tup4 hv
  obtain ⟨t1, rfl⟩ := in_str h1
  obtain ⟨t2, rfl⟩ := in_str h2
  obtain ⟨u1, rfl⟩ : ∃ u, us = [u] := by
    cases us with
    | nil => simp [parts] at hl
    | cons u us => cases us with
      | nil => exact ⟨u, rfl⟩
      | cons _ _ => simp [parts] at hl
  obtain ⟨y1, ys', rfl, hy1, hp⟩ := all_cons hp
  obtain rfl := all_nil hp
  replace N := News.add (News.add N (hs1 _ hm)) (.tail _ hpl)
  refine wpAny_call ?_
  k_dflt ktr_enter
  all_goals (try (with_reducible rename News _ _ _ _ => nL9; refine led_let nL9 ?_; clear nL9; intro Y0 N9))
  k_steps
  refine hret _ _ _ _ (by k_asm) (by k_asm) ⟨by tb_start, ?_⟩
  dsimp only [tyD, rebuild]
  (repeat (with_reducible rename _ ∧ _ => hc; (have hcl := hc.1); (have hcr := hc.2); clear hc))
  tb_rel
theorem rebuilt_tup (t u : Ty) (us : List Ty) : RebuiltOk w loose mean mg mb (.tup t u) us := by
  intro v D₁ D₂ news pl ys k hv hpl hp hl hs1 hs2
  unfold CallOk
  intro dp un gd cn cs a ccd cl outer A₀ base h₀ L m s Q E B F X N T hk hdp hun hret
  obtain ⟨b, w1, w2, n, rfl, hm, h1, h2⟩ := in_tup2 hv
  obtain ⟨t1, rfl⟩ := in_str h1
  obtain ⟨u1, u2, rfl⟩ : ∃ u u', us = [u, u'] := by
    cases us with
    | nil => simp [parts] at hl
    | cons u us => cases us with
      | nil => simp [parts] at hl
      | cons u' us => cases us with
        | nil => exact ⟨u, u', rfl⟩
        | cons _ _ => simp [parts] at hl
  obtain ⟨y1, ys', rfl, hy1, hp⟩ := all_cons hp
  obtain ⟨y2, ys'', rfl, hy2, hp⟩ := all_cons hp
  obtain rfl := all_nil hp
  replace N := News.add (News.add N (hs1 _ hm)) (.tail _ hpl)
  refine wpAny_call ?_
  k_dflt ktr_enter
  all_goals (try (with_reducible rename News _ _ _ _ => nL9; refine led_let nL9 ?_; clear nL9; intro Y0 N9))
  k_steps
  refine hret _ _ _ _ (by k_asm) (by k_asm) ⟨by tb_start, ?_⟩
  dsimp only [tyD, rebuild]
  (repeat (with_reducible rename _ ∧ _ => hc; (have hcl := hc.1); (have hcr := hc.2); clear hc))
  tb_rel
theorem rebuilt_ok : ∀ t us, RebuiltOk w loose mean mg mb t us
  | .int, us => rebuilt_int  us
  | .bool, us => rebuilt_bool  us
  | .never, us => rebuilt_never  us
  | .par x, us => rebuilt_par x us
  | .ref r q t, us => rebuilt_ref r q t us
  | .box t, us => rebuilt_box t us
  | .arr t, us => rebuilt_arr t us
  | .adt r t, us => rebuilt_adt r t us
  | .tup t u, us => rebuilt_tup t u us
end
end Mine
namespace Mine
example : True := by
  w_top off
  k_with_none
  trivial

section
variable {w : World} {loose : List Str} {mean : ExcName → Option Value} {mg mb : Str → Option Value}
theorem parts_use0 {t : Ty} {news D : List (Addr × Obj)} {v : Value} {dp un : Nat} {gd : Option (List Code)} {cn : Str} {cs : Scope} {a : Addr} {ccd : Value} {cl : List (Str × Addr)} {outer : List Env} {A₀ : Around} {base h₀ : Heap} {L : Addr} {m : Str → Option Value} {hS : Heap} {gS : Array GenState} {dS : Drawn} {tS : Nat} {oS : OsState} {Q E : Value → Shared → Prop} (hv : Dt D v (tyD t)) (ht : parts t = []) (s1 : ∀ p ∈ D, p ∈ news)
  (B : Below A₀ base outer h₀) (F : Fr h₀ L hS m) (X : (hd.heap_1 w.params).In h₀) (N : News h₀ L hS news) (T : Top topProg loose mean mg mb h₀) (hk : cs.kind = .function) (hr : dp + 2 < recursionLimit) (hu : un + 8 * 2 < cLine)
  (ret : ∀ ax k tl h' tk', Fr h₀ L h' m → News h₀ L h' ((ax, tupO [] k) :: (news ++ tl)) → Above news tl → Q (.ref ax) ⟨h', gS, dS, tk', oS⟩) : wpAny (model PySem.Challenge.rw_xm0591_01.row.prog w) (ktrTop dp un gd cn cs L a ccd cl outer) (call (.ref 28) [v]) Q E ⟨hS, gS, dS, tS, oS⟩ :=
  pure_use B F X N T hk (parts_ok t v D news hv s1) hr hu fun r tl h' tk' F' N' ab dt => by
    rw [ht] at dt
    obtain ⟨ax, k, rfl, hm⟩ := in_tup0 dt
    exact ret ax k tl h' tk' F' (News.add N' ((List.mem_append.mp hm).elim (fun h => List.mem_append.mpr (.inl (s1 _ h))) fun h => List.mem_append.mpr (.inr h))) ab
theorem parts_use1 {t t1 : Ty} {news D : List (Addr × Obj)} {v : Value} {dp un : Nat} {gd : Option (List Code)} {cn : Str} {cs : Scope} {a : Addr} {ccd : Value} {cl : List (Str × Addr)} {outer : List Env} {A₀ : Around} {base h₀ : Heap} {L : Addr} {m : Str → Option Value} {hS : Heap} {gS : Array GenState} {dS : Drawn} {tS : Nat} {oS : OsState} {Q E : Value → Shared → Prop} (hv : Dt D v (tyD t)) (ht : parts t = [t1]) (s1 : ∀ p ∈ D, p ∈ news)
  (B : Below A₀ base outer h₀) (F : Fr h₀ L hS m) (X : (hd.heap_1 w.params).In h₀) (N : News h₀ L hS news) (T : Top topProg loose mean mg mb h₀) (hk : cs.kind = .function) (hr : dp + 2 < recursionLimit) (hu : un + 8 * 2 < cLine)
  (ret : ∀ ax v1 k tl h' tk', Fr h₀ L h' m → News h₀ L h' ((ax, tupO [v1] k) :: (news ++ tl)) → Above news tl → Dt (D ++ tl) v1 (tyD t1) → Q (.ref ax) ⟨h', gS, dS, tk', oS⟩) : wpAny (model PySem.Challenge.rw_xm0591_01.row.prog w) (ktrTop dp un gd cn cs L a ccd cl outer) (call (.ref 28) [v]) Q E ⟨hS, gS, dS, tS, oS⟩ :=
  pure_use B F X N T hk (parts_ok t v D news hv s1) hr hu fun r tl h' tk' F' N' ab dt => by
    rw [ht] at dt
    obtain ⟨ax, v1, k, rfl, hm, h1⟩ := in_tup1 dt
    exact ret ax v1 k tl h' tk' F' (News.add N' ((List.mem_append.mp hm).elim (fun h => List.mem_append.mpr (.inl (s1 _ h))) fun h => List.mem_append.mpr (.inr h))) ab h1
theorem parts_use2 {t t1 t2 : Ty} {news D : List (Addr × Obj)} {v : Value} {dp un : Nat} {gd : Option (List Code)} {cn : Str} {cs : Scope} {a : Addr} {ccd : Value} {cl : List (Str × Addr)} {outer : List Env} {A₀ : Around} {base h₀ : Heap} {L : Addr} {m : Str → Option Value} {hS : Heap} {gS : Array GenState} {dS : Drawn} {tS : Nat} {oS : OsState} {Q E : Value → Shared → Prop} (hv : Dt D v (tyD t)) (ht : parts t = [t1, t2]) (s1 : ∀ p ∈ D, p ∈ news)
  (B : Below A₀ base outer h₀) (F : Fr h₀ L hS m) (X : (hd.heap_1 w.params).In h₀) (N : News h₀ L hS news) (T : Top topProg loose mean mg mb h₀) (hk : cs.kind = .function) (hr : dp + 2 < recursionLimit) (hu : un + 8 * 2 < cLine)
  (ret : ∀ ax v1 v2 k tl h' tk', Fr h₀ L h' m → News h₀ L h' ((ax, tupO [v1, v2] k) :: (news ++ tl)) → Above news tl → Dt (D ++ tl) v1 (tyD t1) → Dt (D ++ tl) v2 (tyD t2) → Q (.ref ax) ⟨h', gS, dS, tk', oS⟩) : wpAny (model PySem.Challenge.rw_xm0591_01.row.prog w) (ktrTop dp un gd cn cs L a ccd cl outer) (call (.ref 28) [v]) Q E ⟨hS, gS, dS, tS, oS⟩ :=
  pure_use B F X N T hk (parts_ok t v D news hv s1) hr hu fun r tl h' tk' F' N' ab dt => by
    rw [ht] at dt
    obtain ⟨ax, v1, v2, k, rfl, hm, h1, h2⟩ := in_tup2 dt
    exact ret ax v1 v2 k tl h' tk' F' (News.add N' ((List.mem_append.mp hm).elim (fun h => List.mem_append.mpr (.inl (s1 _ h))) fun h => List.mem_append.mpr (.inr h))) ab h1 h2
theorem rebuilt_use0 {t : Ty} {news D : List (Addr × Obj)} {v : Value} {pl : Addr} {k : Nat} {dp un : Nat} {gd : Option (List Code)} {cn : Str} {cs : Scope} {a : Addr} {ccd : Value} {cl : List (Str × Addr)} {outer : List Env} {A₀ : Around} {base h₀ : Heap} {L : Addr} {m : Str → Option Value} {hS : Heap} {gS : Array GenState} {dS : Drawn} {tS : Nat} {oS : OsState} {Q E : Value → Shared → Prop} (hv : Dt D v (tyD t)) (ht : parts t = []) (hpl : (pl, listOf (List.toArray []) k) ∈ news) (s1 : ∀ p ∈ D, p ∈ news)
  (B : Below A₀ base outer h₀) (F : Fr h₀ L hS m) (X : (hd.heap_1 w.params).In h₀) (N : News h₀ L hS news) (T : Top topProg loose mean mg mb h₀) (hk : cs.kind = .function) (hr : dp + 2 < recursionLimit) (hu : un + 8 * 2 < cLine)
  (ret : ∀ r tl h' tk', Fr h₀ L h' m → News h₀ L h' (news ++ tl) → Above news tl → Dt (D ++ tl) r (tyD (rebuild t [])) → Q (r) ⟨h', gS, dS, tk', oS⟩) : wpAny (model PySem.Challenge.rw_xm0591_01.row.prog w) (ktrTop dp un gd cn cs L a ccd cl outer) (call (.ref 35) [v, .ref pl]) Q E ⟨hS, gS, dS, tS, oS⟩ :=
  pure_use B F X N T hk (rebuilt_ok t [] v D [] news pl [] k hv hpl .nil (by rw [ht]) s1 sub_nil) hr hu fun r tl h' tk' F' N' ab dt => ret r tl h' tk' F' N' ab (by rw [List.append_nil] at dt; exact dt)
theorem rebuilt_use1 {t t1 u1 : Ty} {news D D₂ : List (Addr × Obj)} {v y1 : Value} {pl : Addr} {k : Nat} {dp un : Nat} {gd : Option (List Code)} {cn : Str} {cs : Scope} {a : Addr} {ccd : Value} {cl : List (Str × Addr)} {outer : List Env} {A₀ : Around} {base h₀ : Heap} {L : Addr} {m : Str → Option Value} {hS : Heap} {gS : Array GenState} {dS : Drawn} {tS : Nat} {oS : OsState} {Q E : Value → Shared → Prop} (hv : Dt D v (tyD t)) (ht : parts t = [t1]) (hpl : (pl, listOf (List.toArray [y1]) k) ∈ news) (hy : Dt D₂ y1 (tyD u1)) (s1 : ∀ p ∈ D, p ∈ news) (s2 : ∀ p ∈ D₂, p ∈ news)
  (B : Below A₀ base outer h₀) (F : Fr h₀ L hS m) (X : (hd.heap_1 w.params).In h₀) (N : News h₀ L hS news) (T : Top topProg loose mean mg mb h₀) (hk : cs.kind = .function) (hr : dp + 2 < recursionLimit) (hu : un + 8 * 2 < cLine)
  (ret : ∀ r tl h' tk', Fr h₀ L h' m → News h₀ L h' (news ++ tl) → Above news tl → Dt (D ++ D₂ ++ tl) r (tyD (rebuild t [u1])) → Q (r) ⟨h', gS, dS, tk', oS⟩) : wpAny (model PySem.Challenge.rw_xm0591_01.row.prog w) (ktrTop dp un gd cn cs L a ccd cl outer) (call (.ref 35) [v, .ref pl]) Q E ⟨hS, gS, dS, tS, oS⟩ :=
  pure_use B F X N T hk (rebuilt_ok t [u1] v D D₂ news pl [y1] k hv hpl (.cons hy .nil) (by rw [ht]; rfl) s1 s2) hr hu ret
theorem rebuilt_use2 {t t1 t2 u1 u2 : Ty} {news D D₂ D₃ : List (Addr × Obj)} {v y1 y2 : Value} {pl : Addr} {k : Nat} {dp un : Nat} {gd : Option (List Code)} {cn : Str} {cs : Scope} {a : Addr} {ccd : Value} {cl : List (Str × Addr)} {outer : List Env} {A₀ : Around} {base h₀ : Heap} {L : Addr} {m : Str → Option Value} {hS : Heap} {gS : Array GenState} {dS : Drawn} {tS : Nat} {oS : OsState} {Q E : Value → Shared → Prop} (hv : Dt D v (tyD t)) (ht : parts t = [t1, t2]) (hpl : (pl, listOf (List.toArray [y1, y2]) k) ∈ news) (hy : Dt D₂ y1 (tyD u1)) (hz : Dt D₃ y2 (tyD u2)) (s1 : ∀ p ∈ D, p ∈ news) (s2 : ∀ p ∈ D₂, p ∈ news) (s3 : ∀ p ∈ D₃, p ∈ news)
  (B : Below A₀ base outer h₀) (F : Fr h₀ L hS m) (X : (hd.heap_1 w.params).In h₀) (N : News h₀ L hS news) (T : Top topProg loose mean mg mb h₀) (hk : cs.kind = .function) (hr : dp + 2 < recursionLimit) (hu : un + 8 * 2 < cLine)
  (ret : ∀ r tl h' tk', Fr h₀ L h' m → News h₀ L h' (news ++ tl) → Above news tl → Dt (D ++ (D₂ ++ D₃) ++ tl) r (tyD (rebuild t [u1, u2])) → Q (r) ⟨h', gS, dS, tk', oS⟩) : wpAny (model PySem.Challenge.rw_xm0591_01.row.prog w) (ktrTop dp un gd cn cs L a ccd cl outer) (call (.ref 35) [v, .ref pl]) Q E ⟨hS, gS, dS, tS, oS⟩ :=
  pure_use B F X N T hk (rebuilt_ok t [u1, u2] v D (D₂ ++ D₃) news pl [y1, y2] k hv hpl (.cons (hy.mono fun _ h => List.mem_append.mpr (.inl h)) (.cons (hz.mono fun _ h => List.mem_append.mpr (.inr h)) .nil)) (by rw [ht]; rfl) s1 (sub_app s2 s3)) hr hu ret

theorem my_tup0 {prog : Program} {A : Around} {E : Value → Shared → Prop} {s : Shared} {h₀ : Heap} {L a : Addr} {news : List (Addr × Obj)} {Q : Value → Shared → Prop} {value slice : PySem.Expr} {v : Value} {vs : List Value} {n : Nat} {u : Tok} (N : News h₀ L s.heap news) (hm : (a, tupO (v :: vs) n) ∈ news) (h : Q v s)
    (hs : subscripted slice false (.ref a) (.int 0 u) = operate [.ref a, .int 0 u] (getItem (.ref a) (.int 0 u)) := by with_unfolding_all rfl) :
    wpAny (model prog w) A (subscriptTail value slice (.ref a) (.int 0 u)) Q E s :=
  my_tup (j := 0) N hm (by decide) (by decide) (by simp [seqIndex?]) rfl h hs
def notPar : Ty → Bool
  | .par _ => false
  | _ => true
theorem head_of {l : List (Addr × Obj)} {v : Value} {t : Ty} (h : Dt l v (tyD t)) (hp : notPar t = true) : ∃ b x tk vs n, v = .ref b ∧ (b, tupO (.str x tk :: vs) n) ∈ l ∧ ¬ ((x == Str.ofString "param") = true) := by
  have key : ∀ {x : Str} {ds : List Dat}, Dt l v (.tuple (.str x :: ds)) → ¬ ((x == Str.ofString "param") = true) → ∃ b x tk vs n, v = .ref b ∧ (b, tupO (.str x tk :: vs) n) ∈ l ∧ ¬ ((x == Str.ofString "param") = true) := by
    intro x ds h hx
    obtain ⟨b, vs, n, rfl, hm, r⟩ := in_tuple h
    obtain ⟨v1, ws, rfl, h1, r⟩ := all_cons r
    obtain ⟨tk, rfl⟩ := in_str h1
    exact ⟨b, x, tk, ws, n, rfl, hm, hx⟩
  cases t with
  | par x => simp [notPar] at hp
  | _ => exact key h (by decide +kernel)
theorem subst0 {σ : Pm → Option Ty} {t : Ty} (hp : notPar t = true) (h : parts t = []) : rebuild t [] = subst σ t := by
  cases t <;> first | exact rfl | (exfalso; simp [parts] at h; done) | (exfalso; simp [notPar] at hp; done)
theorem subst1 {σ : Pm → Option Ty} {t t1 : Ty} (h : parts t = [t1]) : rebuild t [subst σ t1] = subst σ t := by
  cases t <;> first | (exfalso; simp [parts] at h; done) | (simp only [parts, List.cons.injEq, and_true] at h; subst h; exact rfl)
theorem subst2 {σ : Pm → Option Ty} {t t1 t2 : Ty} (h : parts t = [t1, t2]) : rebuild t [subst σ t1, subst σ t2] = subst σ t := by
  cases t <;> first | (exfalso; simp [parts] at h; done) | (simp only [parts, List.cons.injEq, and_true] at h; obtain ⟨rfl, rfl⟩ := h; exact rfl)
theorem parts_dp1 {t t1 : Ty} (h : parts t = [t1]) : t1.dp + 1 ≤ t.dp := by
  cases t <;> simp_all [parts, Ty.dp]
theorem parts_dp2 {t t1 t2 : Ty} (h : parts t = [t1, t2]) : t1.dp + 1 ≤ t.dp ∧ t2.dp + 1 ≤ t.dp := by
  cases t <;> simp_all [parts, Ty.dp] <;> omega

/-- the values of a table of types -/
def TabV (D : List (Addr × Obj)) (kvs : List (Str × Value)) (σ : Pm → Option Ty) : Prop :=
  ∀ x, match σ x with
    | some t => ∃ v, valueAt kvs (pmS x) = some v ∧ Dt D v (tyD t)
    | none => valueAt kvs (pmS x) = none

def SubOk (w : World) (loose : List Str) (mean : ExcName → Option Value) (mg mb : Str → Option Value) (σ : Pm → Option Ty) (t : Ty) : Prop :=
  ∀ v D₁ D₂ news d o kvs, Dt D₁ v (tyD t) → TabV D₂ kvs σ → (d, o) ∈ news → o.IsDictOf (PySem.strKind PySem.Challenge.rw_xm0591_01.row.prog w) kvs → (d == sysModules) = false → (∀ p ∈ D₁, p ∈ news) → (∀ p ∈ D₂, p ∈ news) →
    CallOk PySem.Challenge.rw_xm0591_01.row.prog w (hd.heap_1 w.params) topProg loose mean mg mb (2 * t.dp + 4) 40 [v, .ref d] news (PPost (D₁ ++ D₂) news (tyD (subst σ t)))
variable {σ : Pm → Option Ty}
theorem sub_use {t : Ty} {news D₁ D₂ : List (Addr × Obj)} {v : Value} {d : Addr} {o : Obj} {kvs : List (Str × Value)}
  {dp un : Nat} {gd : Option (List Code)} {cn : Str} {cs : Scope} {a : Addr} {ccd : Value} {cl : List (Str × Addr)} {outer : List Env} {A₀ : Around} {base h₀ : Heap} {L : Addr} {m : Str → Option Value} {hS : Heap} {gS : Array GenState} {dS : Drawn} {tS : Nat} {oS : OsState} {Q E : Value → Shared → Prop}
  (hv : Dt D₁ v (tyD t)) (S : SubOk w loose mean mg mb σ t) (ht : TabV D₂ kvs σ) (ho : (d, o) ∈ news) (hdi : o.IsDictOf (PySem.strKind PySem.Challenge.rw_xm0591_01.row.prog w) kvs) (hlo : (d == sysModules) = false) (s1 : ∀ p ∈ D₁, p ∈ news) (s2 : ∀ p ∈ D₂, p ∈ news)
  (B : Below A₀ base outer h₀) (F : Fr h₀ L hS m) (X : (hd.heap_1 w.params).In h₀) (N : News h₀ L hS news) (T : Top topProg loose mean mg mb h₀) (hk : cs.kind = .function) (hr : dp + (2 * t.dp + 4) < recursionLimit) (hu : un + 8 * (2 * t.dp + 4) < cLine)
  (ret : ∀ r tl h' tk', Fr h₀ L h' m → News h₀ L h' (news ++ tl) → Above news tl → Dt (D₁ ++ D₂ ++ tl) r (tyD (subst σ t)) → Q (r) ⟨h', gS, dS, tk', oS⟩) : wpAny (model PySem.Challenge.rw_xm0591_01.row.prog w) (ktrTop dp un gd cn cs L a ccd cl outer) (call (.ref 40) [v, .ref d]) Q E ⟨hS, gS, dS, tS, oS⟩ :=
  pure_use B F X N T hk (S v D₁ D₂ news d o kvs hv ht ho hdi hlo s1 s2) hr hu ret

example : True := by
  k_with_none
  k_with "subscriptTail" =>
   ((k_here; (with_reducible show wpAny _ _ (subscriptTail _ _ (Value.ref _) (Value.int _ _)) _ _ _); k_dflt (first
   | (refine' my_tup ?Z0 ?Z1 ?Z2 ?Z3 ?Z4 ?Z5 ?_; (case Z0 => k_asm); (case Z1 => k_mem); (case Z2 | Z3 => decide); (case Z4 | Z5 => rfl); k_whole)
   | (refine' my_lst ?Z0 ?Z1 ?Z2 ?Z3 ?Z5 ?_; (case Z0 => k_asm); (case Z1 => k_mem); (case Z2 | Z3 => decide); (case Z5 => rfl); k_whole))))
  k_with "eval Name" =>
   ((k_here; k_dflt (refine' nameX_L ?Z6 ?Z7 ?_; (case Z6 => k_asm); (case Z7 => exact rfl); k_whole)))
  k_with "w_k_room" =>
   (ktr_room)
  k_with "w_ktr_enter" =>
   ((refine' code_defC ?Z8 ?Z9 ?Za ?Zb ?Zc ?Zd ?Ze ?Zf ?Zg ?Zh ?Zi ?Zj ?Zk ?Zl ?_ ?Zm ?Zn ?Zo; (case Zd | Ze => exact rfl); (case Zf => first | exact rfl | assumption); (case Z8 | Z9 | Za | Zb | Zc => k_asm); (case Zg | Zh => k_is); (case Zi => ktr_room); (case Zj => exact BindsTo.of_eq rfl); (case Zk => exact rfl); (case Zl => decide +kernel); (case Zm | Zn | Zo => exact rfl); k_whole; intro g' L' h' tk' cells' FG' F' N' Y' B' X' T' l1; k_cells Y'; (try simp only [List.cons_append, List.nil_append] at N'); (try dsimp only); (try k_fold)))
  k_with "eval ListComp" =>
   ((k_here; k_dflt (refine ListComp_tup (F₀ := by k_asm) (by with_unfolding_all rfl) (by decide) (by rfl) (by decide) (by rfl) ?_)))
  k_with "SrcT" =>
   ((k_dflt (refine srcT_of (by rfl) (by k_asm) (by k_asm) (by k_mem) (by first | size_fits | exact Nat.le_of_ble_eq_true rfl) ?_); intro g'; lcg_lit))
  k_with "CompRest" =>
   ((with_unfolding_all first
   | (refine LCg.CompRest.succ ?_; intro v' I' oI' C' oC' D' m' h' tk' E' hv' hC' hx' F' N' off' ne'; lcg_open hv')
   | refine LCg.CompRest.zero ?_))
  k_with "FinE" =>
   (((unfold LCg.FinE); intro D' h' tk' F' N' o1'; (try simp only [List.nil_append, List.cons_append, List.append_assoc] at N'); (try dsimp only)))
  k_with "CompEnd" =>
   ((refine' comp_end ?Zp ?Zq ?Zr ?Zs ?Zt ?Zu ?Zv ?_; (case Zp | Zq => k_asm); (case Zr | Zs | Zt => (repeat (first | exact Pull.head | refine Pull.tail ?_))); (case Zu => lcg_off); (case Zv => (unfold HasTup; k_mem))))
  k_with "CompEnd" =>
   ((refine' comp_end_pure ?Zw ?Zx ?Zy ?Zz ?Z10 ?_; (case Zw | Zz | Zx | Zy => k_asm); (case Z10 => (unfold HasTup; k_mem))))
  k_with "getMethod ref" =>
   ((k_here; (with_reducible show wpAny _ _ (getMethod (Value.ref _) (Str.ofString "get") _) _ _ _); k_dflt (refine kdg_method (knd := PySem.strKind _ _) (by k_asm) (by k_mem) (by k_asm) ?_)))
  k_with "call builtin:dict.get" =>
   ((k_here; k_dflt (refine kdg_get2 (knd := PySem.strKind _ _) (by k_asm) (by k_mem) (by k_asm) (by k_asm) (strKind_is _ _ _ _) _ (by rfl) ?_)))
  k_with "subscriptTail" =>
   ((k_here; (with_reducible show wpAny _ _ (subscriptTail _ _ (Value.ref _) (Value.int 0 _)) _ _ _); k_dflt (refine' my_tup0 ?Z11 ?Z12 ?_; (case Z11 => k_asm); (case Z12 => k_mem); k_whole)))
  k_with "call ref" =>
   ((k_here; (with_reducible show wpAny _ _ (call (Value.ref 40) _) _ _ _); k_dflt (refine' sub_use ?Z13 ?Z14 ?Z15 ?Z16 ?Z17 ?Z18 ?Z19 ?Z1a ?Z1b ?Z1c ?Z1d ?Z1e ?Z1f ?Z1g ?Z1h ?Z1i ?_; (case Z13 | Z1c | Z1e | Z14 | Z15 => k_asm); (case Z16 => k_mem); (case Z17 | Z18 => k_asm); (case Z19 | Z1a => tb_start); (case Z1b | Z1d | Z1f => k_asm); (case Z1g => first | exact rfl | with_reducible assumption); (case Z1h => ktr_room); (case Z1i => ktr_units)); intro r9 tl9 h9 tk9 F9 N9 ab9 dt9; (try simp only [List.nil_append, List.cons_append, List.append_nil] at N9); (try dsimp only); (try k_fold)))
  k_with "execs cons" =>
   (k_here; (try k_gentoks); (first | ((fail_if_success (fail_if_success k_fold)); (with_reducible refine' ec_let2 ?_); intro q0 e0 K0) | ((with_reducible refine' ec_let ?_); intro K0)); (all_goals (try ((with_reducible rename Fr _ _ _ (fun _ => ite _ _ _) => f9); refine fr_let f9 ?_; clear f9; intro m0 F0))); (try dsimp only))
  k_with "eval Constant str" =>
   (with_reducible refine' con_str ?_)
  k_with "eval Constant int" =>
   (with_reducible refine' con_int ?_)
  k_with "subscriptTail Name Constant ref int" =>
   (k_extra "subscriptTail")
  k_with "callWith ref" =>
   (k_here; (with_reducible show wpAny _ _ (callWith _ (Value.ref _) _ (backTo _ (starEach (_ :: _) _)) []) _ _ _); k_dflt (refine' callWith_K ?zc1 ?zc2 ?_; (case zc1 => with_reducible assumption); (case zc2 => k_is); k_whole))
  k_with "callWith ref" =>
   (k_here; (with_reducible show wpAny _ _ (callWith _ (Value.ref _) _ (backTo _ (starEach [] _)) []) _ _ _); k_dflt (refine' callWith_K0 ?zc1 ?zc2 ?_; (case zc1 => exact Frag.In.keeps (by with_reducible assumption) (Fr.keep (by k_asm))); (case zc2 => k_is); k_whole))
  k_with "eval Name" =>
   (k_here; k_dflt (first
   | (refine' nameX_L ?zn1 ?zn2 ?_ ?zn3 ?zn4; (case zn3 | zn4 => rfl); (case zn1 => k_asm); (case zn2 => rfl); k_whole)
   | (refine' nameX_K ?zn1 ?zn2 ?zn3 ?zn4 ?_ ?zn5 ?zn6; (case zn5 | zn6 => rfl); (case zn1 | zn2 | zn3 => k_asm); (case zn4 => k_is); k_whole)
   | (refine' nameX_B ?zn1 ?zn2 ?zn3 ?zn4 ?zn5 ?zn6 ?_ ?zn7 ?zn8; (case zn7 | zn8 => rfl); (case zn1 | zn2 | zn3 => k_asm); (case zn4 => k_is); (case zn5 => boot_fast); (case zn6 => decide); k_whole)
   | fail))
  k_with "newTuple" =>
   (k_here; k_dflt (refine' tup_let ?z30 ?z4 ?z0 ?_; (case z30 | z4 => k_asm); (case z0 => kmk_size)); intro D' h' e' Y' F' N' l1; (try k_sweep))
  k_with "newList" =>
   (k_here; k_dflt (refine' lst_let ?z30 ?z4 ?z0 ?_; (case z30 | z4 => k_asm); (case z0 => kmk_size)); intro D' h' e' Y' F' N' l1; (try k_sweep))
  k_with "binaryOp Add ref ref" =>
   (k_here; (with_reducible show wpAny _ _ (binaryOp Operator.Add (Value.ref _) (Value.ref _)) _ _ _); k_dflt (refine' kde_addT ?z1 ?z27 ?z25 ?z2 ?z18 ?z23 ?z21 ?z24 ?_; (case z1 | z27 => k_asm); (case z25 | z2 => exact News.isTup (by k_asm) (by k_mem)); (case z18 | z23 => exact List.cons_ne_nil _ _); (case z21 => exact Nat.le_of_ble_eq_true rfl); (case z24 => kun_lit)); intro D' h' F' N' l1; (replace l1 := allLt_of l1); (try k_sweep))
  k_with "k_up" =>
   (first
   | with_reducible exact hp
   | ((with_reducible refine List.mem_cons_of_mem _ ?_); k_extra "k_up")
   | ((with_reducible refine List.mem_append_left _ ?_); k_extra "k_up")
   | ((with_reducible refine List.mem_append_right _ ?_); k_extra "k_up")
   | fail)
  k_with "w_tb_start" =>
   (first
   | exact sub_nil
   | (intro p hp; k_extra "k_up")
   | (refine' sub_trans ?z28 ?z13; (case z28 => with_reducible assumption); (case z13 => (intro p hp; k_extra "k_up")))
   | ((with_reducible refine sub_app ?_ ?_) <;> tb_start)
   | ((with_reducible refine sub_cons ?_ ?_); k_mem; tb_start)
   | fail)
  k_with "w_k_mem" =>
   (focus ((repeat (with_reducible first | exact List.mem_cons_self | refine List.mem_cons_of_mem _ ?_ | refine List.mem_append_left _ ?_)); done))
  k_with "w_kqd_sub" =>
   (with_reducible first
   | exact gdJ_nil
   | (refine' gdJ_app ?_ ?_ <;> kqd_sub)
   | (refine' gd_app ?_ ?_ <;> kqd_sub)
   | (refine' gdJ_new ?z32 ?z12 ?z22 ?z9; (case z12 | z22 => assumption); (case z32 | z9 => k_dflt tb_start))
   | (refine' gd_new ?z32 ?z12 ?z9; (case z12 => assumption); (case z32 | z9 => k_dflt tb_start))
   | (refine' gd_cons0 ?z15 ?z10; (case z15 => first | (refine' gd_had ?z31 ?z38; (case z38 => assumption); (case z31 => k_dflt k_mem)) | (refine' gd_one ?z31 ?z38 ?z37; (case z38 => assumption); (case z31 => k_dflt k_mem); (case z37 => k_dflt tb_start))); (case z10 => kqd_sub))
   | (refine' gdJ_old ?z32 ?z9; (case z9 | z32 => k_dflt tb_start))
   | (refine' gd_old ?z32 ?z9; (case z9 | z32 => k_dflt tb_start))
   | fail)
  k_with "w_tb_rel" =>
   (with_reducible first
   | exact DatP.none
   | exact DatP.bool _
   | exact DatP.int _ _
   | exact DatP.str _ _
   | exact DatPs.nil
   | (refine' DatPs.cons ?_ ?_ <;> first | ((with_reducible show DatP _ _ _); tb_rel) | ((with_reducible show DatPs _ _ _); tb_rel) | ((with_reducible show Dat); skip) | ((with_reducible show List Dat); skip))
   | (refine' datP_in ?z5 ?z37; (case z5 => assumption); (case z37 => k_dflt kqd_sub))
   | (refine' datP_gdJ ?z31 ?z34 ?z35; (case z31 => k_dflt k_mem); (case z34 => first | (refine' gdJ_had ?z31 ?z38; (case z38 => assumption); (case z31 => k_dflt k_mem)) | (refine' gdJ_one ?z31 ?z38 ?z37 ?z19; (case z38 => assumption); (case z31 => k_dflt k_mem); (case z37 => k_dflt tb_start); (case z19 => k_dflt (k_extra "k_ltA")))); (case z35 => tb_rel))
   | (refine' datP_gd ?z31 ?z34 ?z35; (case z31 => k_dflt k_mem); (case z34 => first | (refine' gd_had ?z31 ?z38; (case z38 => assumption); (case z31 => k_dflt k_mem)) | (refine' gd_one ?z31 ?z38 ?z37; (case z38 => assumption); (case z31 => k_dflt k_mem); (case z37 => k_dflt tb_start))); (case z35 => tb_rel))
   | fail)
  k_with "w_lcg_off" =>
   (with_reducible first
   | assumption
   | exact off3_nil
   | (refine' off3_app ?_ ?_ <;> lcg_off)
   | (refine' off3_any ?z40 ?z14 ?z3; (case z40 => assumption); (case z14 => k_dflt k_mem); (case z3 => lcg_off))
   | (refine' off3_cons ⟨?z42, ?z16, ?z17⟩ ?z3; (case z42 | z16 | z17 => k_dflt k_ne); (case z3 => lcg_off))
   | (refine' off3_above ?z40 ?z42 ?z16 ?z17; (case z40 => assumption); (case z42 | z16 | z17 => k_dflt k_mem))
   | (refine' off3_sub ?z40 ?z3; (case z40 => assumption); (case z3 => k_dflt tb_start))
   | fail)
  k_with "w_ktr_room" =>
   ((try simp only [depth_under_make, depth_under_kw, depth_in1, depth_deeper, depth_caller]); (try dsimp only [ktrTop]); with_reducible first
   | (refine' room2 ?z11 ?z20; (case z11 => assumption); (case z20 => k_dflt (first | exact Nat.le_of_ble_eq_true rfl | omega)))
   | (refine' room1 ?z11 ?z20; (case z11 => assumption); (case z20 => k_dflt (first | exact Nat.le_of_ble_eq_true rfl | omega)))
   | (refine' room0 ?z11; (case z11 => assumption))
   | fail)
  k_with "w_ktr_units" =>
   ((try simp only [units_in1, units_deeper, Around.mark_units, units_caller]); (try dsimp only [ktrTop]); with_reducible first
   | (refine' unit2 ?z11 ?z20; (case z11 => assumption); (case z20 => k_dflt (first | exact Nat.le_of_ble_eq_true rfl | omega)))
   | (refine' unit1 ?z11 ?z20; (case z11 => assumption); (case z20 => k_dflt (first | exact Nat.le_of_ble_eq_true rfl | omega)))
   | fail)
  k_with "k_ltA" =>
   (first
   | (refine' lt_all ?z6 ?z36; (case z6 => with_reducible assumption); (case z36 => k_mem))
   | (refine ltN ?_; omega))
  k_with "w_kqd_all" =>
   (with_reducible first
   | assumption
   | exact off_nil
   | (refine' off_cons ?z29 ?z39; (case z29 => k_dflt k_ne); (case z39 => kqd_all))
   | (refine' off_app ?_ ?_ <;> kqd_all)
   | (refine' off_sub ?z8 ?z7; (case z8 => assumption); (case z7 => k_dflt tb_start))
   | (refine' off_above ?z8 ?z7; (case z8 => assumption); (case z7 => k_dflt k_mem))
   | (refine' off_lt ?z8 ?z33 ?z7; (case z8 => assumption); (case z33 => k_dflt ((show (_ : Nat) ≤ _); omega)); (case z7 => k_dflt tb_start))
   | (refine' off_o3a ?z8 ?z7; (case z8 => assumption); (case z7 => k_dflt tb_start))
   | (refine' off_o3b ?z8 ?z7; (case z8 => assumption); (case z7 => k_dflt tb_start))
   | (refine' off_o3c ?z8 ?z7; (case z8 => assumption); (case z7 => k_dflt tb_start))
   | (refine' off_o1 ?z8 ?z7; (case z8 => assumption); (case z7 => k_dflt tb_start))
   | fail)
  k_with "w_k_ne" =>
   (first
   | with_reducible assumption
   | (refine' ne_all ?z6 ?z36; (case z6 => with_reducible assumption); (case z36 => k_mem))
   | (refine' ne_all2 ?z6 ?z36; (case z6 => with_reducible assumption); (case z36 => k_mem))
   | (refine' Ne.symm ?z6; (case z6 => with_reducible assumption))
   | (refine' ne_o3a ?z6 ?z36; (case z6 => with_reducible assumption); (case z36 => k_mem))
   | (refine' ne_o3b ?z6 ?z36; (case z6 => with_reducible assumption); (case z36 => k_mem))
   | (refine' ne_o3c ?z6 ?z36; (case z6 => with_reducible assumption); (case z36 => k_mem))
   | (refine' ne_o3a' ?z6 ?z36; (case z6 => with_reducible assumption); (case z36 => k_mem))
   | (refine' ne_o3b' ?z6 ?z36; (case z6 => with_reducible assumption); (case z36 => k_mem))
   | (refine' ne_o3c' ?z6 ?z36; (case z6 => with_reducible assumption); (case z36 => k_mem))
   | (refine' ne_o1 ?z6 ?z36; (case z6 => with_reducible assumption); (case z36 => k_mem))
   | (refine' ne_o1' ?z6 ?z36; (case z6 => with_reducible assumption); (case z36 => k_mem))
   | (refine' ne_of_lt' ?z6; (case z6 => with_reducible assumption))
   | (refine' ne_of_gt' ?z6; (case z6 => with_reducible assumption))
   | (refine' ne_tr ?z41 ?z6 ?z36; (case z41 | z6 => with_reducible assumption); (case z36 => k_mem))
   | (refine' ne_trs ?z41 ?z6 ?z36; (case z41 | z6 => with_reducible assumption); (case z36 => k_mem))
   | (refine' ne_tr2 ?z41 ?z26 ?z6 ?z36; (case z41 | z26 | z6 => with_reducible assumption); (case z36 => k_mem))
   | (refine' ne_tr2s ?z41 ?z26 ?z6 ?z36; (case z41 | z26 | z6 => with_reducible assumption); (case z36 => k_mem))
   | (with_reducible refine' ne_up1 ?z6 ?z36; (case z6 => assumption); (case z36 => k_dflt k_mem))
   | (with_reducible refine' ne_up2 ?z6 ?z36; (case z6 => assumption); (case z36 => k_dflt k_mem))
   | (with_reducible refine' ne_up3 ?z6 ?z36; (case z6 => assumption); (case z36 => k_dflt k_mem))
   | (with_reducible refine' ne_dn1 ?z6 ?z36; (case z6 => assumption); (case z36 => k_dflt k_mem))
   | (with_reducible refine' ne_dn2 ?z6 ?z36; (case z6 => assumption); (case z36 => k_dflt k_mem))
   | (with_reducible refine' ne_dn3 ?z6 ?z36; (case z6 => assumption); (case z36 => k_dflt k_mem))
   | fail)
  k_with "pack" =>
   skip
  trivial
theorem sub_par (x : Pm) : SubOk w loose mean mg mb σ (.par x) := by
  intro v D₁ D₂ news d o kvs hv ht ho hdi hlo hs1 hs2
  unfold CallOk
  intro dp un gd cn cs a ccd cl outer A₀ base h₀ L m s Q E B F X N T hk hdp hun hret
  obtain ⟨b, v₁, v₂, n, rfl, hm, h1, h2⟩ := in_tup2 hv
  obtain ⟨t1, rfl⟩ := in_str h1
  obtain ⟨t2, rfl⟩ := in_str h2
  replace N := News.add (News.add N (hs1 _ hm)) (.tail _ ho)
  refine wpAny_call ?_
  k_dflt ktr_enter
  all_goals (try (with_reducible rename News _ _ _ _ => nL9; refine led_let nL9 ?_; clear nL9; intro Y0 N9))
  k_steps
  refine hret _ _ _ _ (by k_asm) (by k_asm) ⟨by tb_start, ?_⟩
  have hx := ht x
  simp only [subst]
  cases hs : σ x with
  | none =>
    rw [hs] at hx
    dsimp only at hx
    rw [hx]
    exact datP_in hv (by kqd_sub)
  | some t =>
    rw [hs] at hx
    obtain ⟨v, he, hv'⟩ := hx
    rw [he]
    exact datP_in hv' (by kqd_sub)
section
example : True := by
  k_with "call ref" =>
   ((k_here; (with_reducible show wpAny _ _ (call (Value.ref 28) _) _ _ _); k_dflt (refine' parts_use0 ?Z1j ?Z1k ?Z1l ?Z1m ?Z1n ?Z1o ?Z1p ?Z1q ?Z1r ?Z1s ?Z1t ?_; (case Z1j | Z1n | Z1p | Z1k => k_asm); (case Z1l => tb_start); (case Z1m | Z1o | Z1q => k_asm); (case Z1r => first | exact rfl | with_reducible assumption); (case Z1s => ktr_room); (case Z1t => ktr_units)); intro ax9 k9 tl9 h9 tk9 F9 N9 ab9; (try simp only [List.nil_append, List.cons_append, List.append_nil] at N9); (try dsimp only); (try k_fold)))
  k_with "call ref" =>
   ((k_here; (with_reducible show wpAny _ _ (call (Value.ref 35) _) _ _ _); k_dflt (refine' rebuilt_use0 ?Z1u ?Z1v ?Z1w ?Z1x ?Z1y ?Z1z ?Z20 ?Z21 ?Z22 ?Z23 ?Z24 ?Z25 ?_; (case Z1u | Z1z | Z21 | Z1v => k_asm); (case Z1w => k_mem); (case Z1x => tb_start); (case Z1y | Z20 | Z22 => k_asm); (case Z23 => first | exact rfl | with_reducible assumption); (case Z24 => ktr_room); (case Z25 => ktr_units)); intro r9 tl9 h9 tk9 F9 N9 ab9 dt9; (try simp only [List.nil_append, List.cons_append, List.append_nil] at N9); (try dsimp only); (try k_fold)))
  trivial
theorem sub_gen0 {t : Ty} (hnp : notPar t = true) (htp : parts t = [])  : SubOk w loose mean mg mb σ t := by
  intro v D₁ D₂ news d o kvs hv ht ho hdi hlo hs1 hs2
  unfold CallOk
  intro dp un gd cn cs a ccd cl outer A₀ base h₀ L m s Q E B F X N T hk hdp hun hret
  obtain ⟨b, x, tk, vs, n, rfl, hm, hx⟩ := head_of hv hnp
  replace N := News.add (News.add N (hs1 _ hm)) (.tail _ ho)
  refine wpAny_call ?_
  k_dflt ktr_enter
  all_goals (try (with_reducible rename News _ _ _ _ => nL9; refine led_let nL9 ?_; clear nL9; intro Y0 N9))
  k_steps
  all_goals first
    | exact absurd (by with_reducible assumption) hx
    | (refine hret _ _ _ _ (by k_asm) (by k_asm) ⟨by tb_start, ?_⟩
       rw [← subst0 hnp htp]
       refine datP_in (by with_reducible assumption) ?_
       kqd_sub)
end
section
example : True := by
  k_with_none
  k_with "subscriptTail" =>
   ((k_here; (with_reducible show wpAny _ _ (subscriptTail _ _ (Value.ref _) (Value.int _ _)) _ _ _); k_dflt (first
   | (refine' my_tup ?Z0 ?Z1 ?Z2 ?Z3 ?Z4 ?Z5 ?_; (case Z0 => k_asm); (case Z1 => k_mem); (case Z2 | Z3 => decide); (case Z4 | Z5 => rfl); k_whole)
   | (refine' my_lst ?Z0 ?Z1 ?Z2 ?Z3 ?Z5 ?_; (case Z0 => k_asm); (case Z1 => k_mem); (case Z2 | Z3 => decide); (case Z5 => rfl); k_whole))))
  k_with "eval Name" =>
   ((k_here; k_dflt (refine' nameX_L ?Z6 ?Z7 ?_; (case Z6 => k_asm); (case Z7 => exact rfl); k_whole)))
  k_with "w_k_room" =>
   (ktr_room)
  k_with "w_ktr_enter" =>
   ((refine' code_defC ?Z8 ?Z9 ?Za ?Zb ?Zc ?Zd ?Ze ?Zf ?Zg ?Zh ?Zi ?Zj ?Zk ?Zl ?_ ?Zm ?Zn ?Zo; (case Zd | Ze => exact rfl); (case Zf => first | exact rfl | assumption); (case Z8 | Z9 | Za | Zb | Zc => k_asm); (case Zg | Zh => k_is); (case Zi => ktr_room); (case Zj => exact BindsTo.of_eq rfl); (case Zk => exact rfl); (case Zl => decide +kernel); (case Zm | Zn | Zo => exact rfl); k_whole; intro g' L' h' tk' cells' FG' F' N' Y' B' X' T' l1; k_cells Y'; (try simp only [List.cons_append, List.nil_append] at N'); (try dsimp only); (try k_fold)))
  k_with "eval ListComp" =>
   ((k_here; k_dflt (refine ListComp_tup (F₀ := by k_asm) (by with_unfolding_all rfl) (by decide) (by rfl) (by decide) (by rfl) ?_)))
  k_with "SrcT" =>
   ((k_dflt (refine srcT_of (by rfl) (by k_asm) (by k_asm) (by k_mem) (by first | size_fits | exact Nat.le_of_ble_eq_true rfl) ?_); intro g'; lcg_lit))
  k_with "CompRest" =>
   ((with_unfolding_all first
   | (refine LCg.CompRest.succ ?_; intro v' I' oI' C' oC' D' m' h' tk' E' hv' hC' hx' F' N' off' ne'; lcg_open hv')
   | refine LCg.CompRest.zero ?_))
  k_with "FinE" =>
   (((unfold LCg.FinE); intro D' h' tk' F' N' o1'; (try simp only [List.nil_append, List.cons_append, List.append_assoc] at N'); (try dsimp only)))
  k_with "CompEnd" =>
   ((refine' comp_end ?Zp ?Zq ?Zr ?Zs ?Zt ?Zu ?Zv ?_; (case Zp | Zq => k_asm); (case Zr | Zs | Zt => (repeat (first | exact Pull.head | refine Pull.tail ?_))); (case Zu => lcg_off); (case Zv => (unfold HasTup; k_mem))))
  k_with "CompEnd" =>
   ((refine' comp_end_pure ?Zw ?Zx ?Zy ?Zz ?Z10 ?_; (case Zw | Zz | Zx | Zy => k_asm); (case Z10 => (unfold HasTup; k_mem))))
  k_with "getMethod ref" =>
   ((k_here; (with_reducible show wpAny _ _ (getMethod (Value.ref _) (Str.ofString "get") _) _ _ _); k_dflt (refine kdg_method (knd := PySem.strKind _ _) (by k_asm) (by k_mem) (by k_asm) ?_)))
  k_with "call builtin:dict.get" =>
   ((k_here; k_dflt (refine kdg_get2 (knd := PySem.strKind _ _) (by k_asm) (by k_mem) (by k_asm) (by k_asm) (strKind_is _ _ _ _) _ (by rfl) ?_)))
  k_with "subscriptTail" =>
   ((k_here; (with_reducible show wpAny _ _ (subscriptTail _ _ (Value.ref _) (Value.int 0 _)) _ _ _); k_dflt (refine' my_tup0 ?Z11 ?Z12 ?_; (case Z11 => k_asm); (case Z12 => k_mem); k_whole)))
  k_with "call ref" =>
   ((k_here; (with_reducible show wpAny _ _ (call (Value.ref 40) _) _ _ _); k_dflt (refine' sub_use ?Z13 ?Z14 ?Z15 ?Z16 ?Z17 ?Z18 ?Z19 ?Z1a ?Z1b ?Z1c ?Z1d ?Z1e ?Z1f ?Z1g ?Z1h ?Z1i ?_; (case Z13 | Z1c | Z1e | Z14 | Z15 => k_asm); (case Z16 => k_mem); (case Z17 | Z18 => k_asm); (case Z19 | Z1a => tb_start); (case Z1b | Z1d | Z1f => k_asm); (case Z1g => first | exact rfl | with_reducible assumption); (case Z1h => ktr_room); (case Z1i => ktr_units)); intro r9 tl9 h9 tk9 F9 N9 ab9 dt9; (try simp only [List.nil_append, List.cons_append, List.append_nil] at N9); (try dsimp only); (try k_fold)))
  k_with "call ref" =>
   ((k_here; (with_reducible show wpAny _ _ (call (Value.ref 28) _) _ _ _); k_dflt (refine' parts_use1 ?Z26 ?Z27 ?Z28 ?Z29 ?Z2a ?Z2b ?Z2c ?Z2d ?Z2e ?Z2f ?Z2g ?_; (case Z26 | Z2a | Z2c | Z27 => k_asm); (case Z28 => tb_start); (case Z29 | Z2b | Z2d => k_asm); (case Z2e => first | exact rfl | with_reducible assumption); (case Z2f => ktr_room); (case Z2g => ktr_units)); intro ax9 v9 k9 tl9 h9 tk9 F9 N9 ab9 dt9; (try simp only [List.nil_append, List.cons_append, List.append_nil] at N9); (try dsimp only); (try k_fold)))
  k_with "call ref" =>
   ((k_here; (with_reducible show wpAny _ _ (call (Value.ref 35) _) _ _ _); k_dflt (refine' rebuilt_use1 ?Z2h ?Z2i ?Z2j ?Z2k ?Z2l ?Z2m ?Z2n ?Z2o ?Z2p ?Z2q ?Z2r ?Z2s ?Z2t ?Z2u ?_; (case Z2h | Z2o | Z2q | Z2i => k_asm); (case Z2j => k_mem); (case Z2k => k_asm); (case Z2l | Z2m => tb_start); (case Z2n | Z2p | Z2r => k_asm); (case Z2s => first | exact rfl | with_reducible assumption); (case Z2t => ktr_room); (case Z2u => ktr_units)); intro r9 tl9 h9 tk9 F9 N9 ab9 dt9; (try simp only [List.nil_append, List.cons_append, List.append_nil] at N9); (try dsimp only); (try k_fold)))
  k_with "execs cons" =>
   (k_here; (try k_gentoks); (first | ((fail_if_success (fail_if_success k_fold)); (with_reducible refine' ec_let2 ?_); intro q0 e0 K0) | ((with_reducible refine' ec_let ?_); intro K0)); (all_goals (try ((with_reducible rename Fr _ _ _ (fun _ => ite _ _ _) => f9); refine fr_let f9 ?_; clear f9; intro m0 F0))); (try dsimp only))
  k_with "eval Constant str" =>
   (with_reducible refine' con_str ?_)
  k_with "eval Constant int" =>
   (with_reducible refine' con_int ?_)
  k_with "subscriptTail Name Constant ref int" =>
   (k_extra "subscriptTail")
  k_with "callWith ref" =>
   (k_here; (with_reducible show wpAny _ _ (callWith _ (Value.ref _) _ (backTo _ (starEach (_ :: _) _)) []) _ _ _); k_dflt (refine' callWith_K ?zc1 ?zc2 ?_; (case zc1 => with_reducible assumption); (case zc2 => k_is); k_whole))
  k_with "callWith ref" =>
   (k_here; (with_reducible show wpAny _ _ (callWith _ (Value.ref _) _ (backTo _ (starEach [] _)) []) _ _ _); k_dflt (refine' callWith_K0 ?zc1 ?zc2 ?_; (case zc1 => exact Frag.In.keeps (by with_reducible assumption) (Fr.keep (by k_asm))); (case zc2 => k_is); k_whole))
  k_with "eval Name" =>
   (k_here; k_dflt (first
   | (refine' nameX_L ?zn1 ?zn2 ?_ ?zn3 ?zn4; (case zn3 | zn4 => rfl); (case zn1 => k_asm); (case zn2 => rfl); k_whole)
   | (refine' nameX_K ?zn1 ?zn2 ?zn3 ?zn4 ?_ ?zn5 ?zn6; (case zn5 | zn6 => rfl); (case zn1 | zn2 | zn3 => k_asm); (case zn4 => k_is); k_whole)
   | (refine' nameX_B ?zn1 ?zn2 ?zn3 ?zn4 ?zn5 ?zn6 ?_ ?zn7 ?zn8; (case zn7 | zn8 => rfl); (case zn1 | zn2 | zn3 => k_asm); (case zn4 => k_is); (case zn5 => boot_fast); (case zn6 => decide); k_whole)
   | fail))
  k_with "newTuple" =>
   (k_here; k_dflt (refine' tup_let ?z30 ?z4 ?z0 ?_; (case z30 | z4 => k_asm); (case z0 => kmk_size)); intro D' h' e' Y' F' N' l1; (try k_sweep))
  k_with "newList" =>
   (k_here; k_dflt (refine' lst_let ?z30 ?z4 ?z0 ?_; (case z30 | z4 => k_asm); (case z0 => kmk_size)); intro D' h' e' Y' F' N' l1; (try k_sweep))
  k_with "binaryOp Add ref ref" =>
   (k_here; (with_reducible show wpAny _ _ (binaryOp Operator.Add (Value.ref _) (Value.ref _)) _ _ _); k_dflt (refine' kde_addT ?z1 ?z27 ?z25 ?z2 ?z18 ?z23 ?z21 ?z24 ?_; (case z1 | z27 => k_asm); (case z25 | z2 => exact News.isTup (by k_asm) (by k_mem)); (case z18 | z23 => exact List.cons_ne_nil _ _); (case z21 => exact Nat.le_of_ble_eq_true rfl); (case z24 => kun_lit)); intro D' h' F' N' l1; (replace l1 := allLt_of l1); (try k_sweep))
  k_with "k_up" =>
   (first
   | with_reducible exact hp
   | ((with_reducible refine List.mem_cons_of_mem _ ?_); k_extra "k_up")
   | ((with_reducible refine List.mem_append_left _ ?_); k_extra "k_up")
   | ((with_reducible refine List.mem_append_right _ ?_); k_extra "k_up")
   | fail)
  k_with "w_tb_start" =>
   (first
   | exact sub_nil
   | (intro p hp; k_extra "k_up")
   | (refine' sub_trans ?z28 ?z13; (case z28 => with_reducible assumption); (case z13 => (intro p hp; k_extra "k_up")))
   | ((with_reducible refine sub_app ?_ ?_) <;> tb_start)
   | ((with_reducible refine sub_cons ?_ ?_); k_mem; tb_start)
   | fail)
  k_with "w_k_mem" =>
   (focus ((repeat (with_reducible first | exact List.mem_cons_self | refine List.mem_cons_of_mem _ ?_ | refine List.mem_append_left _ ?_)); done))
  k_with "w_kqd_sub" =>
   (with_reducible first
   | exact gdJ_nil
   | (refine' gdJ_app ?_ ?_ <;> kqd_sub)
   | (refine' gd_app ?_ ?_ <;> kqd_sub)
   | (refine' gdJ_new ?z32 ?z12 ?z22 ?z9; (case z12 | z22 => assumption); (case z32 | z9 => k_dflt tb_start))
   | (refine' gd_new ?z32 ?z12 ?z9; (case z12 => assumption); (case z32 | z9 => k_dflt tb_start))
   | (refine' gd_cons0 ?z15 ?z10; (case z15 => first | (refine' gd_had ?z31 ?z38; (case z38 => assumption); (case z31 => k_dflt k_mem)) | (refine' gd_one ?z31 ?z38 ?z37; (case z38 => assumption); (case z31 => k_dflt k_mem); (case z37 => k_dflt tb_start))); (case z10 => kqd_sub))
   | (refine' gdJ_old ?z32 ?z9; (case z9 | z32 => k_dflt tb_start))
   | (refine' gd_old ?z32 ?z9; (case z9 | z32 => k_dflt tb_start))
   | fail)
  k_with "w_tb_rel" =>
   (with_reducible first
   | exact DatP.none
   | exact DatP.bool _
   | exact DatP.int _ _
   | exact DatP.str _ _
   | exact DatPs.nil
   | (refine' DatPs.cons ?_ ?_ <;> first | ((with_reducible show DatP _ _ _); tb_rel) | ((with_reducible show DatPs _ _ _); tb_rel) | ((with_reducible show Dat); skip) | ((with_reducible show List Dat); skip))
   | (refine' datP_in ?z5 ?z37; (case z5 => assumption); (case z37 => k_dflt kqd_sub))
   | (refine' datP_gdJ ?z31 ?z34 ?z35; (case z31 => k_dflt k_mem); (case z34 => first | (refine' gdJ_had ?z31 ?z38; (case z38 => assumption); (case z31 => k_dflt k_mem)) | (refine' gdJ_one ?z31 ?z38 ?z37 ?z19; (case z38 => assumption); (case z31 => k_dflt k_mem); (case z37 => k_dflt tb_start); (case z19 => k_dflt (k_extra "k_ltA")))); (case z35 => tb_rel))
   | (refine' datP_gd ?z31 ?z34 ?z35; (case z31 => k_dflt k_mem); (case z34 => first | (refine' gd_had ?z31 ?z38; (case z38 => assumption); (case z31 => k_dflt k_mem)) | (refine' gd_one ?z31 ?z38 ?z37; (case z38 => assumption); (case z31 => k_dflt k_mem); (case z37 => k_dflt tb_start))); (case z35 => tb_rel))
   | fail)
  k_with "w_lcg_off" =>
   (with_reducible first
   | assumption
   | exact off3_nil
   | (refine' off3_app ?_ ?_ <;> lcg_off)
   | (refine' off3_any ?z40 ?z14 ?z3; (case z40 => assumption); (case z14 => k_dflt k_mem); (case z3 => lcg_off))
   | (refine' off3_cons ⟨?z42, ?z16, ?z17⟩ ?z3; (case z42 | z16 | z17 => k_dflt k_ne); (case z3 => lcg_off))
   | (refine' off3_above ?z40 ?z42 ?z16 ?z17; (case z40 => assumption); (case z42 | z16 | z17 => k_dflt k_mem))
   | (refine' off3_sub ?z40 ?z3; (case z40 => assumption); (case z3 => k_dflt tb_start))
   | fail)
  k_with "w_ktr_room" =>
   ((try simp only [depth_under_make, depth_under_kw, depth_in1, depth_deeper, depth_caller]); (try dsimp only [ktrTop]); with_reducible first
   | (refine' room2 ?z11 ?z20; (case z11 => assumption); (case z20 => k_dflt (first | exact Nat.le_of_ble_eq_true rfl | omega)))
   | (refine' room1 ?z11 ?z20; (case z11 => assumption); (case z20 => k_dflt (first | exact Nat.le_of_ble_eq_true rfl | omega)))
   | (refine' room0 ?z11; (case z11 => assumption))
   | fail)
  k_with "w_ktr_units" =>
   ((try simp only [units_in1, units_deeper, Around.mark_units, units_caller]); (try dsimp only [ktrTop]); with_reducible first
   | (refine' unit2 ?z11 ?z20; (case z11 => assumption); (case z20 => k_dflt (first | exact Nat.le_of_ble_eq_true rfl | omega)))
   | (refine' unit1 ?z11 ?z20; (case z11 => assumption); (case z20 => k_dflt (first | exact Nat.le_of_ble_eq_true rfl | omega)))
   | fail)
  k_with "k_ltA" =>
   (first
   | (refine' lt_all ?z6 ?z36; (case z6 => with_reducible assumption); (case z36 => k_mem))
   | (refine ltN ?_; omega))
  k_with "w_kqd_all" =>
   (with_reducible first
   | assumption
   | exact off_nil
   | (refine' off_cons ?z29 ?z39; (case z29 => k_dflt k_ne); (case z39 => kqd_all))
   | (refine' off_app ?_ ?_ <;> kqd_all)
   | (refine' off_sub ?z8 ?z7; (case z8 => assumption); (case z7 => k_dflt tb_start))
   | (refine' off_above ?z8 ?z7; (case z8 => assumption); (case z7 => k_dflt k_mem))
   | (refine' off_lt ?z8 ?z33 ?z7; (case z8 => assumption); (case z33 => k_dflt ((show (_ : Nat) ≤ _); omega)); (case z7 => k_dflt tb_start))
   | (refine' off_o3a ?z8 ?z7; (case z8 => assumption); (case z7 => k_dflt tb_start))
   | (refine' off_o3b ?z8 ?z7; (case z8 => assumption); (case z7 => k_dflt tb_start))
   | (refine' off_o3c ?z8 ?z7; (case z8 => assumption); (case z7 => k_dflt tb_start))
   | (refine' off_o1 ?z8 ?z7; (case z8 => assumption); (case z7 => k_dflt tb_start))
   | fail)
  k_with "w_k_ne" =>
   (first
   | with_reducible assumption
   | (refine' ne_all ?z6 ?z36; (case z6 => with_reducible assumption); (case z36 => k_mem))
   | (refine' ne_all2 ?z6 ?z36; (case z6 => with_reducible assumption); (case z36 => k_mem))
   | (refine' Ne.symm ?z6; (case z6 => with_reducible assumption))
   | (refine' ne_o3a ?z6 ?z36; (case z6 => with_reducible assumption); (case z36 => k_mem))
   | (refine' ne_o3b ?z6 ?z36; (case z6 => with_reducible assumption); (case z36 => k_mem))
   | (refine' ne_o3c ?z6 ?z36; (case z6 => with_reducible assumption); (case z36 => k_mem))
   | (refine' ne_o3a' ?z6 ?z36; (case z6 => with_reducible assumption); (case z36 => k_mem))
   | (refine' ne_o3b' ?z6 ?z36; (case z6 => with_reducible assumption); (case z36 => k_mem))
   | (refine' ne_o3c' ?z6 ?z36; (case z6 => with_reducible assumption); (case z36 => k_mem))
   | (refine' ne_o1 ?z6 ?z36; (case z6 => with_reducible assumption); (case z36 => k_mem))
   | (refine' ne_o1' ?z6 ?z36; (case z6 => with_reducible assumption); (case z36 => k_mem))
   | (refine' ne_of_lt' ?z6; (case z6 => with_reducible assumption))
   | (refine' ne_of_gt' ?z6; (case z6 => with_reducible assumption))
   | (refine' ne_tr ?z41 ?z6 ?z36; (case z41 | z6 => with_reducible assumption); (case z36 => k_mem))
   | (refine' ne_trs ?z41 ?z6 ?z36; (case z41 | z6 => with_reducible assumption); (case z36 => k_mem))
   | (refine' ne_tr2 ?z41 ?z26 ?z6 ?z36; (case z41 | z26 | z6 => with_reducible assumption); (case z36 => k_mem))
   | (refine' ne_tr2s ?z41 ?z26 ?z6 ?z36; (case z41 | z26 | z6 => with_reducible assumption); (case z36 => k_mem))
   | (with_reducible refine' ne_up1 ?z6 ?z36; (case z6 => assumption); (case z36 => k_dflt k_mem))
   | (with_reducible refine' ne_up2 ?z6 ?z36; (case z6 => assumption); (case z36 => k_dflt k_mem))
   | (with_reducible refine' ne_up3 ?z6 ?z36; (case z6 => assumption); (case z36 => k_dflt k_mem))
   | (with_reducible refine' ne_dn1 ?z6 ?z36; (case z6 => assumption); (case z36 => k_dflt k_mem))
   | (with_reducible refine' ne_dn2 ?z6 ?z36; (case z6 => assumption); (case z36 => k_dflt k_mem))
   | (with_reducible refine' ne_dn3 ?z6 ?z36; (case z6 => assumption); (case z36 => k_dflt k_mem))
   | fail)
  k_with "pack" =>
   skip
  trivial
theorem sub_gen1 {t : Ty} {t1 : Ty} (hnp : notPar t = true) (htp : parts t = [t1]) (S1 : SubOk w loose mean mg mb σ t1) : SubOk w loose mean mg mb σ t := by
  intro v D₁ D₂ news d o kvs hv ht ho hdi hlo hs1 hs2
  unfold CallOk
  intro dp un gd cn cs a ccd cl outer A₀ base h₀ L m s Q E B F X N T hk hdp hun hret
  have hdp1 := parts_dp1 htp
  obtain ⟨b, x, tk, vs, n, rfl, hm, hx⟩ := head_of hv hnp
  replace N := News.add (News.add N (hs1 _ hm)) (.tail _ ho)
  refine wpAny_call ?_
  k_dflt ktr_enter
  all_goals (try (with_reducible rename News _ _ _ _ => nL9; refine led_let nL9 ?_; clear nL9; intro Y0 N9))
  k_steps
  all_goals first
    | exact absurd (by with_reducible assumption) hx
    | (refine hret _ _ _ _ (by k_asm) (by k_asm) ⟨by tb_start, ?_⟩
       rw [← subst1 htp]
       refine datP_in (by with_reducible assumption) ?_
       kqd_sub)
end
section
example : True := by
  k_with_none
  k_with "subscriptTail" =>
   ((k_here; (with_reducible show wpAny _ _ (subscriptTail _ _ (Value.ref _) (Value.int _ _)) _ _ _); k_dflt (first
   | (refine' my_tup ?Z0 ?Z1 ?Z2 ?Z3 ?Z4 ?Z5 ?_; (case Z0 => k_asm); (case Z1 => k_mem); (case Z2 | Z3 => decide); (case Z4 | Z5 => rfl); k_whole)
   | (refine' my_lst ?Z0 ?Z1 ?Z2 ?Z3 ?Z5 ?_; (case Z0 => k_asm); (case Z1 => k_mem); (case Z2 | Z3 => decide); (case Z5 => rfl); k_whole))))
  k_with "eval Name" =>
   ((k_here; k_dflt (refine' nameX_L ?Z6 ?Z7 ?_; (case Z6 => k_asm); (case Z7 => exact rfl); k_whole)))
  k_with "w_k_room" =>
   (ktr_room)
  k_with "w_ktr_enter" =>
   ((refine' code_defC ?Z8 ?Z9 ?Za ?Zb ?Zc ?Zd ?Ze ?Zf ?Zg ?Zh ?Zi ?Zj ?Zk ?Zl ?_ ?Zm ?Zn ?Zo; (case Zd | Ze => exact rfl); (case Zf => first | exact rfl | assumption); (case Z8 | Z9 | Za | Zb | Zc => k_asm); (case Zg | Zh => k_is); (case Zi => ktr_room); (case Zj => exact BindsTo.of_eq rfl); (case Zk => exact rfl); (case Zl => decide +kernel); (case Zm | Zn | Zo => exact rfl); k_whole; intro g' L' h' tk' cells' FG' F' N' Y' B' X' T' l1; k_cells Y'; (try simp only [List.cons_append, List.nil_append] at N'); (try dsimp only); (try k_fold)))
  k_with "eval ListComp" =>
   ((k_here; k_dflt (refine ListComp_tup (F₀ := by k_asm) (by with_unfolding_all rfl) (by decide) (by rfl) (by decide) (by rfl) ?_)))
  k_with "SrcT" =>
   ((k_dflt (refine srcT_of (by rfl) (by k_asm) (by k_asm) (by k_mem) (by first | size_fits | exact Nat.le_of_ble_eq_true rfl) ?_); intro g'; lcg_lit))
  k_with "CompRest" =>
   ((with_unfolding_all first
   | (refine LCg.CompRest.succ ?_; intro v' I' oI' C' oC' D' m' h' tk' E' hv' hC' hx' F' N' off' ne'; lcg_open hv')
   | refine LCg.CompRest.zero ?_))
  k_with "FinE" =>
   (((unfold LCg.FinE); intro D' h' tk' F' N' o1'; (try simp only [List.nil_append, List.cons_append, List.append_assoc] at N'); (try dsimp only)))
  k_with "CompEnd" =>
   ((refine' comp_end ?Zp ?Zq ?Zr ?Zs ?Zt ?Zu ?Zv ?_; (case Zp | Zq => k_asm); (case Zr | Zs | Zt => (repeat (first | exact Pull.head | refine Pull.tail ?_))); (case Zu => lcg_off); (case Zv => (unfold HasTup; k_mem))))
  k_with "CompEnd" =>
   ((refine' comp_end_pure ?Zw ?Zx ?Zy ?Zz ?Z10 ?_; (case Zw | Zz | Zx | Zy => k_asm); (case Z10 => (unfold HasTup; k_mem))))
  k_with "getMethod ref" =>
   ((k_here; (with_reducible show wpAny _ _ (getMethod (Value.ref _) (Str.ofString "get") _) _ _ _); k_dflt (refine kdg_method (knd := PySem.strKind _ _) (by k_asm) (by k_mem) (by k_asm) ?_)))
  k_with "call builtin:dict.get" =>
   ((k_here; k_dflt (refine kdg_get2 (knd := PySem.strKind _ _) (by k_asm) (by k_mem) (by k_asm) (by k_asm) (strKind_is _ _ _ _) _ (by rfl) ?_)))
  k_with "subscriptTail" =>
   ((k_here; (with_reducible show wpAny _ _ (subscriptTail _ _ (Value.ref _) (Value.int 0 _)) _ _ _); k_dflt (refine' my_tup0 ?Z11 ?Z12 ?_; (case Z11 => k_asm); (case Z12 => k_mem); k_whole)))
  k_with "call ref" =>
   ((k_here; (with_reducible show wpAny _ _ (call (Value.ref 40) _) _ _ _); k_dflt (refine' sub_use ?Z13 ?Z14 ?Z15 ?Z16 ?Z17 ?Z18 ?Z19 ?Z1a ?Z1b ?Z1c ?Z1d ?Z1e ?Z1f ?Z1g ?Z1h ?Z1i ?_; (case Z13 | Z1c | Z1e | Z14 | Z15 => k_asm); (case Z16 => k_mem); (case Z17 | Z18 => k_asm); (case Z19 | Z1a => tb_start); (case Z1b | Z1d | Z1f => k_asm); (case Z1g => first | exact rfl | with_reducible assumption); (case Z1h => ktr_room); (case Z1i => ktr_units)); intro r9 tl9 h9 tk9 F9 N9 ab9 dt9; (try simp only [List.nil_append, List.cons_append, List.append_nil] at N9); (try dsimp only); (try k_fold)))
  k_with "call ref" =>
   ((k_here; (with_reducible show wpAny _ _ (call (Value.ref 28) _) _ _ _); k_dflt (refine' parts_use2 ?Z2v ?Z2w ?Z2x ?Z2y ?Z2z ?Z30 ?Z31 ?Z32 ?Z33 ?Z34 ?Z35 ?_; (case Z2v | Z2z | Z31 | Z2w => k_asm); (case Z2x => tb_start); (case Z2y | Z30 | Z32 => k_asm); (case Z33 => first | exact rfl | with_reducible assumption); (case Z34 => ktr_room); (case Z35 => ktr_units)); intro ax9 v9 v9' k9 tl9 h9 tk9 F9 N9 ab9 dt9 dt9'; (try simp only [List.nil_append, List.cons_append, List.append_nil] at N9); (try dsimp only); (try k_fold)))
  k_with "call ref" =>
   ((k_here; (with_reducible show wpAny _ _ (call (Value.ref 35) _) _ _ _); k_dflt (refine' rebuilt_use2 ?Z36 ?Z37 ?Z38 ?Z39 ?Z3a ?Z3b ?Z3c ?Z3d ?Z3e ?Z3f ?Z3g ?Z3h ?Z3i ?Z3j ?Z3k ?Z3l ?_; (case Z36 | Z3f | Z3h | Z37 => k_asm); (case Z38 => k_mem); (case Z39 | Z3a => k_asm); (case Z3b | Z3c | Z3d => tb_start); (case Z3e | Z3g | Z3i => k_asm); (case Z3j => first | exact rfl | with_reducible assumption); (case Z3k => ktr_room); (case Z3l => ktr_units)); intro r9 tl9 h9 tk9 F9 N9 ab9 dt9; (try simp only [List.nil_append, List.cons_append, List.append_nil] at N9); (try dsimp only); (try k_fold)))
  k_with "execs cons" =>
   (k_here; (try k_gentoks); (first | ((fail_if_success (fail_if_success k_fold)); (with_reducible refine' ec_let2 ?_); intro q0 e0 K0) | ((with_reducible refine' ec_let ?_); intro K0)); (all_goals (try ((with_reducible rename Fr _ _ _ (fun _ => ite _ _ _) => f9); refine fr_let f9 ?_; clear f9; intro m0 F0))); (try dsimp only))
  k_with "eval Constant str" =>
   (with_reducible refine' con_str ?_)
  k_with "eval Constant int" =>
   (with_reducible refine' con_int ?_)
  k_with "subscriptTail Name Constant ref int" =>
   (k_extra "subscriptTail")
  k_with "callWith ref" =>
   (k_here; (with_reducible show wpAny _ _ (callWith _ (Value.ref _) _ (backTo _ (starEach (_ :: _) _)) []) _ _ _); k_dflt (refine' callWith_K ?zc1 ?zc2 ?_; (case zc1 => with_reducible assumption); (case zc2 => k_is); k_whole))
  k_with "callWith ref" =>
   (k_here; (with_reducible show wpAny _ _ (callWith _ (Value.ref _) _ (backTo _ (starEach [] _)) []) _ _ _); k_dflt (refine' callWith_K0 ?zc1 ?zc2 ?_; (case zc1 => exact Frag.In.keeps (by with_reducible assumption) (Fr.keep (by k_asm))); (case zc2 => k_is); k_whole))
  k_with "eval Name" =>
   (k_here; k_dflt (first
   | (refine' nameX_L ?zn1 ?zn2 ?_ ?zn3 ?zn4; (case zn3 | zn4 => rfl); (case zn1 => k_asm); (case zn2 => rfl); k_whole)
   | (refine' nameX_K ?zn1 ?zn2 ?zn3 ?zn4 ?_ ?zn5 ?zn6; (case zn5 | zn6 => rfl); (case zn1 | zn2 | zn3 => k_asm); (case zn4 => k_is); k_whole)
   | (refine' nameX_B ?zn1 ?zn2 ?zn3 ?zn4 ?zn5 ?zn6 ?_ ?zn7 ?zn8; (case zn7 | zn8 => rfl); (case zn1 | zn2 | zn3 => k_asm); (case zn4 => k_is); (case zn5 => boot_fast); (case zn6 => decide); k_whole)
   | fail))
  k_with "newTuple" =>
   (k_here; k_dflt (refine' tup_let ?z30 ?z4 ?z0 ?_; (case z30 | z4 => k_asm); (case z0 => kmk_size)); intro D' h' e' Y' F' N' l1; (try k_sweep))
  k_with "newList" =>
   (k_here; k_dflt (refine' lst_let ?z30 ?z4 ?z0 ?_; (case z30 | z4 => k_asm); (case z0 => kmk_size)); intro D' h' e' Y' F' N' l1; (try k_sweep))
  k_with "binaryOp Add ref ref" =>
   (k_here; (with_reducible show wpAny _ _ (binaryOp Operator.Add (Value.ref _) (Value.ref _)) _ _ _); k_dflt (refine' kde_addT ?z1 ?z27 ?z25 ?z2 ?z18 ?z23 ?z21 ?z24 ?_; (case z1 | z27 => k_asm); (case z25 | z2 => exact News.isTup (by k_asm) (by k_mem)); (case z18 | z23 => exact List.cons_ne_nil _ _); (case z21 => exact Nat.le_of_ble_eq_true rfl); (case z24 => kun_lit)); intro D' h' F' N' l1; (replace l1 := allLt_of l1); (try k_sweep))
  k_with "k_up" =>
   (first
   | with_reducible exact hp
   | ((with_reducible refine List.mem_cons_of_mem _ ?_); k_extra "k_up")
   | ((with_reducible refine List.mem_append_left _ ?_); k_extra "k_up")
   | ((with_reducible refine List.mem_append_right _ ?_); k_extra "k_up")
   | fail)
  k_with "w_tb_start" =>
   (first
   | exact sub_nil
   | (intro p hp; k_extra "k_up")
   | (refine' sub_trans ?z28 ?z13; (case z28 => with_reducible assumption); (case z13 => (intro p hp; k_extra "k_up")))
   | ((with_reducible refine sub_app ?_ ?_) <;> tb_start)
   | ((with_reducible refine sub_cons ?_ ?_); k_mem; tb_start)
   | fail)
  k_with "w_k_mem" =>
   (focus ((repeat (with_reducible first | exact List.mem_cons_self | refine List.mem_cons_of_mem _ ?_ | refine List.mem_append_left _ ?_)); done))
  k_with "w_kqd_sub" =>
   (with_reducible first
   | exact gdJ_nil
   | (refine' gdJ_app ?_ ?_ <;> kqd_sub)
   | (refine' gd_app ?_ ?_ <;> kqd_sub)
   | (refine' gdJ_new ?z32 ?z12 ?z22 ?z9; (case z12 | z22 => assumption); (case z32 | z9 => k_dflt tb_start))
   | (refine' gd_new ?z32 ?z12 ?z9; (case z12 => assumption); (case z32 | z9 => k_dflt tb_start))
   | (refine' gd_cons0 ?z15 ?z10; (case z15 => first | (refine' gd_had ?z31 ?z38; (case z38 => assumption); (case z31 => k_dflt k_mem)) | (refine' gd_one ?z31 ?z38 ?z37; (case z38 => assumption); (case z31 => k_dflt k_mem); (case z37 => k_dflt tb_start))); (case z10 => kqd_sub))
   | (refine' gdJ_old ?z32 ?z9; (case z9 | z32 => k_dflt tb_start))
   | (refine' gd_old ?z32 ?z9; (case z9 | z32 => k_dflt tb_start))
   | fail)
  k_with "w_tb_rel" =>
   (with_reducible first
   | exact DatP.none
   | exact DatP.bool _
   | exact DatP.int _ _
   | exact DatP.str _ _
   | exact DatPs.nil
   | (refine' DatPs.cons ?_ ?_ <;> first | ((with_reducible show DatP _ _ _); tb_rel) | ((with_reducible show DatPs _ _ _); tb_rel) | ((with_reducible show Dat); skip) | ((with_reducible show List Dat); skip))
   | (refine' datP_in ?z5 ?z37; (case z5 => assumption); (case z37 => k_dflt kqd_sub))
   | (refine' datP_gdJ ?z31 ?z34 ?z35; (case z31 => k_dflt k_mem); (case z34 => first | (refine' gdJ_had ?z31 ?z38; (case z38 => assumption); (case z31 => k_dflt k_mem)) | (refine' gdJ_one ?z31 ?z38 ?z37 ?z19; (case z38 => assumption); (case z31 => k_dflt k_mem); (case z37 => k_dflt tb_start); (case z19 => k_dflt (k_extra "k_ltA")))); (case z35 => tb_rel))
   | (refine' datP_gd ?z31 ?z34 ?z35; (case z31 => k_dflt k_mem); (case z34 => first | (refine' gd_had ?z31 ?z38; (case z38 => assumption); (case z31 => k_dflt k_mem)) | (refine' gd_one ?z31 ?z38 ?z37; (case z38 => assumption); (case z31 => k_dflt k_mem); (case z37 => k_dflt tb_start))); (case z35 => tb_rel))
   | fail)
  k_with "w_lcg_off" =>
   (with_reducible first
   | assumption
   | exact off3_nil
   | (refine' off3_app ?_ ?_ <;> lcg_off)
   | (refine' off3_any ?z40 ?z14 ?z3; (case z40 => assumption); (case z14 => k_dflt k_mem); (case z3 => lcg_off))
   | (refine' off3_cons ⟨?z42, ?z16, ?z17⟩ ?z3; (case z42 | z16 | z17 => k_dflt k_ne); (case z3 => lcg_off))
   | (refine' off3_above ?z40 ?z42 ?z16 ?z17; (case z40 => assumption); (case z42 | z16 | z17 => k_dflt k_mem))
   | (refine' off3_sub ?z40 ?z3; (case z40 => assumption); (case z3 => k_dflt tb_start))
   | fail)
  k_with "w_ktr_room" =>
   ((try simp only [depth_under_make, depth_under_kw, depth_in1, depth_deeper, depth_caller]); (try dsimp only [ktrTop]); with_reducible first
   | (refine' room2 ?z11 ?z20; (case z11 => assumption); (case z20 => k_dflt (first | exact Nat.le_of_ble_eq_true rfl | omega)))
   | (refine' room1 ?z11 ?z20; (case z11 => assumption); (case z20 => k_dflt (first | exact Nat.le_of_ble_eq_true rfl | omega)))
   | (refine' room0 ?z11; (case z11 => assumption))
   | fail)
  k_with "w_ktr_units" =>
   ((try simp only [units_in1, units_deeper, Around.mark_units, units_caller]); (try dsimp only [ktrTop]); with_reducible first
   | (refine' unit2 ?z11 ?z20; (case z11 => assumption); (case z20 => k_dflt (first | exact Nat.le_of_ble_eq_true rfl | omega)))
   | (refine' unit1 ?z11 ?z20; (case z11 => assumption); (case z20 => k_dflt (first | exact Nat.le_of_ble_eq_true rfl | omega)))
   | fail)
  k_with "k_ltA" =>
   (first
   | (refine' lt_all ?z6 ?z36; (case z6 => with_reducible assumption); (case z36 => k_mem))
   | (refine ltN ?_; omega))
  k_with "w_kqd_all" =>
   (with_reducible first
   | assumption
   | exact off_nil
   | (refine' off_cons ?z29 ?z39; (case z29 => k_dflt k_ne); (case z39 => kqd_all))
   | (refine' off_app ?_ ?_ <;> kqd_all)
   | (refine' off_sub ?z8 ?z7; (case z8 => assumption); (case z7 => k_dflt tb_start))
   | (refine' off_above ?z8 ?z7; (case z8 => assumption); (case z7 => k_dflt k_mem))
   | (refine' off_lt ?z8 ?z33 ?z7; (case z8 => assumption); (case z33 => k_dflt ((show (_ : Nat) ≤ _); omega)); (case z7 => k_dflt tb_start))
   | (refine' off_o3a ?z8 ?z7; (case z8 => assumption); (case z7 => k_dflt tb_start))
   | (refine' off_o3b ?z8 ?z7; (case z8 => assumption); (case z7 => k_dflt tb_start))
   | (refine' off_o3c ?z8 ?z7; (case z8 => assumption); (case z7 => k_dflt tb_start))
   | (refine' off_o1 ?z8 ?z7; (case z8 => assumption); (case z7 => k_dflt tb_start))
   | fail)
  k_with "w_k_ne" =>
   (first
   | with_reducible assumption
   | (refine' ne_all ?z6 ?z36; (case z6 => with_reducible assumption); (case z36 => k_mem))
   | (refine' ne_all2 ?z6 ?z36; (case z6 => with_reducible assumption); (case z36 => k_mem))
   | (refine' Ne.symm ?z6; (case z6 => with_reducible assumption))
   | (refine' ne_o3a ?z6 ?z36; (case z6 => with_reducible assumption); (case z36 => k_mem))
   | (refine' ne_o3b ?z6 ?z36; (case z6 => with_reducible assumption); (case z36 => k_mem))
   | (refine' ne_o3c ?z6 ?z36; (case z6 => with_reducible assumption); (case z36 => k_mem))
   | (refine' ne_o3a' ?z6 ?z36; (case z6 => with_reducible assumption); (case z36 => k_mem))
   | (refine' ne_o3b' ?z6 ?z36; (case z6 => with_reducible assumption); (case z36 => k_mem))
   | (refine' ne_o3c' ?z6 ?z36; (case z6 => with_reducible assumption); (case z36 => k_mem))
   | (refine' ne_o1 ?z6 ?z36; (case z6 => with_reducible assumption); (case z36 => k_mem))
   | (refine' ne_o1' ?z6 ?z36; (case z6 => with_reducible assumption); (case z36 => k_mem))
   | (refine' ne_of_lt' ?z6; (case z6 => with_reducible assumption))
   | (refine' ne_of_gt' ?z6; (case z6 => with_reducible assumption))
   | (refine' ne_tr ?z41 ?z6 ?z36; (case z41 | z6 => with_reducible assumption); (case z36 => k_mem))
   | (refine' ne_trs ?z41 ?z6 ?z36; (case z41 | z6 => with_reducible assumption); (case z36 => k_mem))
   | (refine' ne_tr2 ?z41 ?z26 ?z6 ?z36; (case z41 | z26 | z6 => with_reducible assumption); (case z36 => k_mem))
   | (refine' ne_tr2s ?z41 ?z26 ?z6 ?z36; (case z41 | z26 | z6 => with_reducible assumption); (case z36 => k_mem))
   | (with_reducible refine' ne_up1 ?z6 ?z36; (case z6 => assumption); (case z36 => k_dflt k_mem))
   | (with_reducible refine' ne_up2 ?z6 ?z36; (case z6 => assumption); (case z36 => k_dflt k_mem))
   | (with_reducible refine' ne_up3 ?z6 ?z36; (case z6 => assumption); (case z36 => k_dflt k_mem))
   | (with_reducible refine' ne_dn1 ?z6 ?z36; (case z6 => assumption); (case z36 => k_dflt k_mem))
   | (with_reducible refine' ne_dn2 ?z6 ?z36; (case z6 => assumption); (case z36 => k_dflt k_mem))
   | (with_reducible refine' ne_dn3 ?z6 ?z36; (case z6 => assumption); (case z36 => k_dflt k_mem))
   | fail)
  k_with "pack" =>
   skip
  trivial
theorem sub_gen2 {t : Ty} {t1 t2 : Ty} (hnp : notPar t = true) (htp : parts t = [t1, t2]) (S1 : SubOk w loose mean mg mb σ t1) (S2 : SubOk w loose mean mg mb σ t2) : SubOk w loose mean mg mb σ t := by
  intro v D₁ D₂ news d o kvs hv ht ho hdi hlo hs1 hs2
  unfold CallOk
  intro dp un gd cn cs a ccd cl outer A₀ base h₀ L m s Q E B F X N T hk hdp hun hret
  obtain ⟨hdp1, hdp2⟩ := parts_dp2 htp
  obtain ⟨b, x, tk, vs, n, rfl, hm, hx⟩ := head_of hv hnp
  replace N := News.add (News.add N (hs1 _ hm)) (.tail _ ho)
  refine wpAny_call ?_
  k_dflt ktr_enter
  all_goals (try (with_reducible rename News _ _ _ _ => nL9; refine led_let nL9 ?_; clear nL9; intro Y0 N9))
  k_steps
  all_goals first
    | exact absurd (by with_reducible assumption) hx
    | (refine hret _ _ _ _ (by k_asm) (by k_asm) ⟨by tb_start, ?_⟩
       rw [← subst2 htp]
       refine datP_in (by with_reducible assumption) ?_
       kqd_sub)
end
example : True := by
  k_with_none
  k_with "subscriptTail" =>
   ((k_here; (with_reducible show wpAny _ _ (subscriptTail _ _ (Value.ref _) (Value.int _ _)) _ _ _); k_dflt (first
   | (refine' my_tup ?Z0 ?Z1 ?Z2 ?Z3 ?Z4 ?Z5 ?_; (case Z0 => k_asm); (case Z1 => k_mem); (case Z2 | Z3 => decide); (case Z4 | Z5 => rfl); k_whole)
   | (refine' my_lst ?Z0 ?Z1 ?Z2 ?Z3 ?Z5 ?_; (case Z0 => k_asm); (case Z1 => k_mem); (case Z2 | Z3 => decide); (case Z5 => rfl); k_whole))))
  k_with "eval Name" =>
   ((k_here; k_dflt (refine' nameX_L ?Z6 ?Z7 ?_; (case Z6 => k_asm); (case Z7 => exact rfl); k_whole)))
  k_with "w_k_room" =>
   (ktr_room)
  k_with "w_ktr_enter" =>
   ((refine' code_defC ?Z8 ?Z9 ?Za ?Zb ?Zc ?Zd ?Ze ?Zf ?Zg ?Zh ?Zi ?Zj ?Zk ?Zl ?_ ?Zm ?Zn ?Zo; (case Zd | Ze => exact rfl); (case Zf => first | exact rfl | assumption); (case Z8 | Z9 | Za | Zb | Zc => k_asm); (case Zg | Zh => k_is); (case Zi => ktr_room); (case Zj => exact BindsTo.of_eq rfl); (case Zk => exact rfl); (case Zl => decide +kernel); (case Zm | Zn | Zo => exact rfl); k_whole; intro g' L' h' tk' cells' FG' F' N' Y' B' X' T' l1; k_cells Y'; (try simp only [List.cons_append, List.nil_append] at N'); (try dsimp only); (try k_fold)))
  k_with "eval ListComp" =>
   ((k_here; k_dflt (refine ListComp_tup (F₀ := by k_asm) (by with_unfolding_all rfl) (by decide) (by rfl) (by decide) (by rfl) ?_)))
  k_with "SrcT" =>
   ((k_dflt (refine srcT_of (by rfl) (by k_asm) (by k_asm) (by k_mem) (by first | size_fits | exact Nat.le_of_ble_eq_true rfl) ?_); intro g'; lcg_lit))
  k_with "CompRest" =>
   ((with_unfolding_all first
   | (refine LCg.CompRest.succ ?_; intro v' I' oI' C' oC' D' m' h' tk' E' hv' hC' hx' F' N' off' ne'; lcg_open hv')
   | refine LCg.CompRest.zero ?_))
  k_with "FinE" =>
   (((unfold LCg.FinE); intro D' h' tk' F' N' o1'; (try simp only [List.nil_append, List.cons_append, List.append_assoc] at N'); (try dsimp only)))
  k_with "CompEnd" =>
   ((refine' comp_end ?Zp ?Zq ?Zr ?Zs ?Zt ?Zu ?Zv ?_; (case Zp | Zq => k_asm); (case Zr | Zs | Zt => (repeat (first | exact Pull.head | refine Pull.tail ?_))); (case Zu => lcg_off); (case Zv => (unfold HasTup; k_mem))))
  k_with "CompEnd" =>
   ((refine' comp_end_pure ?Zw ?Zx ?Zy ?Zz ?Z10 ?_; (case Zw | Zz | Zx | Zy => k_asm); (case Z10 => (unfold HasTup; k_mem))))
  k_with "getMethod ref" =>
   ((k_here; (with_reducible show wpAny _ _ (getMethod (Value.ref _) (Str.ofString "get") _) _ _ _); k_dflt (refine kdg_method (knd := PySem.strKind _ _) (by k_asm) (by k_mem) (by k_asm) ?_)))
  k_with "call builtin:dict.get" =>
   ((k_here; k_dflt (refine kdg_get2 (knd := PySem.strKind _ _) (by k_asm) (by k_mem) (by k_asm) (by k_asm) (strKind_is _ _ _ _) _ (by rfl) ?_)))
  k_with "subscriptTail" =>
   ((k_here; (with_reducible show wpAny _ _ (subscriptTail _ _ (Value.ref _) (Value.int 0 _)) _ _ _); k_dflt (refine' my_tup0 ?Z11 ?Z12 ?_; (case Z11 => k_asm); (case Z12 => k_mem); k_whole)))
  k_with "call ref" =>
   ((k_here; (with_reducible show wpAny _ _ (call (Value.ref 40) _) _ _ _); k_dflt (refine' sub_use ?Z13 ?Z14 ?Z15 ?Z16 ?Z17 ?Z18 ?Z19 ?Z1a ?Z1b ?Z1c ?Z1d ?Z1e ?Z1f ?Z1g ?Z1h ?Z1i ?_; (case Z13 | Z1c | Z1e | Z14 | Z15 => k_asm); (case Z16 => k_mem); (case Z17 | Z18 => k_asm); (case Z19 | Z1a => tb_start); (case Z1b | Z1d | Z1f => k_asm); (case Z1g => first | exact rfl | with_reducible assumption); (case Z1h => ktr_room); (case Z1i => ktr_units)); intro r9 tl9 h9 tk9 F9 N9 ab9 dt9; (try simp only [List.nil_append, List.cons_append, List.append_nil] at N9); (try dsimp only); (try k_fold)))
  k_with "execs cons" =>
   (k_here; (try k_gentoks); (first | ((fail_if_success (fail_if_success k_fold)); (with_reducible refine' ec_let2 ?_); intro q0 e0 K0) | ((with_reducible refine' ec_let ?_); intro K0)); (all_goals (try ((with_reducible rename Fr _ _ _ (fun _ => ite _ _ _) => f9); refine fr_let f9 ?_; clear f9; intro m0 F0))); (try dsimp only))
  k_with "eval Constant str" =>
   (with_reducible refine' con_str ?_)
  k_with "eval Constant int" =>
   (with_reducible refine' con_int ?_)
  k_with "subscriptTail Name Constant ref int" =>
   (k_extra "subscriptTail")
  k_with "callWith ref" =>
   (k_here; (with_reducible show wpAny _ _ (callWith _ (Value.ref _) _ (backTo _ (starEach (_ :: _) _)) []) _ _ _); k_dflt (refine' callWith_K ?zc1 ?zc2 ?_; (case zc1 => with_reducible assumption); (case zc2 => k_is); k_whole))
  k_with "callWith ref" =>
   (k_here; (with_reducible show wpAny _ _ (callWith _ (Value.ref _) _ (backTo _ (starEach [] _)) []) _ _ _); k_dflt (refine' callWith_K0 ?zc1 ?zc2 ?_; (case zc1 => exact Frag.In.keeps (by with_reducible assumption) (Fr.keep (by k_asm))); (case zc2 => k_is); k_whole))
  k_with "eval Name" =>
   (k_here; k_dflt (first
   | (refine' nameX_L ?zn1 ?zn2 ?_ ?zn3 ?zn4; (case zn3 | zn4 => rfl); (case zn1 => k_asm); (case zn2 => rfl); k_whole)
   | (refine' nameX_K ?zn1 ?zn2 ?zn3 ?zn4 ?_ ?zn5 ?zn6; (case zn5 | zn6 => rfl); (case zn1 | zn2 | zn3 => k_asm); (case zn4 => k_is); k_whole)
   | (refine' nameX_B ?zn1 ?zn2 ?zn3 ?zn4 ?zn5 ?zn6 ?_ ?zn7 ?zn8; (case zn7 | zn8 => rfl); (case zn1 | zn2 | zn3 => k_asm); (case zn4 => k_is); (case zn5 => boot_fast); (case zn6 => decide); k_whole)
   | fail))
  k_with "newTuple" =>
   (k_here; k_dflt (refine' tup_let ?z30 ?z4 ?z0 ?_; (case z30 | z4 => k_asm); (case z0 => kmk_size)); intro D' h' e' Y' F' N' l1; (try k_sweep))
  k_with "newList" =>
   (k_here; k_dflt (refine' lst_let ?z30 ?z4 ?z0 ?_; (case z30 | z4 => k_asm); (case z0 => kmk_size)); intro D' h' e' Y' F' N' l1; (try k_sweep))
  k_with "binaryOp Add ref ref" =>
   (k_here; (with_reducible show wpAny _ _ (binaryOp Operator.Add (Value.ref _) (Value.ref _)) _ _ _); k_dflt (refine' kde_addT ?z1 ?z27 ?z25 ?z2 ?z18 ?z23 ?z21 ?z24 ?_; (case z1 | z27 => k_asm); (case z25 | z2 => exact News.isTup (by k_asm) (by k_mem)); (case z18 | z23 => exact List.cons_ne_nil _ _); (case z21 => exact Nat.le_of_ble_eq_true rfl); (case z24 => kun_lit)); intro D' h' F' N' l1; (replace l1 := allLt_of l1); (try k_sweep))
  k_with "k_up" =>
   (first
   | with_reducible exact hp
   | ((with_reducible refine List.mem_cons_of_mem _ ?_); k_extra "k_up")
   | ((with_reducible refine List.mem_append_left _ ?_); k_extra "k_up")
   | ((with_reducible refine List.mem_append_right _ ?_); k_extra "k_up")
   | fail)
  k_with "w_tb_start" =>
   (first
   | exact sub_nil
   | (intro p hp; k_extra "k_up")
   | (refine' sub_trans ?z28 ?z13; (case z28 => with_reducible assumption); (case z13 => (intro p hp; k_extra "k_up")))
   | ((with_reducible refine sub_app ?_ ?_) <;> tb_start)
   | ((with_reducible refine sub_cons ?_ ?_); k_mem; tb_start)
   | fail)
  k_with "w_k_mem" =>
   (focus ((repeat (with_reducible first | exact List.mem_cons_self | refine List.mem_cons_of_mem _ ?_ | refine List.mem_append_left _ ?_)); done))
  k_with "w_kqd_sub" =>
   (with_reducible first
   | exact gdJ_nil
   | (refine' gdJ_app ?_ ?_ <;> kqd_sub)
   | (refine' gd_app ?_ ?_ <;> kqd_sub)
   | (refine' gdJ_new ?z32 ?z12 ?z22 ?z9; (case z12 | z22 => assumption); (case z32 | z9 => k_dflt tb_start))
   | (refine' gd_new ?z32 ?z12 ?z9; (case z12 => assumption); (case z32 | z9 => k_dflt tb_start))
   | (refine' gd_cons0 ?z15 ?z10; (case z15 => first | (refine' gd_had ?z31 ?z38; (case z38 => assumption); (case z31 => k_dflt k_mem)) | (refine' gd_one ?z31 ?z38 ?z37; (case z38 => assumption); (case z31 => k_dflt k_mem); (case z37 => k_dflt tb_start))); (case z10 => kqd_sub))
   | (refine' gdJ_old ?z32 ?z9; (case z9 | z32 => k_dflt tb_start))
   | (refine' gd_old ?z32 ?z9; (case z9 | z32 => k_dflt tb_start))
   | fail)
  k_with "w_tb_rel" =>
   (with_reducible first
   | exact DatP.none
   | exact DatP.bool _
   | exact DatP.int _ _
   | exact DatP.str _ _
   | exact DatPs.nil
   | (refine' DatPs.cons ?_ ?_ <;> first | ((with_reducible show DatP _ _ _); tb_rel) | ((with_reducible show DatPs _ _ _); tb_rel) | ((with_reducible show Dat); skip) | ((with_reducible show List Dat); skip))
   | (refine' datP_in ?z5 ?z37; (case z5 => assumption); (case z37 => k_dflt kqd_sub))
   | (refine' datP_gdJ ?z31 ?z34 ?z35; (case z31 => k_dflt k_mem); (case z34 => first | (refine' gdJ_had ?z31 ?z38; (case z38 => assumption); (case z31 => k_dflt k_mem)) | (refine' gdJ_one ?z31 ?z38 ?z37 ?z19; (case z38 => assumption); (case z31 => k_dflt k_mem); (case z37 => k_dflt tb_start); (case z19 => k_dflt (k_extra "k_ltA")))); (case z35 => tb_rel))
   | (refine' datP_gd ?z31 ?z34 ?z35; (case z31 => k_dflt k_mem); (case z34 => first | (refine' gd_had ?z31 ?z38; (case z38 => assumption); (case z31 => k_dflt k_mem)) | (refine' gd_one ?z31 ?z38 ?z37; (case z38 => assumption); (case z31 => k_dflt k_mem); (case z37 => k_dflt tb_start))); (case z35 => tb_rel))
   | fail)
  k_with "w_lcg_off" =>
   (with_reducible first
   | assumption
   | exact off3_nil
   | (refine' off3_app ?_ ?_ <;> lcg_off)
   | (refine' off3_any ?z40 ?z14 ?z3; (case z40 => assumption); (case z14 => k_dflt k_mem); (case z3 => lcg_off))
   | (refine' off3_cons ⟨?z42, ?z16, ?z17⟩ ?z3; (case z42 | z16 | z17 => k_dflt k_ne); (case z3 => lcg_off))
   | (refine' off3_above ?z40 ?z42 ?z16 ?z17; (case z40 => assumption); (case z42 | z16 | z17 => k_dflt k_mem))
   | (refine' off3_sub ?z40 ?z3; (case z40 => assumption); (case z3 => k_dflt tb_start))
   | fail)
  k_with "w_ktr_room" =>
   ((try simp only [depth_under_make, depth_under_kw, depth_in1, depth_deeper, depth_caller]); (try dsimp only [ktrTop]); with_reducible first
   | (refine' room2 ?z11 ?z20; (case z11 => assumption); (case z20 => k_dflt (first | exact Nat.le_of_ble_eq_true rfl | omega)))
   | (refine' room1 ?z11 ?z20; (case z11 => assumption); (case z20 => k_dflt (first | exact Nat.le_of_ble_eq_true rfl | omega)))
   | (refine' room0 ?z11; (case z11 => assumption))
   | fail)
  k_with "w_ktr_units" =>
   ((try simp only [units_in1, units_deeper, Around.mark_units, units_caller]); (try dsimp only [ktrTop]); with_reducible first
   | (refine' unit2 ?z11 ?z20; (case z11 => assumption); (case z20 => k_dflt (first | exact Nat.le_of_ble_eq_true rfl | omega)))
   | (refine' unit1 ?z11 ?z20; (case z11 => assumption); (case z20 => k_dflt (first | exact Nat.le_of_ble_eq_true rfl | omega)))
   | fail)
  k_with "k_ltA" =>
   (first
   | (refine' lt_all ?z6 ?z36; (case z6 => with_reducible assumption); (case z36 => k_mem))
   | (refine ltN ?_; omega))
  k_with "w_kqd_all" =>
   (with_reducible first
   | assumption
   | exact off_nil
   | (refine' off_cons ?z29 ?z39; (case z29 => k_dflt k_ne); (case z39 => kqd_all))
   | (refine' off_app ?_ ?_ <;> kqd_all)
   | (refine' off_sub ?z8 ?z7; (case z8 => assumption); (case z7 => k_dflt tb_start))
   | (refine' off_above ?z8 ?z7; (case z8 => assumption); (case z7 => k_dflt k_mem))
   | (refine' off_lt ?z8 ?z33 ?z7; (case z8 => assumption); (case z33 => k_dflt ((show (_ : Nat) ≤ _); omega)); (case z7 => k_dflt tb_start))
   | (refine' off_o3a ?z8 ?z7; (case z8 => assumption); (case z7 => k_dflt tb_start))
   | (refine' off_o3b ?z8 ?z7; (case z8 => assumption); (case z7 => k_dflt tb_start))
   | (refine' off_o3c ?z8 ?z7; (case z8 => assumption); (case z7 => k_dflt tb_start))
   | (refine' off_o1 ?z8 ?z7; (case z8 => assumption); (case z7 => k_dflt tb_start))
   | fail)
  k_with "w_k_ne" =>
   (first
   | with_reducible assumption
   | (refine' ne_all ?z6 ?z36; (case z6 => with_reducible assumption); (case z36 => k_mem))
   | (refine' ne_all2 ?z6 ?z36; (case z6 => with_reducible assumption); (case z36 => k_mem))
   | (refine' Ne.symm ?z6; (case z6 => with_reducible assumption))
   | (refine' ne_o3a ?z6 ?z36; (case z6 => with_reducible assumption); (case z36 => k_mem))
   | (refine' ne_o3b ?z6 ?z36; (case z6 => with_reducible assumption); (case z36 => k_mem))
   | (refine' ne_o3c ?z6 ?z36; (case z6 => with_reducible assumption); (case z36 => k_mem))
   | (refine' ne_o3a' ?z6 ?z36; (case z6 => with_reducible assumption); (case z36 => k_mem))
   | (refine' ne_o3b' ?z6 ?z36; (case z6 => with_reducible assumption); (case z36 => k_mem))
   | (refine' ne_o3c' ?z6 ?z36; (case z6 => with_reducible assumption); (case z36 => k_mem))
   | (refine' ne_o1 ?z6 ?z36; (case z6 => with_reducible assumption); (case z36 => k_mem))
   | (refine' ne_o1' ?z6 ?z36; (case z6 => with_reducible assumption); (case z36 => k_mem))
   | (refine' ne_of_lt' ?z6; (case z6 => with_reducible assumption))
   | (refine' ne_of_gt' ?z6; (case z6 => with_reducible assumption))
   | (refine' ne_tr ?z41 ?z6 ?z36; (case z41 | z6 => with_reducible assumption); (case z36 => k_mem))
   | (refine' ne_trs ?z41 ?z6 ?z36; (case z41 | z6 => with_reducible assumption); (case z36 => k_mem))
   | (refine' ne_tr2 ?z41 ?z26 ?z6 ?z36; (case z41 | z26 | z6 => with_reducible assumption); (case z36 => k_mem))
   | (refine' ne_tr2s ?z41 ?z26 ?z6 ?z36; (case z41 | z26 | z6 => with_reducible assumption); (case z36 => k_mem))
   | (with_reducible refine' ne_up1 ?z6 ?z36; (case z6 => assumption); (case z36 => k_dflt k_mem))
   | (with_reducible refine' ne_up2 ?z6 ?z36; (case z6 => assumption); (case z36 => k_dflt k_mem))
   | (with_reducible refine' ne_up3 ?z6 ?z36; (case z6 => assumption); (case z36 => k_dflt k_mem))
   | (with_reducible refine' ne_dn1 ?z6 ?z36; (case z6 => assumption); (case z36 => k_dflt k_mem))
   | (with_reducible refine' ne_dn2 ?z6 ?z36; (case z6 => assumption); (case z36 => k_dflt k_mem))
   | (with_reducible refine' ne_dn3 ?z6 ?z36; (case z6 => assumption); (case z36 => k_dflt k_mem))
   | fail)
  k_with "pack" =>
   skip
  trivial
theorem sub_ok : ∀ t, SubOk w loose mean mg mb σ t
  | .par x => sub_par x
  | .int => sub_gen0 rfl rfl
  | .bool => sub_gen0 rfl rfl
  | .never => sub_gen0 rfl rfl
  | .ref _ _ t => sub_gen1 rfl rfl (sub_ok t)
  | .box t => sub_gen1 rfl rfl (sub_ok t)
  | .arr t => sub_gen1 rfl rfl (sub_ok t)
  | .adt _ t => sub_gen1 rfl rfl (sub_ok t)
  | .tup t u => sub_gen2 rfl rfl (sub_ok t) (sub_ok u)
end
end Mine
namespace Mine
example : True := by
  w_top off
  k_with_none
  trivial

section
variable {w : World} {loose : List Str} {mean : ExcName → Option Value} {mg mb : Str → Option Value}
def rmapG (f : Rg → Rg) : Ty → Ty
  | .ref r m t => .ref (f r) m (rmapG f t)
  | .box t => .box (rmapG f t)
  | .arr t => .arr (rmapG f t)
  | .adt r t => .adt (f r) (rmapG f t)
  | .tup t u => .tup (rmapG f t) (rmapG f u)
  | t => t
def FnIn (w : World) (c : Addr) (D₀ : List (Addr × Obj)) : Prop :=
  ∀ {h₀ : Heap} {L : Addr} {h : Heap} {m : Str → Option Value} {news : List (Addr × Obj)}, Fr h₀ L h m → News h₀ L h news → (hd.heap_1 w.params).In h₀ → (∀ p ∈ D₀, p ∈ news) → FnAt c h
def ChG (w : World) (loose : List Str) (mean : ExcName → Option Value) (mg mb : Str → Option Value) (c : Addr) (D₀ : List (Addr × Obj)) (R : Rg → Prop) (f : Rg → Rg) (k : Nat) : Prop :=
  FnIn w c D₀ ∧ ∀ r v D news, R r → Dt D v (rgD r) → (∀ p ∈ D, p ∈ news) → (∀ p ∈ D₀, p ∈ news) → CallOk PySem.Challenge.rw_xm0591_01.row.prog w (hd.heap_1 w.params) topProg loose mean mg mb k c [v] news (PPost [] news (rgD (f r)))
def WrG (w : World) (loose : List Str) (mean : ExcName → Option Value) (mg mb : Str → Option Value) (c : Addr) (D₀ : List (Addr × Obj)) (f : Rg → Rg) (k : Nat) (t : Ty) : Prop :=
  ∀ v D news, Dt D v (tyD t) → (∀ p ∈ D, p ∈ news) → (∀ p ∈ D₀, p ∈ news) →
    CallOk PySem.Challenge.rw_xm0591_01.row.prog w (hd.heap_1 w.params) topProg loose mean mg mb (2 * t.dp + 3 + k) 45 [v, .ref c] news (PPost D news (tyD (rmapG f t)))
variable {c : Addr} {D₀ : List (Addr × Obj)} {R : Rg → Prop} {f : Rg → Rg} {k : Nat}
theorem cg_use {rg : Rg} {v : Value} {news D : List (Addr × Obj)}
  {dp un : Nat} {gd : Option (List Code)} {cn : Str} {cs : Scope} {a : Addr} {ccd : Value} {cl : List (Str × Addr)} {outer : List Env} {A₀ : Around} {base h₀ : Heap} {L : Addr} {m : Str → Option Value} {hS : Heap} {gS : Array GenState} {dS : Drawn} {tS : Nat} {oS : OsState} {Q E : Value → Shared → Prop}
  (C : ChG w loose mean mg mb c D₀ R f k) (hR : R rg) (hv : Dt D v (rgD rg)) (s1 : ∀ p ∈ D, p ∈ news) (s2 : ∀ p ∈ D₀, p ∈ news)
  (B : Below A₀ base outer h₀) (F : Fr h₀ L hS m) (X : (hd.heap_1 w.params).In h₀) (N : News h₀ L hS news) (T : Top topProg loose mean mg mb h₀) (hk : cs.kind = .function) (hr : dp + k < recursionLimit) (hu : un + 8 * k < cLine)
  (ret : ∀ r tl h' tk', Fr h₀ L h' m → News h₀ L h' (news ++ tl) → Above news tl → Dt ([] ++ tl) r (rgD (f rg)) → Q (r) ⟨h', gS, dS, tk', oS⟩) : wpAny (model PySem.Challenge.rw_xm0591_01.row.prog w) (ktrTop dp un gd cn cs L a ccd cl outer) (call (.ref c) [v]) Q E ⟨hS, gS, dS, tS, oS⟩ :=
  pure_use B F X N T hk (C.2 rg v D news hR hv s1 s2) hr hu ret
theorem wg_use {t : Ty} {news D : List (Addr × Obj)} {v : Value}
  {dp un : Nat} {gd : Option (List Code)} {cn : Str} {cs : Scope} {a : Addr} {ccd : Value} {cl : List (Str × Addr)} {outer : List Env} {A₀ : Around} {base h₀ : Heap} {L : Addr} {m : Str → Option Value} {hS : Heap} {gS : Array GenState} {dS : Drawn} {tS : Nat} {oS : OsState} {Q E : Value → Shared → Prop}
  (hv : Dt D v (tyD t)) (S : WrG w loose mean mg mb c D₀ f k t) (s1 : ∀ p ∈ D, p ∈ news) (s2 : ∀ p ∈ D₀, p ∈ news)
  (B : Below A₀ base outer h₀) (F : Fr h₀ L hS m) (X : (hd.heap_1 w.params).In h₀) (N : News h₀ L hS news) (T : Top topProg loose mean mg mb h₀) (hk : cs.kind = .function) (hr : dp + (2 * t.dp + 3 + k) < recursionLimit) (hu : un + 8 * (2 * t.dp + 3 + k) < cLine)
  (ret : ∀ r tl h' tk', Fr h₀ L h' m → News h₀ L h' (news ++ tl) → Above news tl → Dt (D ++ tl) r (tyD (rmapG f t)) → Q (r) ⟨h', gS, dS, tk', oS⟩) : wpAny (model PySem.Challenge.rw_xm0591_01.row.prog w) (ktrTop dp un gd cn cs L a ccd cl outer) (call (.ref 45) [v, .ref c]) Q E ⟨hS, gS, dS, tS, oS⟩ :=
  pure_use B F X N T hk (S v D news hv s1 s2) hr hu ret
def noReg : Ty → Bool
  | .ref _ _ _ => false
  | .adt _ _ => false
  | _ => true
theorem head_noReg {l : List (Addr × Obj)} {v : Value} {t : Ty} (h : Dt l v (tyD t)) (hp : noReg t = true) : ∃ b x tk vs n, v = .ref b ∧ (b, tupO (.str x tk :: vs) n) ∈ l ∧ ¬ ((x == Str.ofString "ref") = true) ∧ ¬ ((x == Str.ofString "adt") = true) := by
  have key : ∀ {x : Str} {ds : List Dat}, Dt l v (.tuple (.str x :: ds)) → ¬ ((x == Str.ofString "ref") = true) → ¬ ((x == Str.ofString "adt") = true) → ∃ b x tk vs n, v = .ref b ∧ (b, tupO (.str x tk :: vs) n) ∈ l ∧ ¬ ((x == Str.ofString "ref") = true) ∧ ¬ ((x == Str.ofString "adt") = true) := by
    intro x ds h hx hy
    obtain ⟨b, vs, n, rfl, hm, r⟩ := in_tuple h
    obtain ⟨v1, ws, rfl, h1, r⟩ := all_cons r
    obtain ⟨tk, rfl⟩ := in_str h1
    exact ⟨b, x, tk, ws, n, rfl, hm, hx, hy⟩
  cases t with
  | ref _ _ _ => simp [noReg] at hp
  | adt _ _ => simp [noReg] at hp
  | _ => exact key h (by decide +kernel) (by decide +kernel)
theorem rmapG0 {t : Ty} (hp : noReg t = true) (h : parts t = []) : rebuild t [] = rmapG f t := by
  cases t <;> simp_all [parts, noReg, rebuild, rmapG]
theorem rmapG1 {t t1 : Ty} (hp : noReg t = true) (h : parts t = [t1]) : rebuild t [rmapG f t1] = rmapG f t := by
  cases t <;> simp_all [parts, noReg, rebuild, rmapG]
theorem rmapG2 {t t1 t2 : Ty} (h : parts t = [t1, t2]) : rebuild t [rmapG f t1, rmapG f t2] = rmapG f t := by
  cases t <;> simp_all [parts, rebuild, rmapG]
section
example : True := by
  k_with_none
  k_with "subscriptTail" =>
   ((k_here; (with_reducible show wpAny _ _ (subscriptTail _ _ (Value.ref _) (Value.int _ _)) _ _ _); k_dflt (first
   | (refine' my_tup ?Z0 ?Z1 ?Z2 ?Z3 ?Z4 ?Z5 ?_; (case Z0 => k_asm); (case Z1 => k_mem); (case Z2 | Z3 => decide); (case Z4 | Z5 => rfl); k_whole)
   | (refine' my_lst ?Z0 ?Z1 ?Z2 ?Z3 ?Z5 ?_; (case Z0 => k_asm); (case Z1 => k_mem); (case Z2 | Z3 => decide); (case Z5 => rfl); k_whole))))
  k_with "eval Name" =>
   ((k_here; k_dflt (refine' nameX_L ?Z6 ?Z7 ?_; (case Z6 => k_asm); (case Z7 => exact rfl); k_whole)))
  k_with "w_k_room" =>
   (ktr_room)
  k_with "w_ktr_enter" =>
   ((refine' code_defC ?Z8 ?Z9 ?Za ?Zb ?Zc ?Zd ?Ze ?Zf ?Zg ?Zh ?Zi ?Zj ?Zk ?Zl ?_ ?Zm ?Zn ?Zo; (case Zd | Ze => exact rfl); (case Zf => first | exact rfl | assumption); (case Z8 | Z9 | Za | Zb | Zc => k_asm); (case Zg | Zh => k_is); (case Zi => ktr_room); (case Zj => exact BindsTo.of_eq rfl); (case Zk => exact rfl); (case Zl => decide +kernel); (case Zm | Zn | Zo => exact rfl); k_whole; intro g' L' h' tk' cells' FG' F' N' Y' B' X' T' l1; k_cells Y'; (try simp only [List.cons_append, List.nil_append] at N'); (try dsimp only); (try k_fold)))
  k_with "eval ListComp" =>
   ((k_here; k_dflt (refine ListComp_tup (F₀ := by k_asm) (by with_unfolding_all rfl) (by decide) (by rfl) (by decide) (by rfl) ?_)))
  k_with "SrcT" =>
   ((k_dflt (refine srcT_of (by rfl) (by k_asm) (by k_asm) (by k_mem) (by first | size_fits | exact Nat.le_of_ble_eq_true rfl) ?_); intro g'; lcg_lit))
  k_with "CompRest" =>
   ((with_unfolding_all first
   | (refine LCg.CompRest.succ ?_; intro v' I' oI' C' oC' D' m' h' tk' E' hv' hC' hx' F' N' off' ne'; lcg_open hv')
   | refine LCg.CompRest.zero ?_))
  k_with "FinE" =>
   (((unfold LCg.FinE); intro D' h' tk' F' N' o1'; (try simp only [List.nil_append, List.cons_append, List.append_assoc] at N'); (try dsimp only)))
  k_with "CompEnd" =>
   ((refine' comp_end ?Zp ?Zq ?Zr ?Zs ?Zt ?Zu ?Zv ?_; (case Zp | Zq => k_asm); (case Zr | Zs | Zt => (repeat (first | exact Pull.head | apply Pull.tail))); (case Zu => lcg_off); (case Zv => (unfold HasTup; k_mem))))
  k_with "CompEnd" =>
   ((refine' comp_end_pure ?Zw ?Zx ?Zy ?Zz ?Z10 ?_; (case Zw | Zz | Zx | Zy => k_asm); (case Z10 => (unfold HasTup; k_mem))))
  k_with "call ref" =>
   ((k_here; (with_reducible show wpAny _ _ (call (Value.ref 45) _) _ _ _); k_dflt (refine' wg_use ?Z11 ?Z12 ?Z13 ?Z14 ?Z15 ?Z16 ?Z17 ?Z18 ?Z19 ?Z1a ?Z1b ?Z1c ?_; (case Z11 | Z16 | Z18 | Z12 => k_asm); (case Z13 | Z14 => tb_start); (case Z15 | Z17 | Z19 => k_asm); (case Z1a => first | exact rfl | with_reducible assumption); (case Z1b => ktr_room); (case Z1c => ktr_units)); intro r9 tl9 h9 tk9 F9 N9 ab9 dt9; (try simp only [List.nil_append, List.cons_append, List.append_nil] at N9); (try dsimp only); (try k_fold)))
  k_with "call ref" =>
   ((k_here; k_dflt (refine' cg_use ?Z1d ?Z1e ?Z1f ?Z1g ?Z1h ?Z1i ?Z1j ?Z1k ?Z1l ?Z1m ?Z1n ?Z1o ?Z1p ?_; (case Z1d | Z1e => with_reducible assumption); (case Z1f | Z1j | Z1l => k_asm); (case Z1g | Z1h => tb_start); (case Z1i | Z1k | Z1m => k_asm); (case Z1n => first | exact rfl | with_reducible assumption); (case Z1o => ktr_room); (case Z1p => ktr_units)); intro r9 tl9 h9 tk9 F9 N9 ab9 dt9; (try simp only [List.nil_append, List.cons_append, List.append_nil] at N9); (try dsimp only); (try k_fold)))
  k_with "subscriptTail" =>
   ((k_here; (with_reducible show wpAny _ _ (subscriptTail _ _ (Value.ref _) (Value.int 0 _)) _ _ _); k_dflt (refine' my_tup0 ?Z1q ?Z1r ?_; (case Z1q => k_asm); (case Z1r => k_mem); k_whole)))
  k_with "call ref" =>
   ((k_here; (with_reducible show wpAny _ _ (call (Value.ref 28) _) _ _ _); k_dflt (refine' parts_use0 ?Z1s ?Z1t ?Z1u ?Z1v ?Z1w ?Z1x ?Z1y ?Z1z ?Z20 ?Z21 ?Z22 ?_; (case Z1s | Z1w | Z1y | Z1t => k_asm); (case Z1u => tb_start); (case Z1v | Z1x | Z1z => k_asm); (case Z20 => first | exact rfl | with_reducible assumption); (case Z21 => ktr_room); (case Z22 => ktr_units)); intro ax9 k9 tl9 h9 tk9 F9 N9 ab9; (try simp only [List.nil_append, List.cons_append, List.append_nil] at N9); (try dsimp only); (try k_fold)))
  k_with "call ref" =>
   ((k_here; (with_reducible show wpAny _ _ (call (Value.ref 35) _) _ _ _); k_dflt (refine' rebuilt_use0 ?Z23 ?Z24 ?Z25 ?Z26 ?Z27 ?Z28 ?Z29 ?Z2a ?Z2b ?Z2c ?Z2d ?Z2e ?_; (case Z23 | Z28 | Z2a | Z24 => k_asm); (case Z25 => k_mem); (case Z26 => tb_start); (case Z27 | Z29 | Z2b => k_asm); (case Z2c => first | exact rfl | with_reducible assumption); (case Z2d => ktr_room); (case Z2e => ktr_units)); intro r9 tl9 h9 tk9 F9 N9 ab9 dt9; (try simp only [List.nil_append, List.cons_append, List.append_nil] at N9); (try dsimp only); (try k_fold)))
  k_with "execs cons" =>
   (k_here; (try k_gentoks); (first | ((fail_if_success (fail_if_success k_fold)); (with_reducible refine' ec_let2 ?_); intro q0 e0 K0) | ((with_reducible refine' ec_let ?_); intro K0)); (all_goals (try ((with_reducible rename Fr _ _ _ (fun _ => ite _ _ _) => f9); refine fr_let f9 ?_; clear f9; intro m0 F0))); (try dsimp only))
  k_with "eval Constant str" =>
   (with_reducible refine' con_str ?_)
  k_with "eval Constant int" =>
   (with_reducible refine' con_int ?_)
  k_with "subscriptTail Name Constant ref int" =>
   (k_extra "subscriptTail")
  k_with "eval Name" =>
   (k_here; k_dflt (first
   | (refine' nameX_L ?zn1 ?zn2 ?_ ?zn3 ?zn4; (case zn3 | zn4 => rfl); (case zn1 => k_asm); (case zn2 => rfl); k_whole)
   | (refine' nameX_K ?zn1 ?zn2 ?zn3 ?zn4 ?_ ?zn5 ?zn6; (case zn5 | zn6 => rfl); (case zn1 | zn2 | zn3 => k_asm); (case zn4 => k_is); k_whole)
   | (refine' nameX_B ?zn1 ?zn2 ?zn3 ?zn4 ?zn5 ?zn6 ?_ ?zn7 ?zn8; (case zn7 | zn8 => rfl); (case zn1 | zn2 | zn3 => k_asm); (case zn4 => k_is); (case zn5 => boot_fast); (case zn6 => decide); k_whole)
   | fail))
  k_with "newTuple" =>
   (k_here; k_dflt (refine' tup_let ?z30 ?z4 ?z0 ?_; (case z30 | z4 => k_asm); (case z0 => kmk_size)); intro D' h' e' Y' F' N' l1; (try k_sweep))
  k_with "newList" =>
   (k_here; k_dflt (refine' lst_let ?z30 ?z4 ?z0 ?_; (case z30 | z4 => k_asm); (case z0 => kmk_size)); intro D' h' e' Y' F' N' l1; (try k_sweep))
  k_with "binaryOp Add ref ref" =>
   (k_here; (with_reducible show wpAny _ _ (binaryOp Operator.Add (Value.ref _) (Value.ref _)) _ _ _); k_dflt (refine' kde_addT ?z1 ?z27 ?z25 ?z2 ?z18 ?z23 ?z21 ?z24 ?_; (case z1 | z27 => k_asm); (case z25 | z2 => exact News.isTup (by k_asm) (by k_mem)); (case z18 | z23 => exact List.cons_ne_nil _ _); (case z21 => exact Nat.le_of_ble_eq_true rfl); (case z24 => kun_lit)); intro D' h' F' N' l1; (replace l1 := allLt_of l1); (try k_sweep))
  k_with "k_up" =>
   (first
   | with_reducible exact hp
   | ((with_reducible refine List.mem_cons_of_mem _ ?_); k_extra "k_up")
   | ((with_reducible refine List.mem_append_left _ ?_); k_extra "k_up")
   | ((with_reducible refine List.mem_append_right _ ?_); k_extra "k_up")
   | fail)
  k_with "w_tb_start" =>
   (first
   | exact sub_nil
   | (intro p hp; k_extra "k_up")
   | (refine' sub_trans ?z28 ?z13; (case z28 => with_reducible assumption); (case z13 => (intro p hp; k_extra "k_up")))
   | ((with_reducible refine sub_app ?_ ?_) <;> tb_start)
   | ((with_reducible refine sub_cons ?_ ?_); k_mem; tb_start)
   | fail)
  k_with "w_k_mem" =>
   (focus ((repeat (with_reducible first | exact List.mem_cons_self | refine List.mem_cons_of_mem _ ?_ | refine List.mem_append_left _ ?_)); done))
  k_with "w_kqd_sub" =>
   (with_reducible first
   | exact gdJ_nil
   | (refine' gdJ_app ?_ ?_ <;> kqd_sub)
   | (refine' gd_app ?_ ?_ <;> kqd_sub)
   | (refine' gdJ_new ?z32 ?z12 ?z22 ?z9; (case z12 | z22 => assumption); (case z32 | z9 => k_dflt tb_start))
   | (refine' gd_new ?z32 ?z12 ?z9; (case z12 => assumption); (case z32 | z9 => k_dflt tb_start))
   | (refine' gd_cons0 ?z15 ?z10; (case z15 => first | (refine' gd_had ?z31 ?z38; (case z38 => assumption); (case z31 => k_dflt k_mem)) | (refine' gd_one ?z31 ?z38 ?z37; (case z38 => assumption); (case z31 => k_dflt k_mem); (case z37 => k_dflt tb_start))); (case z10 => kqd_sub))
   | (refine' gdJ_old ?z32 ?z9; (case z9 | z32 => k_dflt tb_start))
   | (refine' gd_old ?z32 ?z9; (case z9 | z32 => k_dflt tb_start))
   | fail)
  k_with "w_tb_rel" =>
   (with_reducible first
   | exact DatP.none
   | exact DatP.bool _
   | exact DatP.int _ _
   | exact DatP.str _ _
   | exact DatPs.nil
   | (refine' DatPs.cons ?_ ?_ <;> first | ((with_reducible show DatP _ _ _); tb_rel) | ((with_reducible show DatPs _ _ _); tb_rel) | ((with_reducible show Dat); skip) | ((with_reducible show List Dat); skip))
   | (refine' datP_in ?z5 ?z37; (case z5 => assumption); (case z37 => k_dflt kqd_sub))
   | (refine' datP_gdJ ?z31 ?z34 ?z35; (case z31 => k_dflt k_mem); (case z34 => first | (refine' gdJ_had ?z31 ?z38; (case z38 => assumption); (case z31 => k_dflt k_mem)) | (refine' gdJ_one ?z31 ?z38 ?z37 ?z19; (case z38 => assumption); (case z31 => k_dflt k_mem); (case z37 => k_dflt tb_start); (case z19 => k_dflt (k_extra "k_ltA")))); (case z35 => tb_rel))
   | (refine' datP_gd ?z31 ?z34 ?z35; (case z31 => k_dflt k_mem); (case z34 => first | (refine' gd_had ?z31 ?z38; (case z38 => assumption); (case z31 => k_dflt k_mem)) | (refine' gd_one ?z31 ?z38 ?z37; (case z38 => assumption); (case z31 => k_dflt k_mem); (case z37 => k_dflt tb_start))); (case z35 => tb_rel))
   | fail)
  k_with "w_lcg_off" =>
   (with_reducible first
   | assumption
   | exact off3_nil
   | (refine' off3_app ?_ ?_ <;> lcg_off)
   | (refine' off3_any ?z40 ?z14 ?z3; (case z40 => assumption); (case z14 => k_dflt k_mem); (case z3 => lcg_off))
   | (refine' off3_cons ⟨?z42, ?z16, ?z17⟩ ?z3; (case z42 | z16 | z17 => k_dflt k_ne); (case z3 => lcg_off))
   | (refine' off3_above ?z40 ?z42 ?z16 ?z17; (case z40 => assumption); (case z42 | z16 | z17 => k_dflt k_mem))
   | (refine' off3_sub ?z40 ?z3; (case z40 => assumption); (case z3 => k_dflt tb_start))
   | fail)
  k_with "w_ktr_room" =>
   ((try simp only [depth_under_make, depth_under_kw, depth_in1, depth_deeper, depth_caller]); (try dsimp only [ktrTop]); with_reducible first
   | (refine' room2 ?z11 ?z20; (case z11 => assumption); (case z20 => k_dflt (first | exact Nat.le_of_ble_eq_true rfl | omega)))
   | (refine' room1 ?z11 ?z20; (case z11 => assumption); (case z20 => k_dflt (first | exact Nat.le_of_ble_eq_true rfl | omega)))
   | (refine' room0 ?z11; (case z11 => assumption))
   | fail)
  k_with "w_ktr_units" =>
   ((try simp only [units_in1, units_deeper, Around.mark_units, units_caller]); (try dsimp only [ktrTop]); with_reducible first
   | (refine' unit2 ?z11 ?z20; (case z11 => assumption); (case z20 => k_dflt (first | exact Nat.le_of_ble_eq_true rfl | omega)))
   | (refine' unit1 ?z11 ?z20; (case z11 => assumption); (case z20 => k_dflt (first | exact Nat.le_of_ble_eq_true rfl | omega)))
   | fail)
  k_with "k_ltA" =>
   (first
   | (refine' lt_all ?z6 ?z36; (case z6 => with_reducible assumption); (case z36 => k_mem))
   | (refine ltN ?_; omega))
  k_with "w_kqd_all" =>
   (with_reducible first
   | assumption
   | exact off_nil
   | (refine' off_cons ?z29 ?z39; (case z29 => k_dflt k_ne); (case z39 => kqd_all))
   | (refine' off_app ?_ ?_ <;> kqd_all)
   | (refine' off_sub ?z8 ?z7; (case z8 => assumption); (case z7 => k_dflt tb_start))
   | (refine' off_above ?z8 ?z7; (case z8 => assumption); (case z7 => k_dflt k_mem))
   | (refine' off_lt ?z8 ?z33 ?z7; (case z8 => assumption); (case z33 => k_dflt ((show (_ : Nat) ≤ _); omega)); (case z7 => k_dflt tb_start))
   | (refine' off_o3a ?z8 ?z7; (case z8 => assumption); (case z7 => k_dflt tb_start))
   | (refine' off_o3b ?z8 ?z7; (case z8 => assumption); (case z7 => k_dflt tb_start))
   | (refine' off_o3c ?z8 ?z7; (case z8 => assumption); (case z7 => k_dflt tb_start))
   | (refine' off_o1 ?z8 ?z7; (case z8 => assumption); (case z7 => k_dflt tb_start))
   | fail)
  k_with "w_k_ne" =>
   (first
   | with_reducible assumption
   | (refine' ne_all ?z6 ?z36; (case z6 => with_reducible assumption); (case z36 => k_mem))
   | (refine' ne_all2 ?z6 ?z36; (case z6 => with_reducible assumption); (case z36 => k_mem))
   | (refine' Ne.symm ?z6; (case z6 => with_reducible assumption))
   | (refine' ne_o3a ?z6 ?z36; (case z6 => with_reducible assumption); (case z36 => k_mem))
   | (refine' ne_o3b ?z6 ?z36; (case z6 => with_reducible assumption); (case z36 => k_mem))
   | (refine' ne_o3c ?z6 ?z36; (case z6 => with_reducible assumption); (case z36 => k_mem))
   | (refine' ne_o3a' ?z6 ?z36; (case z6 => with_reducible assumption); (case z36 => k_mem))
   | (refine' ne_o3b' ?z6 ?z36; (case z6 => with_reducible assumption); (case z36 => k_mem))
   | (refine' ne_o3c' ?z6 ?z36; (case z6 => with_reducible assumption); (case z36 => k_mem))
   | (refine' ne_o1 ?z6 ?z36; (case z6 => with_reducible assumption); (case z36 => k_mem))
   | (refine' ne_o1' ?z6 ?z36; (case z6 => with_reducible assumption); (case z36 => k_mem))
   | (refine' ne_of_lt' ?z6; (case z6 => with_reducible assumption))
   | (refine' ne_of_gt' ?z6; (case z6 => with_reducible assumption))
   | (refine' ne_tr ?z41 ?z6 ?z36; (case z41 | z6 => with_reducible assumption); (case z36 => k_mem))
   | (refine' ne_trs ?z41 ?z6 ?z36; (case z41 | z6 => with_reducible assumption); (case z36 => k_mem))
   | (refine' ne_tr2 ?z41 ?z26 ?z6 ?z36; (case z41 | z26 | z6 => with_reducible assumption); (case z36 => k_mem))
   | (refine' ne_tr2s ?z41 ?z26 ?z6 ?z36; (case z41 | z26 | z6 => with_reducible assumption); (case z36 => k_mem))
   | (with_reducible refine' ne_up1 ?z6 ?z36; (case z6 => assumption); (case z36 => k_dflt k_mem))
   | (with_reducible refine' ne_up2 ?z6 ?z36; (case z6 => assumption); (case z36 => k_dflt k_mem))
   | (with_reducible refine' ne_up3 ?z6 ?z36; (case z6 => assumption); (case z36 => k_dflt k_mem))
   | (with_reducible refine' ne_dn1 ?z6 ?z36; (case z6 => assumption); (case z36 => k_dflt k_mem))
   | (with_reducible refine' ne_dn2 ?z6 ?z36; (case z6 => assumption); (case z36 => k_dflt k_mem))
   | (with_reducible refine' ne_dn3 ?z6 ?z36; (case z6 => assumption); (case z36 => k_dflt k_mem))
   | fail)
  k_with "pack" =>
   skip
  trivial
theorem wg_gen0 {t : Ty} (hch : ChG w loose mean mg mb c D₀ R f k) (hnp : noReg t = true) (htp : parts t = [])  : WrG w loose mean mg mb c D₀ f k t := by
  intro v D news hv hs1 hs0
  unfold CallOk
  intro dp un gd cn cs a ccd cl outer A₀ base h₀ L m s Q E B F X N T hk hdp hun hret
  obtain ⟨b, x, tk, vs, n, rfl, hm, hx, hx'⟩ := head_noReg hv hnp
  replace N := News.add N (hs1 _ hm)
  refine wpAny_call ?_
  k_dflt ktr_enter
  all_goals (try (with_reducible rename News _ _ _ _ => nL9; refine led_let nL9 ?_; clear nL9; intro Y0 N9))
  k_steps
  refine hret _ _ _ _ (by k_asm) (by k_asm) ⟨by tb_start, ?_⟩
  rw [← rmapG0 (f := f) hnp htp]
  refine datP_in (by assumption) ?_
  kqd_sub
end
section
example : True := by
  k_with_none
  k_with "subscriptTail" =>
   ((k_here; (with_reducible show wpAny _ _ (subscriptTail _ _ (Value.ref _) (Value.int _ _)) _ _ _); k_dflt (first
   | (refine' my_tup ?Z0 ?Z1 ?Z2 ?Z3 ?Z4 ?Z5 ?_; (case Z0 => k_asm); (case Z1 => k_mem); (case Z2 | Z3 => decide); (case Z4 | Z5 => rfl); k_whole)
   | (refine' my_lst ?Z0 ?Z1 ?Z2 ?Z3 ?Z5 ?_; (case Z0 => k_asm); (case Z1 => k_mem); (case Z2 | Z3 => decide); (case Z5 => rfl); k_whole))))
  k_with "eval Name" =>
   ((k_here; k_dflt (refine' nameX_L ?Z6 ?Z7 ?_; (case Z6 => k_asm); (case Z7 => exact rfl); k_whole)))
  k_with "w_k_room" =>
   (ktr_room)
  k_with "w_ktr_enter" =>
   ((refine' code_defC ?Z8 ?Z9 ?Za ?Zb ?Zc ?Zd ?Ze ?Zf ?Zg ?Zh ?Zi ?Zj ?Zk ?Zl ?_ ?Zm ?Zn ?Zo; (case Zd | Ze => exact rfl); (case Zf => first | exact rfl | assumption); (case Z8 | Z9 | Za | Zb | Zc => k_asm); (case Zg | Zh => k_is); (case Zi => ktr_room); (case Zj => exact BindsTo.of_eq rfl); (case Zk => exact rfl); (case Zl => decide +kernel); (case Zm | Zn | Zo => exact rfl); k_whole; intro g' L' h' tk' cells' FG' F' N' Y' B' X' T' l1; k_cells Y'; (try simp only [List.cons_append, List.nil_append] at N'); (try dsimp only); (try k_fold)))
  k_with "eval ListComp" =>
   ((k_here; k_dflt (refine ListComp_tup (F₀ := by k_asm) (by with_unfolding_all rfl) (by decide) (by rfl) (by decide) (by rfl) ?_)))
  k_with "SrcT" =>
   ((k_dflt (refine srcT_of (by rfl) (by k_asm) (by k_asm) (by k_mem) (by first | size_fits | exact Nat.le_of_ble_eq_true rfl) ?_); intro g'; lcg_lit))
  k_with "CompRest" =>
   ((with_unfolding_all first
   | (refine LCg.CompRest.succ ?_; intro v' I' oI' C' oC' D' m' h' tk' E' hv' hC' hx' F' N' off' ne'; lcg_open hv')
   | refine LCg.CompRest.zero ?_))
  k_with "FinE" =>
   (((unfold LCg.FinE); intro D' h' tk' F' N' o1'; (try simp only [List.nil_append, List.cons_append, List.append_assoc] at N'); (try dsimp only)))
  k_with "CompEnd" =>
   ((refine' comp_end ?Zp ?Zq ?Zr ?Zs ?Zt ?Zu ?Zv ?_; (case Zp | Zq => k_asm); (case Zr | Zs | Zt => (repeat (first | exact Pull.head | apply Pull.tail))); (case Zu => lcg_off); (case Zv => (unfold HasTup; k_mem))))
  k_with "CompEnd" =>
   ((refine' comp_end_pure ?Zw ?Zx ?Zy ?Zz ?Z10 ?_; (case Zw | Zz | Zx | Zy => k_asm); (case Z10 => (unfold HasTup; k_mem))))
  k_with "call ref" =>
   ((k_here; (with_reducible show wpAny _ _ (call (Value.ref 45) _) _ _ _); k_dflt (refine' wg_use ?Z11 ?Z12 ?Z13 ?Z14 ?Z15 ?Z16 ?Z17 ?Z18 ?Z19 ?Z1a ?Z1b ?Z1c ?_; (case Z11 | Z16 | Z18 | Z12 => k_asm); (case Z13 | Z14 => tb_start); (case Z15 | Z17 | Z19 => k_asm); (case Z1a => first | exact rfl | with_reducible assumption); (case Z1b => ktr_room); (case Z1c => ktr_units)); intro r9 tl9 h9 tk9 F9 N9 ab9 dt9; (try simp only [List.nil_append, List.cons_append, List.append_nil] at N9); (try dsimp only); (try k_fold)))
  k_with "call ref" =>
   ((k_here; k_dflt (refine' cg_use ?Z1d ?Z1e ?Z1f ?Z1g ?Z1h ?Z1i ?Z1j ?Z1k ?Z1l ?Z1m ?Z1n ?Z1o ?Z1p ?_; (case Z1d | Z1e => with_reducible assumption); (case Z1f | Z1j | Z1l => k_asm); (case Z1g | Z1h => tb_start); (case Z1i | Z1k | Z1m => k_asm); (case Z1n => first | exact rfl | with_reducible assumption); (case Z1o => ktr_room); (case Z1p => ktr_units)); intro r9 tl9 h9 tk9 F9 N9 ab9 dt9; (try simp only [List.nil_append, List.cons_append, List.append_nil] at N9); (try dsimp only); (try k_fold)))
  k_with "subscriptTail" =>
   ((k_here; (with_reducible show wpAny _ _ (subscriptTail _ _ (Value.ref _) (Value.int 0 _)) _ _ _); k_dflt (refine' my_tup0 ?Z2f ?Z2g ?_; (case Z2f => k_asm); (case Z2g => k_mem); k_whole)))
  k_with "call ref" =>
   ((k_here; (with_reducible show wpAny _ _ (call (Value.ref 28) _) _ _ _); k_dflt (refine' parts_use1 ?Z2h ?Z2i ?Z2j ?Z2k ?Z2l ?Z2m ?Z2n ?Z2o ?Z2p ?Z2q ?Z2r ?_; (case Z2h | Z2l | Z2n | Z2i => k_asm); (case Z2j => tb_start); (case Z2k | Z2m | Z2o => k_asm); (case Z2p => first | exact rfl | with_reducible assumption); (case Z2q => ktr_room); (case Z2r => ktr_units)); intro ax9 v9 k9 tl9 h9 tk9 F9 N9 ab9 dt9; (try simp only [List.nil_append, List.cons_append, List.append_nil] at N9); (try dsimp only); (try k_fold)))
  k_with "call ref" =>
   ((k_here; (with_reducible show wpAny _ _ (call (Value.ref 35) _) _ _ _); k_dflt (refine' rebuilt_use1 ?Z2s ?Z2t ?Z2u ?Z2v ?Z2w ?Z2x ?Z2y ?Z2z ?Z30 ?Z31 ?Z32 ?Z33 ?Z34 ?Z35 ?_; (case Z2s | Z2z | Z31 | Z2t => k_asm); (case Z2u => k_mem); (case Z2v => k_asm); (case Z2w | Z2x => tb_start); (case Z2y | Z30 | Z32 => k_asm); (case Z33 => first | exact rfl | with_reducible assumption); (case Z34 => ktr_room); (case Z35 => ktr_units)); intro r9 tl9 h9 tk9 F9 N9 ab9 dt9; (try simp only [List.nil_append, List.cons_append, List.append_nil] at N9); (try dsimp only); (try k_fold)))
  k_with "execs cons" =>
   (k_here; (try k_gentoks); (first | ((fail_if_success (fail_if_success k_fold)); (with_reducible refine' ec_let2 ?_); intro q0 e0 K0) | ((with_reducible refine' ec_let ?_); intro K0)); (all_goals (try ((with_reducible rename Fr _ _ _ (fun _ => ite _ _ _) => f9); refine fr_let f9 ?_; clear f9; intro m0 F0))); (try dsimp only))
  k_with "eval Constant str" =>
   (with_reducible refine' con_str ?_)
  k_with "eval Constant int" =>
   (with_reducible refine' con_int ?_)
  k_with "subscriptTail Name Constant ref int" =>
   (k_extra "subscriptTail")
  k_with "eval Name" =>
   (k_here; k_dflt (first
   | (refine' nameX_L ?zn1 ?zn2 ?_ ?zn3 ?zn4; (case zn3 | zn4 => rfl); (case zn1 => k_asm); (case zn2 => rfl); k_whole)
   | (refine' nameX_K ?zn1 ?zn2 ?zn3 ?zn4 ?_ ?zn5 ?zn6; (case zn5 | zn6 => rfl); (case zn1 | zn2 | zn3 => k_asm); (case zn4 => k_is); k_whole)
   | (refine' nameX_B ?zn1 ?zn2 ?zn3 ?zn4 ?zn5 ?zn6 ?_ ?zn7 ?zn8; (case zn7 | zn8 => rfl); (case zn1 | zn2 | zn3 => k_asm); (case zn4 => k_is); (case zn5 => boot_fast); (case zn6 => decide); k_whole)
   | fail))
  k_with "newTuple" =>
   (k_here; k_dflt (refine' tup_let ?z30 ?z4 ?z0 ?_; (case z30 | z4 => k_asm); (case z0 => kmk_size)); intro D' h' e' Y' F' N' l1; (try k_sweep))
  k_with "newList" =>
   (k_here; k_dflt (refine' lst_let ?z30 ?z4 ?z0 ?_; (case z30 | z4 => k_asm); (case z0 => kmk_size)); intro D' h' e' Y' F' N' l1; (try k_sweep))
  k_with "binaryOp Add ref ref" =>
   (k_here; (with_reducible show wpAny _ _ (binaryOp Operator.Add (Value.ref _) (Value.ref _)) _ _ _); k_dflt (refine' kde_addT ?z1 ?z27 ?z25 ?z2 ?z18 ?z23 ?z21 ?z24 ?_; (case z1 | z27 => k_asm); (case z25 | z2 => exact News.isTup (by k_asm) (by k_mem)); (case z18 | z23 => exact List.cons_ne_nil _ _); (case z21 => exact Nat.le_of_ble_eq_true rfl); (case z24 => kun_lit)); intro D' h' F' N' l1; (replace l1 := allLt_of l1); (try k_sweep))
  k_with "k_up" =>
   (first
   | with_reducible exact hp
   | ((with_reducible refine List.mem_cons_of_mem _ ?_); k_extra "k_up")
   | ((with_reducible refine List.mem_append_left _ ?_); k_extra "k_up")
   | ((with_reducible refine List.mem_append_right _ ?_); k_extra "k_up")
   | fail)
  k_with "w_tb_start" =>
   (first
   | exact sub_nil
   | (intro p hp; k_extra "k_up")
   | (refine' sub_trans ?z28 ?z13; (case z28 => with_reducible assumption); (case z13 => (intro p hp; k_extra "k_up")))
   | ((with_reducible refine sub_app ?_ ?_) <;> tb_start)
   | ((with_reducible refine sub_cons ?_ ?_); k_mem; tb_start)
   | fail)
  k_with "w_k_mem" =>
   (focus ((repeat (with_reducible first | exact List.mem_cons_self | refine List.mem_cons_of_mem _ ?_ | refine List.mem_append_left _ ?_)); done))
  k_with "w_kqd_sub" =>
   (with_reducible first
   | exact gdJ_nil
   | (refine' gdJ_app ?_ ?_ <;> kqd_sub)
   | (refine' gd_app ?_ ?_ <;> kqd_sub)
   | (refine' gdJ_new ?z32 ?z12 ?z22 ?z9; (case z12 | z22 => assumption); (case z32 | z9 => k_dflt tb_start))
   | (refine' gd_new ?z32 ?z12 ?z9; (case z12 => assumption); (case z32 | z9 => k_dflt tb_start))
   | (refine' gd_cons0 ?z15 ?z10; (case z15 => first | (refine' gd_had ?z31 ?z38; (case z38 => assumption); (case z31 => k_dflt k_mem)) | (refine' gd_one ?z31 ?z38 ?z37; (case z38 => assumption); (case z31 => k_dflt k_mem); (case z37 => k_dflt tb_start))); (case z10 => kqd_sub))
   | (refine' gdJ_old ?z32 ?z9; (case z9 | z32 => k_dflt tb_start))
   | (refine' gd_old ?z32 ?z9; (case z9 | z32 => k_dflt tb_start))
   | fail)
  k_with "w_tb_rel" =>
   (with_reducible first
   | exact DatP.none
   | exact DatP.bool _
   | exact DatP.int _ _
   | exact DatP.str _ _
   | exact DatPs.nil
   | (refine' DatPs.cons ?_ ?_ <;> first | ((with_reducible show DatP _ _ _); tb_rel) | ((with_reducible show DatPs _ _ _); tb_rel) | ((with_reducible show Dat); skip) | ((with_reducible show List Dat); skip))
   | (refine' datP_in ?z5 ?z37; (case z5 => assumption); (case z37 => k_dflt kqd_sub))
   | (refine' datP_gdJ ?z31 ?z34 ?z35; (case z31 => k_dflt k_mem); (case z34 => first | (refine' gdJ_had ?z31 ?z38; (case z38 => assumption); (case z31 => k_dflt k_mem)) | (refine' gdJ_one ?z31 ?z38 ?z37 ?z19; (case z38 => assumption); (case z31 => k_dflt k_mem); (case z37 => k_dflt tb_start); (case z19 => k_dflt (k_extra "k_ltA")))); (case z35 => tb_rel))
   | (refine' datP_gd ?z31 ?z34 ?z35; (case z31 => k_dflt k_mem); (case z34 => first | (refine' gd_had ?z31 ?z38; (case z38 => assumption); (case z31 => k_dflt k_mem)) | (refine' gd_one ?z31 ?z38 ?z37; (case z38 => assumption); (case z31 => k_dflt k_mem); (case z37 => k_dflt tb_start))); (case z35 => tb_rel))
   | fail)
  k_with "w_lcg_off" =>
   (with_reducible first
   | assumption
   | exact off3_nil
   | (refine' off3_app ?_ ?_ <;> lcg_off)
   | (refine' off3_any ?z40 ?z14 ?z3; (case z40 => assumption); (case z14 => k_dflt k_mem); (case z3 => lcg_off))
   | (refine' off3_cons ⟨?z42, ?z16, ?z17⟩ ?z3; (case z42 | z16 | z17 => k_dflt k_ne); (case z3 => lcg_off))
   | (refine' off3_above ?z40 ?z42 ?z16 ?z17; (case z40 => assumption); (case z42 | z16 | z17 => k_dflt k_mem))
   | (refine' off3_sub ?z40 ?z3; (case z40 => assumption); (case z3 => k_dflt tb_start))
   | fail)
  k_with "w_ktr_room" =>
   ((try simp only [depth_under_make, depth_under_kw, depth_in1, depth_deeper, depth_caller]); (try dsimp only [ktrTop]); with_reducible first
   | (refine' room2 ?z11 ?z20; (case z11 => assumption); (case z20 => k_dflt (first | exact Nat.le_of_ble_eq_true rfl | omega)))
   | (refine' room1 ?z11 ?z20; (case z11 => assumption); (case z20 => k_dflt (first | exact Nat.le_of_ble_eq_true rfl | omega)))
   | (refine' room0 ?z11; (case z11 => assumption))
   | fail)
  k_with "w_ktr_units" =>
   ((try simp only [units_in1, units_deeper, Around.mark_units, units_caller]); (try dsimp only [ktrTop]); with_reducible first
   | (refine' unit2 ?z11 ?z20; (case z11 => assumption); (case z20 => k_dflt (first | exact Nat.le_of_ble_eq_true rfl | omega)))
   | (refine' unit1 ?z11 ?z20; (case z11 => assumption); (case z20 => k_dflt (first | exact Nat.le_of_ble_eq_true rfl | omega)))
   | fail)
  k_with "k_ltA" =>
   (first
   | (refine' lt_all ?z6 ?z36; (case z6 => with_reducible assumption); (case z36 => k_mem))
   | (refine ltN ?_; omega))
  k_with "w_kqd_all" =>
   (with_reducible first
   | assumption
   | exact off_nil
   | (refine' off_cons ?z29 ?z39; (case z29 => k_dflt k_ne); (case z39 => kqd_all))
   | (refine' off_app ?_ ?_ <;> kqd_all)
   | (refine' off_sub ?z8 ?z7; (case z8 => assumption); (case z7 => k_dflt tb_start))
   | (refine' off_above ?z8 ?z7; (case z8 => assumption); (case z7 => k_dflt k_mem))
   | (refine' off_lt ?z8 ?z33 ?z7; (case z8 => assumption); (case z33 => k_dflt ((show (_ : Nat) ≤ _); omega)); (case z7 => k_dflt tb_start))
   | (refine' off_o3a ?z8 ?z7; (case z8 => assumption); (case z7 => k_dflt tb_start))
   | (refine' off_o3b ?z8 ?z7; (case z8 => assumption); (case z7 => k_dflt tb_start))
   | (refine' off_o3c ?z8 ?z7; (case z8 => assumption); (case z7 => k_dflt tb_start))
   | (refine' off_o1 ?z8 ?z7; (case z8 => assumption); (case z7 => k_dflt tb_start))
   | fail)
  k_with "w_k_ne" =>
   (first
   | with_reducible assumption
   | (refine' ne_all ?z6 ?z36; (case z6 => with_reducible assumption); (case z36 => k_mem))
   | (refine' ne_all2 ?z6 ?z36; (case z6 => with_reducible assumption); (case z36 => k_mem))
   | (refine' Ne.symm ?z6; (case z6 => with_reducible assumption))
   | (refine' ne_o3a ?z6 ?z36; (case z6 => with_reducible assumption); (case z36 => k_mem))
   | (refine' ne_o3b ?z6 ?z36; (case z6 => with_reducible assumption); (case z36 => k_mem))
   | (refine' ne_o3c ?z6 ?z36; (case z6 => with_reducible assumption); (case z36 => k_mem))
   | (refine' ne_o3a' ?z6 ?z36; (case z6 => with_reducible assumption); (case z36 => k_mem))
   | (refine' ne_o3b' ?z6 ?z36; (case z6 => with_reducible assumption); (case z36 => k_mem))
   | (refine' ne_o3c' ?z6 ?z36; (case z6 => with_reducible assumption); (case z36 => k_mem))
   | (refine' ne_o1 ?z6 ?z36; (case z6 => with_reducible assumption); (case z36 => k_mem))
   | (refine' ne_o1' ?z6 ?z36; (case z6 => with_reducible assumption); (case z36 => k_mem))
   | (refine' ne_of_lt' ?z6; (case z6 => with_reducible assumption))
   | (refine' ne_of_gt' ?z6; (case z6 => with_reducible assumption))
   | (refine' ne_tr ?z41 ?z6 ?z36; (case z41 | z6 => with_reducible assumption); (case z36 => k_mem))
   | (refine' ne_trs ?z41 ?z6 ?z36; (case z41 | z6 => with_reducible assumption); (case z36 => k_mem))
   | (refine' ne_tr2 ?z41 ?z26 ?z6 ?z36; (case z41 | z26 | z6 => with_reducible assumption); (case z36 => k_mem))
   | (refine' ne_tr2s ?z41 ?z26 ?z6 ?z36; (case z41 | z26 | z6 => with_reducible assumption); (case z36 => k_mem))
   | (with_reducible refine' ne_up1 ?z6 ?z36; (case z6 => assumption); (case z36 => k_dflt k_mem))
   | (with_reducible refine' ne_up2 ?z6 ?z36; (case z6 => assumption); (case z36 => k_dflt k_mem))
   | (with_reducible refine' ne_up3 ?z6 ?z36; (case z6 => assumption); (case z36 => k_dflt k_mem))
   | (with_reducible refine' ne_dn1 ?z6 ?z36; (case z6 => assumption); (case z36 => k_dflt k_mem))
   | (with_reducible refine' ne_dn2 ?z6 ?z36; (case z6 => assumption); (case z36 => k_dflt k_mem))
   | (with_reducible refine' ne_dn3 ?z6 ?z36; (case z6 => assumption); (case z36 => k_dflt k_mem))
   | fail)
  k_with "pack" =>
   skip
  trivial
theorem wg_gen1 {t : Ty} {t1 : Ty} (hch : ChG w loose mean mg mb c D₀ R f k) (hnp : noReg t = true) (htp : parts t = [t1]) (S1 : WrG w loose mean mg mb c D₀ f k t1) : WrG w loose mean mg mb c D₀ f k t := by
  intro v D news hv hs1 hs0
  unfold CallOk
  intro dp un gd cn cs a ccd cl outer A₀ base h₀ L m s Q E B F X N T hk hdp hun hret
  have hdp1 := parts_dp1 htp
  obtain ⟨b, x, tk, vs, n, rfl, hm, hx, hx'⟩ := head_noReg hv hnp
  replace N := News.add N (hs1 _ hm)
  refine wpAny_call ?_
  k_dflt ktr_enter
  all_goals (try (with_reducible rename News _ _ _ _ => nL9; refine led_let nL9 ?_; clear nL9; intro Y0 N9))
  k_steps
  refine hret _ _ _ _ (by k_asm) (by k_asm) ⟨by tb_start, ?_⟩
  rw [← rmapG1 hnp htp]
  refine datP_in (by assumption) ?_
  kqd_sub
end
section
example : True := by
  k_with_none
  k_with "subscriptTail" =>
   ((k_here; (with_reducible show wpAny _ _ (subscriptTail _ _ (Value.ref _) (Value.int _ _)) _ _ _); k_dflt (first
   | (refine' my_tup ?Z0 ?Z1 ?Z2 ?Z3 ?Z4 ?Z5 ?_; (case Z0 => k_asm); (case Z1 => k_mem); (case Z2 | Z3 => decide); (case Z4 | Z5 => rfl); k_whole)
   | (refine' my_lst ?Z0 ?Z1 ?Z2 ?Z3 ?Z5 ?_; (case Z0 => k_asm); (case Z1 => k_mem); (case Z2 | Z3 => decide); (case Z5 => rfl); k_whole))))
  k_with "eval Name" =>
   ((k_here; k_dflt (refine' nameX_L ?Z6 ?Z7 ?_; (case Z6 => k_asm); (case Z7 => exact rfl); k_whole)))
  k_with "w_k_room" =>
   (ktr_room)
  k_with "w_ktr_enter" =>
   ((refine' code_defC ?Z8 ?Z9 ?Za ?Zb ?Zc ?Zd ?Ze ?Zf ?Zg ?Zh ?Zi ?Zj ?Zk ?Zl ?_ ?Zm ?Zn ?Zo; (case Zd | Ze => exact rfl); (case Zf => first | exact rfl | assumption); (case Z8 | Z9 | Za | Zb | Zc => k_asm); (case Zg | Zh => k_is); (case Zi => ktr_room); (case Zj => exact BindsTo.of_eq rfl); (case Zk => exact rfl); (case Zl => decide +kernel); (case Zm | Zn | Zo => exact rfl); k_whole; intro g' L' h' tk' cells' FG' F' N' Y' B' X' T' l1; k_cells Y'; (try simp only [List.cons_append, List.nil_append] at N'); (try dsimp only); (try k_fold)))
  k_with "eval ListComp" =>
   ((k_here; k_dflt (refine ListComp_tup (F₀ := by k_asm) (by with_unfolding_all rfl) (by decide) (by rfl) (by decide) (by rfl) ?_)))
  k_with "SrcT" =>
   ((k_dflt (refine srcT_of (by rfl) (by k_asm) (by k_asm) (by k_mem) (by first | size_fits | exact Nat.le_of_ble_eq_true rfl) ?_); intro g'; lcg_lit))
  k_with "CompRest" =>
   ((with_unfolding_all first
   | (refine LCg.CompRest.succ ?_; intro v' I' oI' C' oC' D' m' h' tk' E' hv' hC' hx' F' N' off' ne'; lcg_open hv')
   | refine LCg.CompRest.zero ?_))
  k_with "FinE" =>
   (((unfold LCg.FinE); intro D' h' tk' F' N' o1'; (try simp only [List.nil_append, List.cons_append, List.append_assoc] at N'); (try dsimp only)))
  k_with "CompEnd" =>
   ((refine' comp_end ?Zp ?Zq ?Zr ?Zs ?Zt ?Zu ?Zv ?_; (case Zp | Zq => k_asm); (case Zr | Zs | Zt => (repeat (first | exact Pull.head | apply Pull.tail))); (case Zu => lcg_off); (case Zv => (unfold HasTup; k_mem))))
  k_with "CompEnd" =>
   ((refine' comp_end_pure ?Zw ?Zx ?Zy ?Zz ?Z10 ?_; (case Zw | Zz | Zx | Zy => k_asm); (case Z10 => (unfold HasTup; k_mem))))
  k_with "call ref" =>
   ((k_here; (with_reducible show wpAny _ _ (call (Value.ref 45) _) _ _ _); k_dflt (refine' wg_use ?Z11 ?Z12 ?Z13 ?Z14 ?Z15 ?Z16 ?Z17 ?Z18 ?Z19 ?Z1a ?Z1b ?Z1c ?_; (case Z11 | Z16 | Z18 | Z12 => k_asm); (case Z13 | Z14 => tb_start); (case Z15 | Z17 | Z19 => k_asm); (case Z1a => first | exact rfl | with_reducible assumption); (case Z1b => ktr_room); (case Z1c => ktr_units)); intro r9 tl9 h9 tk9 F9 N9 ab9 dt9; (try simp only [List.nil_append, List.cons_append, List.append_nil] at N9); (try dsimp only); (try k_fold)))
  k_with "call ref" =>
   ((k_here; k_dflt (refine' cg_use ?Z1d ?Z1e ?Z1f ?Z1g ?Z1h ?Z1i ?Z1j ?Z1k ?Z1l ?Z1m ?Z1n ?Z1o ?Z1p ?_; (case Z1d | Z1e => with_reducible assumption); (case Z1f | Z1j | Z1l => k_asm); (case Z1g | Z1h => tb_start); (case Z1i | Z1k | Z1m => k_asm); (case Z1n => first | exact rfl | with_reducible assumption); (case Z1o => ktr_room); (case Z1p => ktr_units)); intro r9 tl9 h9 tk9 F9 N9 ab9 dt9; (try simp only [List.nil_append, List.cons_append, List.append_nil] at N9); (try dsimp only); (try k_fold)))
  k_with "subscriptTail" =>
   ((k_here; (with_reducible show wpAny _ _ (subscriptTail _ _ (Value.ref _) (Value.int 0 _)) _ _ _); k_dflt (refine' my_tup0 ?Z36 ?Z37 ?_; (case Z36 => k_asm); (case Z37 => k_mem); k_whole)))
  k_with "call ref" =>
   ((k_here; (with_reducible show wpAny _ _ (call (Value.ref 28) _) _ _ _); k_dflt (refine' parts_use2 ?Z38 ?Z39 ?Z3a ?Z3b ?Z3c ?Z3d ?Z3e ?Z3f ?Z3g ?Z3h ?Z3i ?_; (case Z38 | Z3c | Z3e | Z39 => k_asm); (case Z3a => tb_start); (case Z3b | Z3d | Z3f => k_asm); (case Z3g => first | exact rfl | with_reducible assumption); (case Z3h => ktr_room); (case Z3i => ktr_units)); intro ax9 v9 v9' k9 tl9 h9 tk9 F9 N9 ab9 dt9 dt9'; (try simp only [List.nil_append, List.cons_append, List.append_nil] at N9); (try dsimp only); (try k_fold)))
  k_with "call ref" =>
   ((k_here; (with_reducible show wpAny _ _ (call (Value.ref 35) _) _ _ _); k_dflt (refine' rebuilt_use2 ?Z3j ?Z3k ?Z3l ?Z3m ?Z3n ?Z3o ?Z3p ?Z3q ?Z3r ?Z3s ?Z3t ?Z3u ?Z3v ?Z3w ?Z3x ?Z3y ?_; (case Z3j | Z3s | Z3u | Z3k => k_asm); (case Z3l => k_mem); (case Z3m | Z3n => k_asm); (case Z3o | Z3p | Z3q => tb_start); (case Z3r | Z3t | Z3v => k_asm); (case Z3w => first | exact rfl | with_reducible assumption); (case Z3x => ktr_room); (case Z3y => ktr_units)); intro r9 tl9 h9 tk9 F9 N9 ab9 dt9; (try simp only [List.nil_append, List.cons_append, List.append_nil] at N9); (try dsimp only); (try k_fold)))
  k_with "execs cons" =>
   (k_here; (try k_gentoks); (first | ((fail_if_success (fail_if_success k_fold)); (with_reducible refine' ec_let2 ?_); intro q0 e0 K0) | ((with_reducible refine' ec_let ?_); intro K0)); (all_goals (try ((with_reducible rename Fr _ _ _ (fun _ => ite _ _ _) => f9); refine fr_let f9 ?_; clear f9; intro m0 F0))); (try dsimp only))
  k_with "eval Constant str" =>
   (with_reducible refine' con_str ?_)
  k_with "eval Constant int" =>
   (with_reducible refine' con_int ?_)
  k_with "subscriptTail Name Constant ref int" =>
   (k_extra "subscriptTail")
  k_with "eval Name" =>
   (k_here; k_dflt (first
   | (refine' nameX_L ?zn1 ?zn2 ?_ ?zn3 ?zn4; (case zn3 | zn4 => rfl); (case zn1 => k_asm); (case zn2 => rfl); k_whole)
   | (refine' nameX_K ?zn1 ?zn2 ?zn3 ?zn4 ?_ ?zn5 ?zn6; (case zn5 | zn6 => rfl); (case zn1 | zn2 | zn3 => k_asm); (case zn4 => k_is); k_whole)
   | (refine' nameX_B ?zn1 ?zn2 ?zn3 ?zn4 ?zn5 ?zn6 ?_ ?zn7 ?zn8; (case zn7 | zn8 => rfl); (case zn1 | zn2 | zn3 => k_asm); (case zn4 => k_is); (case zn5 => boot_fast); (case zn6 => decide); k_whole)
   | fail))
  k_with "newTuple" =>
   (k_here; k_dflt (refine' tup_let ?z30 ?z4 ?z0 ?_; (case z30 | z4 => k_asm); (case z0 => kmk_size)); intro D' h' e' Y' F' N' l1; (try k_sweep))
  k_with "newList" =>
   (k_here; k_dflt (refine' lst_let ?z30 ?z4 ?z0 ?_; (case z30 | z4 => k_asm); (case z0 => kmk_size)); intro D' h' e' Y' F' N' l1; (try k_sweep))
  k_with "binaryOp Add ref ref" =>
   (k_here; (with_reducible show wpAny _ _ (binaryOp Operator.Add (Value.ref _) (Value.ref _)) _ _ _); k_dflt (refine' kde_addT ?z1 ?z27 ?z25 ?z2 ?z18 ?z23 ?z21 ?z24 ?_; (case z1 | z27 => k_asm); (case z25 | z2 => exact News.isTup (by k_asm) (by k_mem)); (case z18 | z23 => exact List.cons_ne_nil _ _); (case z21 => exact Nat.le_of_ble_eq_true rfl); (case z24 => kun_lit)); intro D' h' F' N' l1; (replace l1 := allLt_of l1); (try k_sweep))
  k_with "k_up" =>
   (first
   | with_reducible exact hp
   | ((with_reducible refine List.mem_cons_of_mem _ ?_); k_extra "k_up")
   | ((with_reducible refine List.mem_append_left _ ?_); k_extra "k_up")
   | ((with_reducible refine List.mem_append_right _ ?_); k_extra "k_up")
   | fail)
  k_with "w_tb_start" =>
   (first
   | exact sub_nil
   | (intro p hp; k_extra "k_up")
   | (refine' sub_trans ?z28 ?z13; (case z28 => with_reducible assumption); (case z13 => (intro p hp; k_extra "k_up")))
   | ((with_reducible refine sub_app ?_ ?_) <;> tb_start)
   | ((with_reducible refine sub_cons ?_ ?_); k_mem; tb_start)
   | fail)
  k_with "w_k_mem" =>
   (focus ((repeat (with_reducible first | exact List.mem_cons_self | refine List.mem_cons_of_mem _ ?_ | refine List.mem_append_left _ ?_)); done))
  k_with "w_kqd_sub" =>
   (with_reducible first
   | exact gdJ_nil
   | (refine' gdJ_app ?_ ?_ <;> kqd_sub)
   | (refine' gd_app ?_ ?_ <;> kqd_sub)
   | (refine' gdJ_new ?z32 ?z12 ?z22 ?z9; (case z12 | z22 => assumption); (case z32 | z9 => k_dflt tb_start))
   | (refine' gd_new ?z32 ?z12 ?z9; (case z12 => assumption); (case z32 | z9 => k_dflt tb_start))
   | (refine' gd_cons0 ?z15 ?z10; (case z15 => first | (refine' gd_had ?z31 ?z38; (case z38 => assumption); (case z31 => k_dflt k_mem)) | (refine' gd_one ?z31 ?z38 ?z37; (case z38 => assumption); (case z31 => k_dflt k_mem); (case z37 => k_dflt tb_start))); (case z10 => kqd_sub))
   | (refine' gdJ_old ?z32 ?z9; (case z9 | z32 => k_dflt tb_start))
   | (refine' gd_old ?z32 ?z9; (case z9 | z32 => k_dflt tb_start))
   | fail)
  k_with "w_tb_rel" =>
   (with_reducible first
   | exact DatP.none
   | exact DatP.bool _
   | exact DatP.int _ _
   | exact DatP.str _ _
   | exact DatPs.nil
   | (refine' DatPs.cons ?_ ?_ <;> first | ((with_reducible show DatP _ _ _); tb_rel) | ((with_reducible show DatPs _ _ _); tb_rel) | ((with_reducible show Dat); skip) | ((with_reducible show List Dat); skip))
   | (refine' datP_in ?z5 ?z37; (case z5 => assumption); (case z37 => k_dflt kqd_sub))
   | (refine' datP_gdJ ?z31 ?z34 ?z35; (case z31 => k_dflt k_mem); (case z34 => first | (refine' gdJ_had ?z31 ?z38; (case z38 => assumption); (case z31 => k_dflt k_mem)) | (refine' gdJ_one ?z31 ?z38 ?z37 ?z19; (case z38 => assumption); (case z31 => k_dflt k_mem); (case z37 => k_dflt tb_start); (case z19 => k_dflt (k_extra "k_ltA")))); (case z35 => tb_rel))
   | (refine' datP_gd ?z31 ?z34 ?z35; (case z31 => k_dflt k_mem); (case z34 => first | (refine' gd_had ?z31 ?z38; (case z38 => assumption); (case z31 => k_dflt k_mem)) | (refine' gd_one ?z31 ?z38 ?z37; (case z38 => assumption); (case z31 => k_dflt k_mem); (case z37 => k_dflt tb_start))); (case z35 => tb_rel))
   | fail)
  k_with "w_lcg_off" =>
   (with_reducible first
   | assumption
   | exact off3_nil
   | (refine' off3_app ?_ ?_ <;> lcg_off)
   | (refine' off3_any ?z40 ?z14 ?z3; (case z40 => assumption); (case z14 => k_dflt k_mem); (case z3 => lcg_off))
   | (refine' off3_cons ⟨?z42, ?z16, ?z17⟩ ?z3; (case z42 | z16 | z17 => k_dflt k_ne); (case z3 => lcg_off))
   | (refine' off3_above ?z40 ?z42 ?z16 ?z17; (case z40 => assumption); (case z42 | z16 | z17 => k_dflt k_mem))
   | (refine' off3_sub ?z40 ?z3; (case z40 => assumption); (case z3 => k_dflt tb_start))
   | fail)
  k_with "w_ktr_room" =>
   ((try simp only [depth_under_make, depth_under_kw, depth_in1, depth_deeper, depth_caller]); (try dsimp only [ktrTop]); with_reducible first
   | (refine' room2 ?z11 ?z20; (case z11 => assumption); (case z20 => k_dflt (first | exact Nat.le_of_ble_eq_true rfl | omega)))
   | (refine' room1 ?z11 ?z20; (case z11 => assumption); (case z20 => k_dflt (first | exact Nat.le_of_ble_eq_true rfl | omega)))
   | (refine' room0 ?z11; (case z11 => assumption))
   | fail)
  k_with "w_ktr_units" =>
   ((try simp only [units_in1, units_deeper, Around.mark_units, units_caller]); (try dsimp only [ktrTop]); with_reducible first
   | (refine' unit2 ?z11 ?z20; (case z11 => assumption); (case z20 => k_dflt (first | exact Nat.le_of_ble_eq_true rfl | omega)))
   | (refine' unit1 ?z11 ?z20; (case z11 => assumption); (case z20 => k_dflt (first | exact Nat.le_of_ble_eq_true rfl | omega)))
   | fail)
  k_with "k_ltA" =>
   (first
   | (refine' lt_all ?z6 ?z36; (case z6 => with_reducible assumption); (case z36 => k_mem))
   | (refine ltN ?_; omega))
  k_with "w_kqd_all" =>
   (with_reducible first
   | assumption
   | exact off_nil
   | (refine' off_cons ?z29 ?z39; (case z29 => k_dflt k_ne); (case z39 => kqd_all))
   | (refine' off_app ?_ ?_ <;> kqd_all)
   | (refine' off_sub ?z8 ?z7; (case z8 => assumption); (case z7 => k_dflt tb_start))
   | (refine' off_above ?z8 ?z7; (case z8 => assumption); (case z7 => k_dflt k_mem))
   | (refine' off_lt ?z8 ?z33 ?z7; (case z8 => assumption); (case z33 => k_dflt ((show (_ : Nat) ≤ _); omega)); (case z7 => k_dflt tb_start))
   | (refine' off_o3a ?z8 ?z7; (case z8 => assumption); (case z7 => k_dflt tb_start))
   | (refine' off_o3b ?z8 ?z7; (case z8 => assumption); (case z7 => k_dflt tb_start))
   | (refine' off_o3c ?z8 ?z7; (case z8 => assumption); (case z7 => k_dflt tb_start))
   | (refine' off_o1 ?z8 ?z7; (case z8 => assumption); (case z7 => k_dflt tb_start))
   | fail)
  k_with "w_k_ne" =>
   (first
   | with_reducible assumption
   | (refine' ne_all ?z6 ?z36; (case z6 => with_reducible assumption); (case z36 => k_mem))
   | (refine' ne_all2 ?z6 ?z36; (case z6 => with_reducible assumption); (case z36 => k_mem))
   | (refine' Ne.symm ?z6; (case z6 => with_reducible assumption))
   | (refine' ne_o3a ?z6 ?z36; (case z6 => with_reducible assumption); (case z36 => k_mem))
   | (refine' ne_o3b ?z6 ?z36; (case z6 => with_reducible assumption); (case z36 => k_mem))
   | (refine' ne_o3c ?z6 ?z36; (case z6 => with_reducible assumption); (case z36 => k_mem))
   | (refine' ne_o3a' ?z6 ?z36; (case z6 => with_reducible assumption); (case z36 => k_mem))
   | (refine' ne_o3b' ?z6 ?z36; (case z6 => with_reducible assumption); (case z36 => k_mem))
   | (refine' ne_o3c' ?z6 ?z36; (case z6 => with_reducible assumption); (case z36 => k_mem))
   | (refine' ne_o1 ?z6 ?z36; (case z6 => with_reducible assumption); (case z36 => k_mem))
   | (refine' ne_o1' ?z6 ?z36; (case z6 => with_reducible assumption); (case z36 => k_mem))
   | (refine' ne_of_lt' ?z6; (case z6 => with_reducible assumption))
   | (refine' ne_of_gt' ?z6; (case z6 => with_reducible assumption))
   | (refine' ne_tr ?z41 ?z6 ?z36; (case z41 | z6 => with_reducible assumption); (case z36 => k_mem))
   | (refine' ne_trs ?z41 ?z6 ?z36; (case z41 | z6 => with_reducible assumption); (case z36 => k_mem))
   | (refine' ne_tr2 ?z41 ?z26 ?z6 ?z36; (case z41 | z26 | z6 => with_reducible assumption); (case z36 => k_mem))
   | (refine' ne_tr2s ?z41 ?z26 ?z6 ?z36; (case z41 | z26 | z6 => with_reducible assumption); (case z36 => k_mem))
   | (with_reducible refine' ne_up1 ?z6 ?z36; (case z6 => assumption); (case z36 => k_dflt k_mem))
   | (with_reducible refine' ne_up2 ?z6 ?z36; (case z6 => assumption); (case z36 => k_dflt k_mem))
   | (with_reducible refine' ne_up3 ?z6 ?z36; (case z6 => assumption); (case z36 => k_dflt k_mem))
   | (with_reducible refine' ne_dn1 ?z6 ?z36; (case z6 => assumption); (case z36 => k_dflt k_mem))
   | (with_reducible refine' ne_dn2 ?z6 ?z36; (case z6 => assumption); (case z36 => k_dflt k_mem))
   | (with_reducible refine' ne_dn3 ?z6 ?z36; (case z6 => assumption); (case z36 => k_dflt k_mem))
   | fail)
  k_with "pack" =>
   skip
  trivial
theorem wg_gen2 {t : Ty} {t1 t2 : Ty} (hch : ChG w loose mean mg mb c D₀ R f k) (hnp : noReg t = true) (htp : parts t = [t1, t2]) (S1 : WrG w loose mean mg mb c D₀ f k t1) (S2 : WrG w loose mean mg mb c D₀ f k t2) : WrG w loose mean mg mb c D₀ f k t := by
  intro v D news hv hs1 hs0
  unfold CallOk
  intro dp un gd cn cs a ccd cl outer A₀ base h₀ L m s Q E B F X N T hk hdp hun hret
  obtain ⟨hdp1, hdp2⟩ := parts_dp2 htp
  obtain ⟨b, x, tk, vs, n, rfl, hm, hx, hx'⟩ := head_noReg hv hnp
  replace N := News.add N (hs1 _ hm)
  refine wpAny_call ?_
  k_dflt ktr_enter
  all_goals (try (with_reducible rename News _ _ _ _ => nL9; refine led_let nL9 ?_; clear nL9; intro Y0 N9))
  k_steps
  refine hret _ _ _ _ (by k_asm) (by k_asm) ⟨by tb_start, ?_⟩
  rw [← rmapG2 htp]
  refine datP_in (by assumption) ?_
  kqd_sub
end
section
example : True := by
  k_with_none
  k_with "subscriptTail" =>
   ((k_here; (with_reducible show wpAny _ _ (subscriptTail _ _ (Value.ref _) (Value.int _ _)) _ _ _); k_dflt (first
   | (refine' my_tup ?Z0 ?Z1 ?Z2 ?Z3 ?Z4 ?Z5 ?_; (case Z0 => k_asm); (case Z1 => k_mem); (case Z2 | Z3 => decide); (case Z4 | Z5 => rfl); k_whole)
   | (refine' my_lst ?Z0 ?Z1 ?Z2 ?Z3 ?Z5 ?_; (case Z0 => k_asm); (case Z1 => k_mem); (case Z2 | Z3 => decide); (case Z5 => rfl); k_whole))))
  k_with "eval Name" =>
   ((k_here; k_dflt (refine' nameX_L ?Z6 ?Z7 ?_; (case Z6 => k_asm); (case Z7 => exact rfl); k_whole)))
  k_with "w_k_room" =>
   (ktr_room)
  k_with "w_ktr_enter" =>
   ((refine' code_defC ?Z8 ?Z9 ?Za ?Zb ?Zc ?Zd ?Ze ?Zf ?Zg ?Zh ?Zi ?Zj ?Zk ?Zl ?_ ?Zm ?Zn ?Zo; (case Zd | Ze => exact rfl); (case Zf => first | exact rfl | assumption); (case Z8 | Z9 | Za | Zb | Zc => k_asm); (case Zg | Zh => k_is); (case Zi => ktr_room); (case Zj => exact BindsTo.of_eq rfl); (case Zk => exact rfl); (case Zl => decide +kernel); (case Zm | Zn | Zo => exact rfl); k_whole; intro g' L' h' tk' cells' FG' F' N' Y' B' X' T' l1; k_cells Y'; (try simp only [List.cons_append, List.nil_append] at N'); (try dsimp only); (try k_fold)))
  k_with "eval ListComp" =>
   ((k_here; k_dflt (refine ListComp_tup (F₀ := by k_asm) (by with_unfolding_all rfl) (by decide) (by rfl) (by decide) (by rfl) ?_)))
  k_with "SrcT" =>
   ((k_dflt (refine srcT_of (by rfl) (by k_asm) (by k_asm) (by k_mem) (by first | size_fits | exact Nat.le_of_ble_eq_true rfl) ?_); intro g'; lcg_lit))
  k_with "CompRest" =>
   ((with_unfolding_all first
   | (refine LCg.CompRest.succ ?_; intro v' I' oI' C' oC' D' m' h' tk' E' hv' hC' hx' F' N' off' ne'; lcg_open hv')
   | refine LCg.CompRest.zero ?_))
  k_with "FinE" =>
   (((unfold LCg.FinE); intro D' h' tk' F' N' o1'; (try simp only [List.nil_append, List.cons_append, List.append_assoc] at N'); (try dsimp only)))
  k_with "CompEnd" =>
   ((refine' comp_end ?Zp ?Zq ?Zr ?Zs ?Zt ?Zu ?Zv ?_; (case Zp | Zq => k_asm); (case Zr | Zs | Zt => (repeat (first | exact Pull.head | apply Pull.tail))); (case Zu => lcg_off); (case Zv => (unfold HasTup; k_mem))))
  k_with "CompEnd" =>
   ((refine' comp_end_pure ?Zw ?Zx ?Zy ?Zz ?Z10 ?_; (case Zw | Zz | Zx | Zy => k_asm); (case Z10 => (unfold HasTup; k_mem))))
  k_with "call ref" =>
   ((k_here; (with_reducible show wpAny _ _ (call (Value.ref 45) _) _ _ _); k_dflt (refine' wg_use ?Z11 ?Z12 ?Z13 ?Z14 ?Z15 ?Z16 ?Z17 ?Z18 ?Z19 ?Z1a ?Z1b ?Z1c ?_; (case Z11 | Z16 | Z18 | Z12 => k_asm); (case Z13 | Z14 => tb_start); (case Z15 | Z17 | Z19 => k_asm); (case Z1a => first | exact rfl | with_reducible assumption); (case Z1b => ktr_room); (case Z1c => ktr_units)); intro r9 tl9 h9 tk9 F9 N9 ab9 dt9; (try simp only [List.nil_append, List.cons_append, List.append_nil] at N9); (try dsimp only); (try k_fold)))
  k_with "call ref" =>
   ((k_here; k_dflt (refine' cg_use ?Z1d ?Z1e ?Z1f ?Z1g ?Z1h ?Z1i ?Z1j ?Z1k ?Z1l ?Z1m ?Z1n ?Z1o ?Z1p ?_; (case Z1d | Z1e => with_reducible assumption); (case Z1f | Z1j | Z1l => k_asm); (case Z1g | Z1h => tb_start); (case Z1i | Z1k | Z1m => k_asm); (case Z1n => first | exact rfl | with_reducible assumption); (case Z1o => ktr_room); (case Z1p => ktr_units)); intro r9 tl9 h9 tk9 F9 N9 ab9 dt9; (try simp only [List.nil_append, List.cons_append, List.append_nil] at N9); (try dsimp only); (try k_fold)))
  k_with "callWith ref" =>
   ((k_here; k_dflt (refine' callWith_F ?Z3z ?_; (case Z3z => (refine' hch.1 ?Z40 ?Z41 ?Z42 ?Z43; (case Z40 | Z41 | Z42 => k_asm); (case Z43 => tb_start))); k_whole)))
  k_with "And" =>
   (((with_reducible show FnAt _ _ ∧ _); k_dflt (refine' And.intro ?Z44 ?_; (case Z44 => (refine' hch.1 ?Z45 ?Z46 ?Z47 ?Z48; (case Z45 | Z46 | Z47 => k_asm); (case Z48 => tb_start)))); try dsimp only [List.nil_append, List.cons_append]))
  k_with "execs cons" =>
   (k_here; (try k_gentoks); (first | ((fail_if_success (fail_if_success k_fold)); (with_reducible refine' ec_let2 ?_); intro q0 e0 K0) | ((with_reducible refine' ec_let ?_); intro K0)); (all_goals (try ((with_reducible rename Fr _ _ _ (fun _ => ite _ _ _) => f9); refine fr_let f9 ?_; clear f9; intro m0 F0))); (try dsimp only))
  k_with "eval Constant str" =>
   (with_reducible refine' con_str ?_)
  k_with "eval Constant int" =>
   (with_reducible refine' con_int ?_)
  k_with "subscriptTail Name Constant ref int" =>
   (k_extra "subscriptTail")
  k_with "eval Name" =>
   (k_here; k_dflt (first
   | (refine' nameX_L ?zn1 ?zn2 ?_ ?zn3 ?zn4; (case zn3 | zn4 => rfl); (case zn1 => k_asm); (case zn2 => rfl); k_whole)
   | (refine' nameX_K ?zn1 ?zn2 ?zn3 ?zn4 ?_ ?zn5 ?zn6; (case zn5 | zn6 => rfl); (case zn1 | zn2 | zn3 => k_asm); (case zn4 => k_is); k_whole)
   | (refine' nameX_B ?zn1 ?zn2 ?zn3 ?zn4 ?zn5 ?zn6 ?_ ?zn7 ?zn8; (case zn7 | zn8 => rfl); (case zn1 | zn2 | zn3 => k_asm); (case zn4 => k_is); (case zn5 => boot_fast); (case zn6 => decide); k_whole)
   | fail))
  k_with "newTuple" =>
   (k_here; k_dflt (refine' tup_let ?z30 ?z4 ?z0 ?_; (case z30 | z4 => k_asm); (case z0 => kmk_size)); intro D' h' e' Y' F' N' l1; (try k_sweep))
  k_with "newList" =>
   (k_here; k_dflt (refine' lst_let ?z30 ?z4 ?z0 ?_; (case z30 | z4 => k_asm); (case z0 => kmk_size)); intro D' h' e' Y' F' N' l1; (try k_sweep))
  k_with "binaryOp Add ref ref" =>
   (k_here; (with_reducible show wpAny _ _ (binaryOp Operator.Add (Value.ref _) (Value.ref _)) _ _ _); k_dflt (refine' kde_addT ?z1 ?z27 ?z25 ?z2 ?z18 ?z23 ?z21 ?z24 ?_; (case z1 | z27 => k_asm); (case z25 | z2 => exact News.isTup (by k_asm) (by k_mem)); (case z18 | z23 => exact List.cons_ne_nil _ _); (case z21 => exact Nat.le_of_ble_eq_true rfl); (case z24 => kun_lit)); intro D' h' F' N' l1; (replace l1 := allLt_of l1); (try k_sweep))
  k_with "k_up" =>
   (first
   | with_reducible exact hp
   | ((with_reducible refine List.mem_cons_of_mem _ ?_); k_extra "k_up")
   | ((with_reducible refine List.mem_append_left _ ?_); k_extra "k_up")
   | ((with_reducible refine List.mem_append_right _ ?_); k_extra "k_up")
   | fail)
  k_with "w_tb_start" =>
   (first
   | exact sub_nil
   | (intro p hp; k_extra "k_up")
   | (refine' sub_trans ?z28 ?z13; (case z28 => with_reducible assumption); (case z13 => (intro p hp; k_extra "k_up")))
   | ((with_reducible refine sub_app ?_ ?_) <;> tb_start)
   | ((with_reducible refine sub_cons ?_ ?_); k_mem; tb_start)
   | fail)
  k_with "w_k_mem" =>
   (focus ((repeat (with_reducible first | exact List.mem_cons_self | refine List.mem_cons_of_mem _ ?_ | refine List.mem_append_left _ ?_)); done))
  k_with "w_kqd_sub" =>
   (with_reducible first
   | exact gdJ_nil
   | (refine' gdJ_app ?_ ?_ <;> kqd_sub)
   | (refine' gd_app ?_ ?_ <;> kqd_sub)
   | (refine' gdJ_new ?z32 ?z12 ?z22 ?z9; (case z12 | z22 => assumption); (case z32 | z9 => k_dflt tb_start))
   | (refine' gd_new ?z32 ?z12 ?z9; (case z12 => assumption); (case z32 | z9 => k_dflt tb_start))
   | (refine' gd_cons0 ?z15 ?z10; (case z15 => first | (refine' gd_had ?z31 ?z38; (case z38 => assumption); (case z31 => k_dflt k_mem)) | (refine' gd_one ?z31 ?z38 ?z37; (case z38 => assumption); (case z31 => k_dflt k_mem); (case z37 => k_dflt tb_start))); (case z10 => kqd_sub))
   | (refine' gdJ_old ?z32 ?z9; (case z9 | z32 => k_dflt tb_start))
   | (refine' gd_old ?z32 ?z9; (case z9 | z32 => k_dflt tb_start))
   | fail)
  k_with "w_tb_rel" =>
   (with_reducible first
   | exact DatP.none
   | exact DatP.bool _
   | exact DatP.int _ _
   | exact DatP.str _ _
   | exact DatPs.nil
   | (refine' DatPs.cons ?_ ?_ <;> first | ((with_reducible show DatP _ _ _); tb_rel) | ((with_reducible show DatPs _ _ _); tb_rel) | ((with_reducible show Dat); skip) | ((with_reducible show List Dat); skip))
   | (refine' datP_in ?z5 ?z37; (case z5 => assumption); (case z37 => k_dflt kqd_sub))
   | (refine' datP_gdJ ?z31 ?z34 ?z35; (case z31 => k_dflt k_mem); (case z34 => first | (refine' gdJ_had ?z31 ?z38; (case z38 => assumption); (case z31 => k_dflt k_mem)) | (refine' gdJ_one ?z31 ?z38 ?z37 ?z19; (case z38 => assumption); (case z31 => k_dflt k_mem); (case z37 => k_dflt tb_start); (case z19 => k_dflt (k_extra "k_ltA")))); (case z35 => tb_rel))
   | (refine' datP_gd ?z31 ?z34 ?z35; (case z31 => k_dflt k_mem); (case z34 => first | (refine' gd_had ?z31 ?z38; (case z38 => assumption); (case z31 => k_dflt k_mem)) | (refine' gd_one ?z31 ?z38 ?z37; (case z38 => assumption); (case z31 => k_dflt k_mem); (case z37 => k_dflt tb_start))); (case z35 => tb_rel))
   | fail)
  k_with "w_lcg_off" =>
   (with_reducible first
   | assumption
   | exact off3_nil
   | (refine' off3_app ?_ ?_ <;> lcg_off)
   | (refine' off3_any ?z40 ?z14 ?z3; (case z40 => assumption); (case z14 => k_dflt k_mem); (case z3 => lcg_off))
   | (refine' off3_cons ⟨?z42, ?z16, ?z17⟩ ?z3; (case z42 | z16 | z17 => k_dflt k_ne); (case z3 => lcg_off))
   | (refine' off3_above ?z40 ?z42 ?z16 ?z17; (case z40 => assumption); (case z42 | z16 | z17 => k_dflt k_mem))
   | (refine' off3_sub ?z40 ?z3; (case z40 => assumption); (case z3 => k_dflt tb_start))
   | fail)
  k_with "w_ktr_room" =>
   ((try simp only [depth_under_make, depth_under_kw, depth_in1, depth_deeper, depth_caller]); (try dsimp only [ktrTop]); with_reducible first
   | (refine' room2 ?z11 ?z20; (case z11 => assumption); (case z20 => k_dflt (first | exact Nat.le_of_ble_eq_true rfl | omega)))
   | (refine' room1 ?z11 ?z20; (case z11 => assumption); (case z20 => k_dflt (first | exact Nat.le_of_ble_eq_true rfl | omega)))
   | (refine' room0 ?z11; (case z11 => assumption))
   | fail)
  k_with "w_ktr_units" =>
   ((try simp only [units_in1, units_deeper, Around.mark_units, units_caller]); (try dsimp only [ktrTop]); with_reducible first
   | (refine' unit2 ?z11 ?z20; (case z11 => assumption); (case z20 => k_dflt (first | exact Nat.le_of_ble_eq_true rfl | omega)))
   | (refine' unit1 ?z11 ?z20; (case z11 => assumption); (case z20 => k_dflt (first | exact Nat.le_of_ble_eq_true rfl | omega)))
   | fail)
  k_with "k_ltA" =>
   (first
   | (refine' lt_all ?z6 ?z36; (case z6 => with_reducible assumption); (case z36 => k_mem))
   | (refine ltN ?_; omega))
  k_with "w_kqd_all" =>
   (with_reducible first
   | assumption
   | exact off_nil
   | (refine' off_cons ?z29 ?z39; (case z29 => k_dflt k_ne); (case z39 => kqd_all))
   | (refine' off_app ?_ ?_ <;> kqd_all)
   | (refine' off_sub ?z8 ?z7; (case z8 => assumption); (case z7 => k_dflt tb_start))
   | (refine' off_above ?z8 ?z7; (case z8 => assumption); (case z7 => k_dflt k_mem))
   | (refine' off_lt ?z8 ?z33 ?z7; (case z8 => assumption); (case z33 => k_dflt ((show (_ : Nat) ≤ _); omega)); (case z7 => k_dflt tb_start))
   | (refine' off_o3a ?z8 ?z7; (case z8 => assumption); (case z7 => k_dflt tb_start))
   | (refine' off_o3b ?z8 ?z7; (case z8 => assumption); (case z7 => k_dflt tb_start))
   | (refine' off_o3c ?z8 ?z7; (case z8 => assumption); (case z7 => k_dflt tb_start))
   | (refine' off_o1 ?z8 ?z7; (case z8 => assumption); (case z7 => k_dflt tb_start))
   | fail)
  k_with "w_k_ne" =>
   (first
   | with_reducible assumption
   | (refine' ne_all ?z6 ?z36; (case z6 => with_reducible assumption); (case z36 => k_mem))
   | (refine' ne_all2 ?z6 ?z36; (case z6 => with_reducible assumption); (case z36 => k_mem))
   | (refine' Ne.symm ?z6; (case z6 => with_reducible assumption))
   | (refine' ne_o3a ?z6 ?z36; (case z6 => with_reducible assumption); (case z36 => k_mem))
   | (refine' ne_o3b ?z6 ?z36; (case z6 => with_reducible assumption); (case z36 => k_mem))
   | (refine' ne_o3c ?z6 ?z36; (case z6 => with_reducible assumption); (case z36 => k_mem))
   | (refine' ne_o3a' ?z6 ?z36; (case z6 => with_reducible assumption); (case z36 => k_mem))
   | (refine' ne_o3b' ?z6 ?z36; (case z6 => with_reducible assumption); (case z36 => k_mem))
   | (refine' ne_o3c' ?z6 ?z36; (case z6 => with_reducible assumption); (case z36 => k_mem))
   | (refine' ne_o1 ?z6 ?z36; (case z6 => with_reducible assumption); (case z36 => k_mem))
   | (refine' ne_o1' ?z6 ?z36; (case z6 => with_reducible assumption); (case z36 => k_mem))
   | (refine' ne_of_lt' ?z6; (case z6 => with_reducible assumption))
   | (refine' ne_of_gt' ?z6; (case z6 => with_reducible assumption))
   | (refine' ne_tr ?z41 ?z6 ?z36; (case z41 | z6 => with_reducible assumption); (case z36 => k_mem))
   | (refine' ne_trs ?z41 ?z6 ?z36; (case z41 | z6 => with_reducible assumption); (case z36 => k_mem))
   | (refine' ne_tr2 ?z41 ?z26 ?z6 ?z36; (case z41 | z26 | z6 => with_reducible assumption); (case z36 => k_mem))
   | (refine' ne_tr2s ?z41 ?z26 ?z6 ?z36; (case z41 | z26 | z6 => with_reducible assumption); (case z36 => k_mem))
   | (with_reducible refine' ne_up1 ?z6 ?z36; (case z6 => assumption); (case z36 => k_dflt k_mem))
   | (with_reducible refine' ne_up2 ?z6 ?z36; (case z6 => assumption); (case z36 => k_dflt k_mem))
   | (with_reducible refine' ne_up3 ?z6 ?z36; (case z6 => assumption); (case z36 => k_dflt k_mem))
   | (with_reducible refine' ne_dn1 ?z6 ?z36; (case z6 => assumption); (case z36 => k_dflt k_mem))
   | (with_reducible refine' ne_dn2 ?z6 ?z36; (case z6 => assumption); (case z36 => k_dflt k_mem))
   | (with_reducible refine' ne_dn3 ?z6 ?z36; (case z6 => assumption); (case z36 => k_dflt k_mem))
   | fail)
  k_with "pack" =>
   skip
  trivial
theorem wg_ref (q : Bool) {rg : Rg} (hRr : R rg) {t : Ty} (hch : ChG w loose mean mg mb c D₀ R f k) (S : WrG w loose mean mg mb c D₀ f k t) : WrG w loose mean mg mb c D₀ f k (.ref rg q t) := by
  intro v D news hv hs1 hs0
  unfold CallOk
  intro dp un gd cn cs a ccd cl outer A₀ base h₀ L m s Q E B F X N T hk hdp hun hret
  simp only [Ty.dp] at hdp hun
  obtain ⟨b, w1, w2, w3, w4, n, rfl, hm, h1, h2, h3, h4⟩ := in_tup4 hv
  obtain ⟨t1, rfl⟩ := in_str h1
  obtain rfl := in_bool h3
  replace N := News.add N (hs1 _ hm)
  refine wpAny_call ?_
  k_dflt ktr_enter
  all_goals (try (with_reducible rename News _ _ _ _ => nL9; refine led_let nL9 ?_; clear nL9; intro Y0 N9))
  k_steps
  refine hret _ _ _ _ (by k_asm) (by k_asm) ⟨by tb_start, ?_⟩
  dsimp only [tyD, rmapG]
  (repeat (with_reducible rename _ ∧ _ => hc; (have hcl := hc.1); (have hcr := hc.2); clear hc))
  tb_rel
theorem wg_adt {rg : Rg} (hRr : R rg) {t : Ty} (hch : ChG w loose mean mg mb c D₀ R f k) (S : WrG w loose mean mg mb c D₀ f k t) : WrG w loose mean mg mb c D₀ f k (.adt rg t) := by
  intro v D news hv hs1 hs0
  unfold CallOk
  intro dp un gd cn cs a ccd cl outer A₀ base h₀ L m s Q E B F X N T hk hdp hun hret
  simp only [Ty.dp] at hdp hun
  obtain ⟨b, w1, w2, w3, w4, n, rfl, hm, h1, h2, h3, h4⟩ := in_tup4 hv
  obtain ⟨t1, rfl⟩ := in_str h1
  obtain ⟨t2, rfl⟩ := in_str h2
  obtain ⟨b3, w5, n3, rfl, hm3, h5⟩ := in_tup1 h3
  obtain ⟨b4, w6, n4, rfl, hm4, h6⟩ := in_tup1 h4
  replace N := News.add (News.add (News.add N (hs1 _ hm)) (.tail _ (hs1 _ hm3))) (.tail _ (.tail _ (hs1 _ hm4)))
  refine wpAny_call ?_
  k_dflt ktr_enter
  all_goals (try (with_reducible rename News _ _ _ _ => nL9; refine led_let nL9 ?_; clear nL9; intro Y0 N9))
  k_steps
  refine hret _ _ _ _ (by k_asm) (by k_asm) ⟨by tb_start, ?_⟩
  dsimp only [tyD, rmapG]
  (repeat (with_reducible rename _ ∧ _ => hc; (have hcl := hc.1); (have hcr := hc.2); clear hc))
  tb_rel
end
example : True := by
  k_with_none
  k_with "subscriptTail" =>
   ((k_here; (with_reducible show wpAny _ _ (subscriptTail _ _ (Value.ref _) (Value.int _ _)) _ _ _); k_dflt (first
   | (refine' my_tup ?Z0 ?Z1 ?Z2 ?Z3 ?Z4 ?Z5 ?_; (case Z0 => k_asm); (case Z1 => k_mem); (case Z2 | Z3 => decide); (case Z4 | Z5 => rfl); k_whole)
   | (refine' my_lst ?Z0 ?Z1 ?Z2 ?Z3 ?Z5 ?_; (case Z0 => k_asm); (case Z1 => k_mem); (case Z2 | Z3 => decide); (case Z5 => rfl); k_whole))))
  k_with "eval Name" =>
   ((k_here; k_dflt (refine' nameX_L ?Z6 ?Z7 ?_; (case Z6 => k_asm); (case Z7 => exact rfl); k_whole)))
  k_with "w_k_room" =>
   (ktr_room)
  k_with "w_ktr_enter" =>
   ((refine' code_defC ?Z8 ?Z9 ?Za ?Zb ?Zc ?Zd ?Ze ?Zf ?Zg ?Zh ?Zi ?Zj ?Zk ?Zl ?_ ?Zm ?Zn ?Zo; (case Zd | Ze => exact rfl); (case Zf => first | exact rfl | assumption); (case Z8 | Z9 | Za | Zb | Zc => k_asm); (case Zg | Zh => k_is); (case Zi => ktr_room); (case Zj => exact BindsTo.of_eq rfl); (case Zk => exact rfl); (case Zl => decide +kernel); (case Zm | Zn | Zo => exact rfl); k_whole; intro g' L' h' tk' cells' FG' F' N' Y' B' X' T' l1; k_cells Y'; (try simp only [List.cons_append, List.nil_append] at N'); (try dsimp only); (try k_fold)))
  k_with "eval ListComp" =>
   ((k_here; k_dflt (refine ListComp_tup (F₀ := by k_asm) (by with_unfolding_all rfl) (by decide) (by rfl) (by decide) (by rfl) ?_)))
  k_with "SrcT" =>
   ((k_dflt (refine srcT_of (by rfl) (by k_asm) (by k_asm) (by k_mem) (by first | size_fits | exact Nat.le_of_ble_eq_true rfl) ?_); intro g'; lcg_lit))
  k_with "CompRest" =>
   ((with_unfolding_all first
   | (refine LCg.CompRest.succ ?_; intro v' I' oI' C' oC' D' m' h' tk' E' hv' hC' hx' F' N' off' ne'; lcg_open hv')
   | refine LCg.CompRest.zero ?_))
  k_with "FinE" =>
   (((unfold LCg.FinE); intro D' h' tk' F' N' o1'; (try simp only [List.nil_append, List.cons_append, List.append_assoc] at N'); (try dsimp only)))
  k_with "CompEnd" =>
   ((refine' comp_end ?Zp ?Zq ?Zr ?Zs ?Zt ?Zu ?Zv ?_; (case Zp | Zq => k_asm); (case Zr | Zs | Zt => (repeat (first | exact Pull.head | apply Pull.tail))); (case Zu => lcg_off); (case Zv => (unfold HasTup; k_mem))))
  k_with "CompEnd" =>
   ((refine' comp_end_pure ?Zw ?Zx ?Zy ?Zz ?Z10 ?_; (case Zw | Zz | Zx | Zy => k_asm); (case Z10 => (unfold HasTup; k_mem))))
  k_with "call ref" =>
   ((k_here; (with_reducible show wpAny _ _ (call (Value.ref 45) _) _ _ _); k_dflt (refine' wg_use ?Z11 ?Z12 ?Z13 ?Z14 ?Z15 ?Z16 ?Z17 ?Z18 ?Z19 ?Z1a ?Z1b ?Z1c ?_; (case Z11 | Z16 | Z18 | Z12 => k_asm); (case Z13 | Z14 => tb_start); (case Z15 | Z17 | Z19 => k_asm); (case Z1a => first | exact rfl | with_reducible assumption); (case Z1b => ktr_room); (case Z1c => ktr_units)); intro r9 tl9 h9 tk9 F9 N9 ab9 dt9; (try simp only [List.nil_append, List.cons_append, List.append_nil] at N9); (try dsimp only); (try k_fold)))
  k_with "call ref" =>
   ((k_here; k_dflt (refine' cg_use ?Z1d ?Z1e ?Z1f ?Z1g ?Z1h ?Z1i ?Z1j ?Z1k ?Z1l ?Z1m ?Z1n ?Z1o ?Z1p ?_; (case Z1d | Z1e => with_reducible assumption); (case Z1f | Z1j | Z1l => k_asm); (case Z1g | Z1h => tb_start); (case Z1i | Z1k | Z1m => k_asm); (case Z1n => first | exact rfl | with_reducible assumption); (case Z1o => ktr_room); (case Z1p => ktr_units)); intro r9 tl9 h9 tk9 F9 N9 ab9 dt9; (try simp only [List.nil_append, List.cons_append, List.append_nil] at N9); (try dsimp only); (try k_fold)))
  k_with "execs cons" =>
   (k_here; (try k_gentoks); (first | ((fail_if_success (fail_if_success k_fold)); (with_reducible refine' ec_let2 ?_); intro q0 e0 K0) | ((with_reducible refine' ec_let ?_); intro K0)); (all_goals (try ((with_reducible rename Fr _ _ _ (fun _ => ite _ _ _) => f9); refine fr_let f9 ?_; clear f9; intro m0 F0))); (try dsimp only))
  k_with "eval Constant str" =>
   (with_reducible refine' con_str ?_)
  k_with "eval Constant int" =>
   (with_reducible refine' con_int ?_)
  k_with "subscriptTail Name Constant ref int" =>
   (k_extra "subscriptTail")
  k_with "eval Name" =>
   (k_here; k_dflt (first
   | (refine' nameX_L ?zn1 ?zn2 ?_ ?zn3 ?zn4; (case zn3 | zn4 => rfl); (case zn1 => k_asm); (case zn2 => rfl); k_whole)
   | (refine' nameX_K ?zn1 ?zn2 ?zn3 ?zn4 ?_ ?zn5 ?zn6; (case zn5 | zn6 => rfl); (case zn1 | zn2 | zn3 => k_asm); (case zn4 => k_is); k_whole)
   | (refine' nameX_B ?zn1 ?zn2 ?zn3 ?zn4 ?zn5 ?zn6 ?_ ?zn7 ?zn8; (case zn7 | zn8 => rfl); (case zn1 | zn2 | zn3 => k_asm); (case zn4 => k_is); (case zn5 => boot_fast); (case zn6 => decide); k_whole)
   | fail))
  k_with "newTuple" =>
   (k_here; k_dflt (refine' tup_let ?z30 ?z4 ?z0 ?_; (case z30 | z4 => k_asm); (case z0 => kmk_size)); intro D' h' e' Y' F' N' l1; (try k_sweep))
  k_with "newList" =>
   (k_here; k_dflt (refine' lst_let ?z30 ?z4 ?z0 ?_; (case z30 | z4 => k_asm); (case z0 => kmk_size)); intro D' h' e' Y' F' N' l1; (try k_sweep))
  k_with "binaryOp Add ref ref" =>
   (k_here; (with_reducible show wpAny _ _ (binaryOp Operator.Add (Value.ref _) (Value.ref _)) _ _ _); k_dflt (refine' kde_addT ?z1 ?z27 ?z25 ?z2 ?z18 ?z23 ?z21 ?z24 ?_; (case z1 | z27 => k_asm); (case z25 | z2 => exact News.isTup (by k_asm) (by k_mem)); (case z18 | z23 => exact List.cons_ne_nil _ _); (case z21 => exact Nat.le_of_ble_eq_true rfl); (case z24 => kun_lit)); intro D' h' F' N' l1; (replace l1 := allLt_of l1); (try k_sweep))
  k_with "k_up" =>
   (first
   | with_reducible exact hp
   | ((with_reducible refine List.mem_cons_of_mem _ ?_); k_extra "k_up")
   | ((with_reducible refine List.mem_append_left _ ?_); k_extra "k_up")
   | ((with_reducible refine List.mem_append_right _ ?_); k_extra "k_up")
   | fail)
  k_with "w_tb_start" =>
   (first
   | exact sub_nil
   | (intro p hp; k_extra "k_up")
   | (refine' sub_trans ?z28 ?z13; (case z28 => with_reducible assumption); (case z13 => (intro p hp; k_extra "k_up")))
   | ((with_reducible refine sub_app ?_ ?_) <;> tb_start)
   | ((with_reducible refine sub_cons ?_ ?_); k_mem; tb_start)
   | fail)
  k_with "w_k_mem" =>
   (focus ((repeat (with_reducible first | exact List.mem_cons_self | refine List.mem_cons_of_mem _ ?_ | refine List.mem_append_left _ ?_)); done))
  k_with "w_kqd_sub" =>
   (with_reducible first
   | exact gdJ_nil
   | (refine' gdJ_app ?_ ?_ <;> kqd_sub)
   | (refine' gd_app ?_ ?_ <;> kqd_sub)
   | (refine' gdJ_new ?z32 ?z12 ?z22 ?z9; (case z12 | z22 => assumption); (case z32 | z9 => k_dflt tb_start))
   | (refine' gd_new ?z32 ?z12 ?z9; (case z12 => assumption); (case z32 | z9 => k_dflt tb_start))
   | (refine' gd_cons0 ?z15 ?z10; (case z15 => first | (refine' gd_had ?z31 ?z38; (case z38 => assumption); (case z31 => k_dflt k_mem)) | (refine' gd_one ?z31 ?z38 ?z37; (case z38 => assumption); (case z31 => k_dflt k_mem); (case z37 => k_dflt tb_start))); (case z10 => kqd_sub))
   | (refine' gdJ_old ?z32 ?z9; (case z9 | z32 => k_dflt tb_start))
   | (refine' gd_old ?z32 ?z9; (case z9 | z32 => k_dflt tb_start))
   | fail)
  k_with "w_tb_rel" =>
   (with_reducible first
   | exact DatP.none
   | exact DatP.bool _
   | exact DatP.int _ _
   | exact DatP.str _ _
   | exact DatPs.nil
   | (refine' DatPs.cons ?_ ?_ <;> first | ((with_reducible show DatP _ _ _); tb_rel) | ((with_reducible show DatPs _ _ _); tb_rel) | ((with_reducible show Dat); skip) | ((with_reducible show List Dat); skip))
   | (refine' datP_in ?z5 ?z37; (case z5 => assumption); (case z37 => k_dflt kqd_sub))
   | (refine' datP_gdJ ?z31 ?z34 ?z35; (case z31 => k_dflt k_mem); (case z34 => first | (refine' gdJ_had ?z31 ?z38; (case z38 => assumption); (case z31 => k_dflt k_mem)) | (refine' gdJ_one ?z31 ?z38 ?z37 ?z19; (case z38 => assumption); (case z31 => k_dflt k_mem); (case z37 => k_dflt tb_start); (case z19 => k_dflt (k_extra "k_ltA")))); (case z35 => tb_rel))
   | (refine' datP_gd ?z31 ?z34 ?z35; (case z31 => k_dflt k_mem); (case z34 => first | (refine' gd_had ?z31 ?z38; (case z38 => assumption); (case z31 => k_dflt k_mem)) | (refine' gd_one ?z31 ?z38 ?z37; (case z38 => assumption); (case z31 => k_dflt k_mem); (case z37 => k_dflt tb_start))); (case z35 => tb_rel))
   | fail)
  k_with "w_lcg_off" =>
   (with_reducible first
   | assumption
   | exact off3_nil
   | (refine' off3_app ?_ ?_ <;> lcg_off)
   | (refine' off3_any ?z40 ?z14 ?z3; (case z40 => assumption); (case z14 => k_dflt k_mem); (case z3 => lcg_off))
   | (refine' off3_cons ⟨?z42, ?z16, ?z17⟩ ?z3; (case z42 | z16 | z17 => k_dflt k_ne); (case z3 => lcg_off))
   | (refine' off3_above ?z40 ?z42 ?z16 ?z17; (case z40 => assumption); (case z42 | z16 | z17 => k_dflt k_mem))
   | (refine' off3_sub ?z40 ?z3; (case z40 => assumption); (case z3 => k_dflt tb_start))
   | fail)
  k_with "w_ktr_room" =>
   ((try simp only [depth_under_make, depth_under_kw, depth_in1, depth_deeper, depth_caller]); (try dsimp only [ktrTop]); with_reducible first
   | (refine' room2 ?z11 ?z20; (case z11 => assumption); (case z20 => k_dflt (first | exact Nat.le_of_ble_eq_true rfl | omega)))
   | (refine' room1 ?z11 ?z20; (case z11 => assumption); (case z20 => k_dflt (first | exact Nat.le_of_ble_eq_true rfl | omega)))
   | (refine' room0 ?z11; (case z11 => assumption))
   | fail)
  k_with "w_ktr_units" =>
   ((try simp only [units_in1, units_deeper, Around.mark_units, units_caller]); (try dsimp only [ktrTop]); with_reducible first
   | (refine' unit2 ?z11 ?z20; (case z11 => assumption); (case z20 => k_dflt (first | exact Nat.le_of_ble_eq_true rfl | omega)))
   | (refine' unit1 ?z11 ?z20; (case z11 => assumption); (case z20 => k_dflt (first | exact Nat.le_of_ble_eq_true rfl | omega)))
   | fail)
  k_with "k_ltA" =>
   (first
   | (refine' lt_all ?z6 ?z36; (case z6 => with_reducible assumption); (case z36 => k_mem))
   | (refine ltN ?_; omega))
  k_with "w_kqd_all" =>
   (with_reducible first
   | assumption
   | exact off_nil
   | (refine' off_cons ?z29 ?z39; (case z29 => k_dflt k_ne); (case z39 => kqd_all))
   | (refine' off_app ?_ ?_ <;> kqd_all)
   | (refine' off_sub ?z8 ?z7; (case z8 => assumption); (case z7 => k_dflt tb_start))
   | (refine' off_above ?z8 ?z7; (case z8 => assumption); (case z7 => k_dflt k_mem))
   | (refine' off_lt ?z8 ?z33 ?z7; (case z8 => assumption); (case z33 => k_dflt ((show (_ : Nat) ≤ _); omega)); (case z7 => k_dflt tb_start))
   | (refine' off_o3a ?z8 ?z7; (case z8 => assumption); (case z7 => k_dflt tb_start))
   | (refine' off_o3b ?z8 ?z7; (case z8 => assumption); (case z7 => k_dflt tb_start))
   | (refine' off_o3c ?z8 ?z7; (case z8 => assumption); (case z7 => k_dflt tb_start))
   | (refine' off_o1 ?z8 ?z7; (case z8 => assumption); (case z7 => k_dflt tb_start))
   | fail)
  k_with "w_k_ne" =>
   (first
   | with_reducible assumption
   | (refine' ne_all ?z6 ?z36; (case z6 => with_reducible assumption); (case z36 => k_mem))
   | (refine' ne_all2 ?z6 ?z36; (case z6 => with_reducible assumption); (case z36 => k_mem))
   | (refine' Ne.symm ?z6; (case z6 => with_reducible assumption))
   | (refine' ne_o3a ?z6 ?z36; (case z6 => with_reducible assumption); (case z36 => k_mem))
   | (refine' ne_o3b ?z6 ?z36; (case z6 => with_reducible assumption); (case z36 => k_mem))
   | (refine' ne_o3c ?z6 ?z36; (case z6 => with_reducible assumption); (case z36 => k_mem))
   | (refine' ne_o3a' ?z6 ?z36; (case z6 => with_reducible assumption); (case z36 => k_mem))
   | (refine' ne_o3b' ?z6 ?z36; (case z6 => with_reducible assumption); (case z36 => k_mem))
   | (refine' ne_o3c' ?z6 ?z36; (case z6 => with_reducible assumption); (case z36 => k_mem))
   | (refine' ne_o1 ?z6 ?z36; (case z6 => with_reducible assumption); (case z36 => k_mem))
   | (refine' ne_o1' ?z6 ?z36; (case z6 => with_reducible assumption); (case z36 => k_mem))
   | (refine' ne_of_lt' ?z6; (case z6 => with_reducible assumption))
   | (refine' ne_of_gt' ?z6; (case z6 => with_reducible assumption))
   | (refine' ne_tr ?z41 ?z6 ?z36; (case z41 | z6 => with_reducible assumption); (case z36 => k_mem))
   | (refine' ne_trs ?z41 ?z6 ?z36; (case z41 | z6 => with_reducible assumption); (case z36 => k_mem))
   | (refine' ne_tr2 ?z41 ?z26 ?z6 ?z36; (case z41 | z26 | z6 => with_reducible assumption); (case z36 => k_mem))
   | (refine' ne_tr2s ?z41 ?z26 ?z6 ?z36; (case z41 | z26 | z6 => with_reducible assumption); (case z36 => k_mem))
   | (with_reducible refine' ne_up1 ?z6 ?z36; (case z6 => assumption); (case z36 => k_dflt k_mem))
   | (with_reducible refine' ne_up2 ?z6 ?z36; (case z6 => assumption); (case z36 => k_dflt k_mem))
   | (with_reducible refine' ne_up3 ?z6 ?z36; (case z6 => assumption); (case z36 => k_dflt k_mem))
   | (with_reducible refine' ne_dn1 ?z6 ?z36; (case z6 => assumption); (case z36 => k_dflt k_mem))
   | (with_reducible refine' ne_dn2 ?z6 ?z36; (case z6 => assumption); (case z36 => k_dflt k_mem))
   | (with_reducible refine' ne_dn3 ?z6 ?z36; (case z6 => assumption); (case z36 => k_dflt k_mem))
   | fail)
  k_with "pack" =>
   skip
  trivial
theorem wg_ok (hch : ChG w loose mean mg mb c D₀ (fun _ => True) f k) : ∀ t, WrG w loose mean mg mb c D₀ f k t
  | .par _ => wg_gen0 hch rfl rfl
  | .int => wg_gen0 hch rfl rfl
  | .bool => wg_gen0 hch rfl rfl
  | .never => wg_gen0 hch rfl rfl
  | .ref _ q t => wg_ref q trivial hch (wg_ok hch t)
  | .box t => wg_gen1 hch rfl rfl (wg_ok hch t)
  | .arr t => wg_gen1 hch rfl rfl (wg_ok hch t)
  | .adt _ t => wg_adt trivial hch (wg_ok hch t)
  | .tup t u => wg_gen2 hch rfl rfl (wg_ok hch t) (wg_ok hch u)
theorem no_fn : FnIn w 52 [] := fun F _ X _ => ⟨_, _, _, _, F.keep 52 _ (X 52 _ rfl)⟩
section
theorem no_ch : ChG w loose mean mg mb 52 [] (fun _ => True) (fun _ => .no) 1 := by
  refine ⟨no_fn, ?_⟩
  intro r v D news hR hv hs1 hs0
  unfold CallOk
  intro dp un gd cn cs a ccd cl outer A₀ base h₀ L m s Q E B F X N T hk hdp hun hret
  refine wpAny_call ?_
  k_dflt ktr_enter
  all_goals (try (with_reducible rename News _ _ _ _ => nL9; refine led_let nL9 ?_; clear nL9; intro Y0 N9))
  k_steps
  refine hret _ _ _ _ (by k_asm) (by k_asm) ⟨by tb_start, ?_⟩
  dsimp only [rgD]
  tb_rel
end
theorem rmapG_no : ∀ t : Ty, rmapG (fun _ => .no) t = erase t
  | .par _ => rfl
  | .int => rfl
  | .bool => rfl
  | .never => rfl
  | .ref _ _ t => by simp only [rmapG, erase, rmapG_no t]
  | .box t => by simp only [rmapG, erase, rmapG_no t]
  | .arr t => by simp only [rmapG, erase, rmapG_no t]
  | .adt _ t => by simp only [rmapG, erase, rmapG_no t]
  | .tup t u => by simp only [rmapG, erase, rmapG_no t, rmapG_no u]
def EraOk (w : World) (loose : List Str) (mean : ExcName → Option Value) (mg mb : Str → Option Value) (t : Ty) : Prop :=
  ∀ v D news, Dt D v (tyD t) → (∀ p ∈ D, p ∈ news) →
    CallOk PySem.Challenge.rw_xm0591_01.row.prog w (hd.heap_1 w.params) topProg loose mean mg mb (2 * t.dp + 4) 45 [v, .ref 52] news (PPost D news (tyD (erase t)))
theorem era_use {t : Ty} {news D : List (Addr × Obj)} {v : Value}
  {dp un : Nat} {gd : Option (List Code)} {cn : Str} {cs : Scope} {a : Addr} {ccd : Value} {cl : List (Str × Addr)} {outer : List Env} {A₀ : Around} {base h₀ : Heap} {L : Addr} {m : Str → Option Value} {hS : Heap} {gS : Array GenState} {dS : Drawn} {tS : Nat} {oS : OsState} {Q E : Value → Shared → Prop}
  (hv : Dt D v (tyD t)) (S : EraOk w loose mean mg mb t) (s1 : ∀ p ∈ D, p ∈ news)
  (B : Below A₀ base outer h₀) (F : Fr h₀ L hS m) (X : (hd.heap_1 w.params).In h₀) (N : News h₀ L hS news) (T : Top topProg loose mean mg mb h₀) (hk : cs.kind = .function) (hr : dp + (2 * t.dp + 4) < recursionLimit) (hu : un + 8 * (2 * t.dp + 4) < cLine)
  (ret : ∀ r tl h' tk', Fr h₀ L h' m → News h₀ L h' (news ++ tl) → Above news tl → Dt (D ++ tl) r (tyD (erase t)) → Q (r) ⟨h', gS, dS, tk', oS⟩) : wpAny (model PySem.Challenge.rw_xm0591_01.row.prog w) (ktrTop dp un gd cn cs L a ccd cl outer) (call (.ref 45) [v, .ref 52]) Q E ⟨hS, gS, dS, tS, oS⟩ :=
  pure_use B F X N T hk (S v D news hv s1) hr hu ret
theorem era_ok (t : Ty) : EraOk w loose mean mg mb t := by
  intro v D news hv hs
  have := wg_ok (f := fun _ => .no) (no_ch (w := w) (loose := loose) (mean := mean) (mg := mg) (mb := mb)) t v D news hv hs (fun _ h => nomatch h)
  rw [rmapG_no] at this
  exact this
end
end Mine
namespace Mine
example : True := by
  w_top off
  k_with_none
  trivial

inductive Opd where
  | cp (k : Int)
  | mv (k : Int)
  | co (t : Ty)
def placeD (k : Int) : Dat := .tuple [.int k, .tuple [.tuple [.str (Str.ofString "field"), .int 1], .tuple [.str (Str.ofString "deref")]]]
def opD : Opd → Dat
  | .cp k => .tuple [.str (Str.ofString "copy"), placeD k]
  | .mv k => .tuple [.str (Str.ofString "move"), placeD k]
  | .co t => .tuple [.str (Str.ofString "const"), tyD t, .int 7]
def Opd.dp : Opd → Nat
  | .co t => t.dp
  | _ => 0
/-- what an operand becomes, told by what a type becomes -/
def Opd.map (f : Ty → Ty) : Opd → Opd
  | .co t => .co (f t)
  | o => o
section
variable {w : World} {loose : List Str} {mean : ExcName → Option Value} {mg mb : Str → Option Value}
def PlainOk (w : World) (loose : List Str) (mean : ExcName → Option Value) (mg mb : Str → Option Value) (σ : Pm → Option Ty) (t : Ty) : Prop :=
  ∀ v D₁ D₂ news d o kvs, Dt D₁ v (tyD t) → TabV D₂ kvs σ → (d, o) ∈ news → o.IsDictOf (PySem.strKind PySem.Challenge.rw_xm0591_01.row.prog w) kvs → (d == sysModules) = false → (∀ p ∈ D₁, p ∈ news) → (∀ p ∈ D₂, p ∈ news) →
    CallOk PySem.Challenge.rw_xm0591_01.row.prog w (hd.heap_1 w.params) topProg loose mean mg mb (2 * t.dp + 16) 78 [v, .ref d] news (PPost (D₁ ++ D₂) news (tyD (erase (subst σ t))))
theorem plain_use {σ : Pm → Option Ty} {t : Ty} {news D₁ D₂ : List (Addr × Obj)} {v : Value} {d : Addr} {o : Obj} {kvs : List (Str × Value)}
  {dp un : Nat} {gd : Option (List Code)} {cn : Str} {cs : Scope} {a : Addr} {ccd : Value} {cl : List (Str × Addr)} {outer : List Env} {A₀ : Around} {base h₀ : Heap} {L : Addr} {m : Str → Option Value} {hS : Heap} {gS : Array GenState} {dS : Drawn} {tS : Nat} {oS : OsState} {Q E : Value → Shared → Prop}
  (hv : Dt D₁ v (tyD t)) (S : PlainOk w loose mean mg mb σ t) (ht : TabV D₂ kvs σ) (ho : (d, o) ∈ news) (hdi : o.IsDictOf (PySem.strKind PySem.Challenge.rw_xm0591_01.row.prog w) kvs) (hlo : (d == sysModules) = false) (s1 : ∀ p ∈ D₁, p ∈ news) (s2 : ∀ p ∈ D₂, p ∈ news)
  (B : Below A₀ base outer h₀) (F : Fr h₀ L hS m) (X : (hd.heap_1 w.params).In h₀) (N : News h₀ L hS news) (T : Top topProg loose mean mg mb h₀) (hk : cs.kind = .function) (hr : dp + (2 * t.dp + 16) < recursionLimit) (hu : un + 8 * (2 * t.dp + 16) < cLine)
  (ret : ∀ r tl h' tk', Fr h₀ L h' m → News h₀ L h' (news ++ tl) → Above news tl → Dt (D₁ ++ D₂ ++ tl) r (tyD (erase (subst σ t))) → Q (r) ⟨h', gS, dS, tk', oS⟩) : wpAny (model PySem.Challenge.rw_xm0591_01.row.prog w) (ktrTop dp un gd cn cs L a ccd cl outer) (call (.ref 78) [v, .ref d]) Q E ⟨hS, gS, dS, tS, oS⟩ :=
  pure_use B F X N T hk (S v D₁ D₂ news d o kvs hv ht ho hdi hlo s1 s2) hr hu ret
def OpOk (w : World) (loose : List Str) (mean : ExcName → Option Value) (mg mb : Str → Option Value) (σ : Pm → Option Ty) (q : Opd) : Prop :=
  ∀ v D₁ D₂ news d o kvs, Dt D₁ v (opD q) → TabV D₂ kvs σ → (d, o) ∈ news → o.IsDictOf (PySem.strKind PySem.Challenge.rw_xm0591_01.row.prog w) kvs → (d == sysModules) = false → (∀ p ∈ D₁, p ∈ news) → (∀ p ∈ D₂, p ∈ news) →
    CallOk PySem.Challenge.rw_xm0591_01.row.prog w (hd.heap_1 w.params) topProg loose mean mg mb (2 * q.dp + 20) 85 [v, .ref d] news (PPost (D₁ ++ D₂) news (opD (q.map fun t => erase (subst σ t))))
theorem op_use {σ : Pm → Option Ty} {q : Opd} {news D₁ D₂ : List (Addr × Obj)} {v : Value} {d : Addr} {o : Obj} {kvs : List (Str × Value)}
  {dp un : Nat} {gd : Option (List Code)} {cn : Str} {cs : Scope} {a : Addr} {ccd : Value} {cl : List (Str × Addr)} {outer : List Env} {A₀ : Around} {base h₀ : Heap} {L : Addr} {m : Str → Option Value} {hS : Heap} {gS : Array GenState} {dS : Drawn} {tS : Nat} {oS : OsState} {Q E : Value → Shared → Prop}
  (hv : Dt D₁ v (opD q)) (S : OpOk w loose mean mg mb σ q) (ht : TabV D₂ kvs σ) (ho : (d, o) ∈ news) (hdi : o.IsDictOf (PySem.strKind PySem.Challenge.rw_xm0591_01.row.prog w) kvs) (hlo : (d == sysModules) = false) (s1 : ∀ p ∈ D₁, p ∈ news) (s2 : ∀ p ∈ D₂, p ∈ news)
  (B : Below A₀ base outer h₀) (F : Fr h₀ L hS m) (X : (hd.heap_1 w.params).In h₀) (N : News h₀ L hS news) (T : Top topProg loose mean mg mb h₀) (hk : cs.kind = .function) (hr : dp + (2 * q.dp + 20) < recursionLimit) (hu : un + 8 * (2 * q.dp + 20) < cLine)
  (ret : ∀ r tl h' tk', Fr h₀ L h' m → News h₀ L h' (news ++ tl) → Above news tl → Dt (D₁ ++ D₂ ++ tl) r (opD (q.map fun t => erase (subst σ t))) → Q (r) ⟨h', gS, dS, tk', oS⟩) : wpAny (model PySem.Challenge.rw_xm0591_01.row.prog w) (ktrTop dp un gd cn cs L a ccd cl outer) (call (.ref 85) [v, .ref d]) Q E ⟨hS, gS, dS, tS, oS⟩ :=
  pure_use B F X N T hk (S v D₁ D₂ news d o kvs hv ht ho hdi hlo s1 s2) hr hu ret
variable {σ : Pm → Option Ty}
section
example : True := by
  k_with_none
  k_with "subscriptTail" =>
   ((k_here; (with_reducible show wpAny _ _ (subscriptTail _ _ (Value.ref _) (Value.int _ _)) _ _ _); k_dflt (first
   | (refine' my_tup ?Z0 ?Z1 ?Z2 ?Z3 ?Z4 ?Z5 ?_; (case Z0 => k_asm); (case Z1 => k_mem); (case Z2 | Z3 => decide); (case Z4 | Z5 => rfl); k_whole)
   | (refine' my_lst ?Z0 ?Z1 ?Z2 ?Z3 ?Z5 ?_; (case Z0 => k_asm); (case Z1 => k_mem); (case Z2 | Z3 => decide); (case Z5 => rfl); k_whole))))
  k_with "eval Name" =>
   ((k_here; k_dflt (refine' nameX_L ?Z6 ?Z7 ?_; (case Z6 => k_asm); (case Z7 => exact rfl); k_whole)))
  k_with "w_k_room" =>
   (ktr_room)
  k_with "w_ktr_enter" =>
   ((refine' code_defC ?Z8 ?Z9 ?Za ?Zb ?Zc ?Zd ?Ze ?Zf ?Zg ?Zh ?Zi ?Zj ?Zk ?Zl ?_ ?Zm ?Zn ?Zo; (case Zd | Ze => exact rfl); (case Zf => first | exact rfl | assumption); (case Z8 | Z9 | Za | Zb | Zc => k_asm); (case Zg | Zh => k_is); (case Zi => ktr_room); (case Zj => exact BindsTo.of_eq rfl); (case Zk => exact rfl); (case Zl => decide +kernel); (case Zm | Zn | Zo => exact rfl); k_whole; intro g' L' h' tk' cells' FG' F' N' Y' B' X' T' l1; k_cells Y'; (try simp only [List.cons_append, List.nil_append] at N'); (try dsimp only); (try k_fold)))
  k_with "eval ListComp" =>
   ((k_here; k_dflt (refine ListComp_tup (F₀ := by k_asm) (by with_unfolding_all rfl) (by decide) (by rfl) (by decide) (by rfl) ?_)))
  k_with "SrcT" =>
   ((k_dflt (refine srcT_of (by rfl) (by k_asm) (by k_asm) (by k_mem) (by first | size_fits | exact Nat.le_of_ble_eq_true rfl) ?_); intro g'; lcg_lit))
  k_with "CompRest" =>
   ((with_unfolding_all first
   | (refine LCg.CompRest.succ ?_; intro v' I' oI' C' oC' D' m' h' tk' E' hv' hC' hx' F' N' off' ne'; lcg_open hv')
   | refine LCg.CompRest.zero ?_))
  k_with "FinE" =>
   (((unfold LCg.FinE); intro D' h' tk' F' N' o1'; (try simp only [List.nil_append, List.cons_append, List.append_assoc] at N'); (try dsimp only)))
  k_with "CompEnd" =>
   ((refine' comp_end ?Zp ?Zq ?Zr ?Zs ?Zt ?Zu ?Zv ?_; (case Zp | Zq => k_asm); (case Zr | Zs | Zt => (repeat (first | exact Pull.head | refine Pull.tail ?_))); (case Zu => lcg_off); (case Zv => (unfold HasTup; k_mem))))
  k_with "CompEnd" =>
   ((refine' comp_end_pure ?Zw ?Zx ?Zy ?Zz ?Z10 ?_; (case Zw | Zz | Zx | Zy => k_asm); (case Z10 => (unfold HasTup; k_mem))))
  k_with "call ref" =>
   ((k_here; (with_reducible show wpAny _ _ (call (Value.ref 40) _) _ _ _); k_dflt (refine' sub_use ?Z11 ?Z12 ?Z13 ?Z14 ?Z15 ?Z16 ?Z17 ?Z18 ?Z19 ?Z1a ?Z1b ?Z1c ?Z1d ?Z1e ?Z1f ?Z1g ?_; (case Z11 | Z1a | Z1c | Z13 => k_asm); (case Z14 => k_mem); (case Z15 | Z16 => k_asm); (case Z17 | Z18 => tb_start); (case Z19 | Z1b | Z1d => k_asm); (case Z1e => first | exact rfl | with_reducible assumption); (case Z1f => ktr_room); (case Z1g => ktr_units); (case Z12 => exact sub_ok _)); intro r9 tl9 h9 tk9 F9 N9 ab9 dt9; (try simp only [List.nil_append, List.cons_append, List.append_nil] at N9); (try dsimp only); (try k_fold)))
  k_with "call ref" =>
   ((k_here; (with_reducible show wpAny _ _ (call (Value.ref 45) _) _ _ _); k_dflt (refine' era_use ?Z1h ?Z1i ?Z1j ?Z1k ?Z1l ?Z1m ?Z1n ?Z1o ?Z1p ?Z1q ?Z1r ?_; (case Z1h | Z1l | Z1n => k_asm); (case Z1j => tb_start); (case Z1k | Z1m | Z1o => k_asm); (case Z1p => first | exact rfl | with_reducible assumption); (case Z1q => ktr_room); (case Z1r => ktr_units); (case Z1i => exact era_ok _)); intro r9 tl9 h9 tk9 F9 N9 ab9 dt9; (try simp only [List.nil_append, List.cons_append, List.append_nil] at N9); (try dsimp only); (try k_fold)))
  k_with "execs cons" =>
   (k_here; (try k_gentoks); (first | ((fail_if_success (fail_if_success k_fold)); (with_reducible refine' ec_let2 ?_); intro q0 e0 K0) | ((with_reducible refine' ec_let ?_); intro K0)); (all_goals (try ((with_reducible rename Fr _ _ _ (fun _ => ite _ _ _) => f9); refine fr_let f9 ?_; clear f9; intro m0 F0))); (try dsimp only))
  k_with "eval Constant str" =>
   (with_reducible refine' con_str ?_)
  k_with "eval Constant int" =>
   (with_reducible refine' con_int ?_)
  k_with "subscriptTail Name Constant ref int" =>
   (k_extra "subscriptTail")
  k_with "callWith ref" =>
   (k_here; (with_reducible show wpAny _ _ (callWith _ (Value.ref _) _ (backTo _ (starEach (_ :: _) _)) []) _ _ _); k_dflt (refine' callWith_K ?zc1 ?zc2 ?_; (case zc1 => with_reducible assumption); (case zc2 => k_is); k_whole))
  k_with "callWith ref" =>
   (k_here; (with_reducible show wpAny _ _ (callWith _ (Value.ref _) _ (backTo _ (starEach [] _)) []) _ _ _); k_dflt (refine' callWith_K0 ?zc1 ?zc2 ?_; (case zc1 => exact Frag.In.keeps (by with_reducible assumption) (Fr.keep (by k_asm))); (case zc2 => k_is); k_whole))
  k_with "eval Name" =>
   (k_here; k_dflt (first
   | (refine' nameX_L ?zn1 ?zn2 ?_ ?zn3 ?zn4; (case zn3 | zn4 => rfl); (case zn1 => k_asm); (case zn2 => rfl); k_whole)
   | (refine' nameX_K ?zn1 ?zn2 ?zn3 ?zn4 ?_ ?zn5 ?zn6; (case zn5 | zn6 => rfl); (case zn1 | zn2 | zn3 => k_asm); (case zn4 => k_is); k_whole)
   | (refine' nameX_B ?zn1 ?zn2 ?zn3 ?zn4 ?zn5 ?zn6 ?_ ?zn7 ?zn8; (case zn7 | zn8 => rfl); (case zn1 | zn2 | zn3 => k_asm); (case zn4 => k_is); (case zn5 => boot_fast); (case zn6 => decide); k_whole)
   | fail))
  k_with "newTuple" =>
   (k_here; k_dflt (refine' tup_let ?z30 ?z4 ?z0 ?_; (case z30 | z4 => k_asm); (case z0 => kmk_size)); intro D' h' e' Y' F' N' l1; (try k_sweep))
  k_with "newList" =>
   (k_here; k_dflt (refine' lst_let ?z30 ?z4 ?z0 ?_; (case z30 | z4 => k_asm); (case z0 => kmk_size)); intro D' h' e' Y' F' N' l1; (try k_sweep))
  k_with "binaryOp Add ref ref" =>
   (k_here; (with_reducible show wpAny _ _ (binaryOp Operator.Add (Value.ref _) (Value.ref _)) _ _ _); k_dflt (refine' kde_addT ?z1 ?z27 ?z25 ?z2 ?z18 ?z23 ?z21 ?z24 ?_; (case z1 | z27 => k_asm); (case z25 | z2 => exact News.isTup (by k_asm) (by k_mem)); (case z18 | z23 => exact List.cons_ne_nil _ _); (case z21 => exact Nat.le_of_ble_eq_true rfl); (case z24 => kun_lit)); intro D' h' F' N' l1; (replace l1 := allLt_of l1); (try k_sweep))
  k_with "k_up" =>
   (first
   | with_reducible exact hp
   | ((with_reducible refine List.mem_cons_of_mem _ ?_); k_extra "k_up")
   | ((with_reducible refine List.mem_append_left _ ?_); k_extra "k_up")
   | ((with_reducible refine List.mem_append_right _ ?_); k_extra "k_up")
   | fail)
  k_with "w_tb_start" =>
   (first
   | exact sub_nil
   | (intro p hp; k_extra "k_up")
   | (refine' sub_trans ?z28 ?z13; (case z28 => with_reducible assumption); (case z13 => (intro p hp; k_extra "k_up")))
   | ((with_reducible refine sub_app ?_ ?_) <;> tb_start)
   | ((with_reducible refine sub_cons ?_ ?_); k_mem; tb_start)
   | fail)
  k_with "w_k_mem" =>
   (focus ((repeat (with_reducible first | exact List.mem_cons_self | refine List.mem_cons_of_mem _ ?_ | refine List.mem_append_left _ ?_)); done))
  k_with "w_kqd_sub" =>
   (with_reducible first
   | exact gdJ_nil
   | (refine' gdJ_app ?_ ?_ <;> kqd_sub)
   | (refine' gd_app ?_ ?_ <;> kqd_sub)
   | (refine' gdJ_new ?z32 ?z12 ?z22 ?z9; (case z12 | z22 => assumption); (case z32 | z9 => k_dflt tb_start))
   | (refine' gd_new ?z32 ?z12 ?z9; (case z12 => assumption); (case z32 | z9 => k_dflt tb_start))
   | (refine' gd_cons0 ?z15 ?z10; (case z15 => first | (refine' gd_had ?z31 ?z38; (case z38 => assumption); (case z31 => k_dflt k_mem)) | (refine' gd_one ?z31 ?z38 ?z37; (case z38 => assumption); (case z31 => k_dflt k_mem); (case z37 => k_dflt tb_start))); (case z10 => kqd_sub))
   | (refine' gdJ_old ?z32 ?z9; (case z9 | z32 => k_dflt tb_start))
   | (refine' gd_old ?z32 ?z9; (case z9 | z32 => k_dflt tb_start))
   | fail)
  k_with "w_tb_rel" =>
   (with_reducible first
   | exact DatP.none
   | exact DatP.bool _
   | exact DatP.int _ _
   | exact DatP.str _ _
   | exact DatPs.nil
   | (refine' DatPs.cons ?_ ?_ <;> first | ((with_reducible show DatP _ _ _); tb_rel) | ((with_reducible show DatPs _ _ _); tb_rel) | ((with_reducible show Dat); skip) | ((with_reducible show List Dat); skip))
   | (refine' datP_in ?z5 ?z37; (case z5 => assumption); (case z37 => k_dflt kqd_sub))
   | (refine' datP_gdJ ?z31 ?z34 ?z35; (case z31 => k_dflt k_mem); (case z34 => first | (refine' gdJ_had ?z31 ?z38; (case z38 => assumption); (case z31 => k_dflt k_mem)) | (refine' gdJ_one ?z31 ?z38 ?z37 ?z19; (case z38 => assumption); (case z31 => k_dflt k_mem); (case z37 => k_dflt tb_start); (case z19 => k_dflt (k_extra "k_ltA")))); (case z35 => tb_rel))
   | (refine' datP_gd ?z31 ?z34 ?z35; (case z31 => k_dflt k_mem); (case z34 => first | (refine' gd_had ?z31 ?z38; (case z38 => assumption); (case z31 => k_dflt k_mem)) | (refine' gd_one ?z31 ?z38 ?z37; (case z38 => assumption); (case z31 => k_dflt k_mem); (case z37 => k_dflt tb_start))); (case z35 => tb_rel))
   | fail)
  k_with "w_lcg_off" =>
   (with_reducible first
   | assumption
   | exact off3_nil
   | (refine' off3_app ?_ ?_ <;> lcg_off)
   | (refine' off3_any ?z40 ?z14 ?z3; (case z40 => assumption); (case z14 => k_dflt k_mem); (case z3 => lcg_off))
   | (refine' off3_cons ⟨?z42, ?z16, ?z17⟩ ?z3; (case z42 | z16 | z17 => k_dflt k_ne); (case z3 => lcg_off))
   | (refine' off3_above ?z40 ?z42 ?z16 ?z17; (case z40 => assumption); (case z42 | z16 | z17 => k_dflt k_mem))
   | (refine' off3_sub ?z40 ?z3; (case z40 => assumption); (case z3 => k_dflt tb_start))
   | fail)
  k_with "w_ktr_room" =>
   ((try simp only [depth_under_make, depth_under_kw, depth_in1, depth_deeper, depth_caller]); (try dsimp only [ktrTop]); with_reducible first
   | (refine' room2 ?z11 ?z20; (case z11 => assumption); (case z20 => k_dflt (first | exact Nat.le_of_ble_eq_true rfl | omega)))
   | (refine' room1 ?z11 ?z20; (case z11 => assumption); (case z20 => k_dflt (first | exact Nat.le_of_ble_eq_true rfl | omega)))
   | (refine' room0 ?z11; (case z11 => assumption))
   | fail)
  k_with "w_ktr_units" =>
   ((try simp only [units_in1, units_deeper, Around.mark_units, units_caller]); (try dsimp only [ktrTop]); with_reducible first
   | (refine' unit2 ?z11 ?z20; (case z11 => assumption); (case z20 => k_dflt (first | exact Nat.le_of_ble_eq_true rfl | omega)))
   | (refine' unit1 ?z11 ?z20; (case z11 => assumption); (case z20 => k_dflt (first | exact Nat.le_of_ble_eq_true rfl | omega)))
   | fail)
  k_with "k_ltA" =>
   (first
   | (refine' lt_all ?z6 ?z36; (case z6 => with_reducible assumption); (case z36 => k_mem))
   | (refine ltN ?_; omega))
  k_with "w_kqd_all" =>
   (with_reducible first
   | assumption
   | exact off_nil
   | (refine' off_cons ?z29 ?z39; (case z29 => k_dflt k_ne); (case z39 => kqd_all))
   | (refine' off_app ?_ ?_ <;> kqd_all)
   | (refine' off_sub ?z8 ?z7; (case z8 => assumption); (case z7 => k_dflt tb_start))
   | (refine' off_above ?z8 ?z7; (case z8 => assumption); (case z7 => k_dflt k_mem))
   | (refine' off_lt ?z8 ?z33 ?z7; (case z8 => assumption); (case z33 => k_dflt ((show (_ : Nat) ≤ _); omega)); (case z7 => k_dflt tb_start))
   | (refine' off_o3a ?z8 ?z7; (case z8 => assumption); (case z7 => k_dflt tb_start))
   | (refine' off_o3b ?z8 ?z7; (case z8 => assumption); (case z7 => k_dflt tb_start))
   | (refine' off_o3c ?z8 ?z7; (case z8 => assumption); (case z7 => k_dflt tb_start))
   | (refine' off_o1 ?z8 ?z7; (case z8 => assumption); (case z7 => k_dflt tb_start))
   | fail)
  k_with "w_k_ne" =>
   (first
   | with_reducible assumption
   | (refine' ne_all ?z6 ?z36; (case z6 => with_reducible assumption); (case z36 => k_mem))
   | (refine' ne_all2 ?z6 ?z36; (case z6 => with_reducible assumption); (case z36 => k_mem))
   | (refine' Ne.symm ?z6; (case z6 => with_reducible assumption))
   | (refine' ne_o3a ?z6 ?z36; (case z6 => with_reducible assumption); (case z36 => k_mem))
   | (refine' ne_o3b ?z6 ?z36; (case z6 => with_reducible assumption); (case z36 => k_mem))
   | (refine' ne_o3c ?z6 ?z36; (case z6 => with_reducible assumption); (case z36 => k_mem))
   | (refine' ne_o3a' ?z6 ?z36; (case z6 => with_reducible assumption); (case z36 => k_mem))
   | (refine' ne_o3b' ?z6 ?z36; (case z6 => with_reducible assumption); (case z36 => k_mem))
   | (refine' ne_o3c' ?z6 ?z36; (case z6 => with_reducible assumption); (case z36 => k_mem))
   | (refine' ne_o1 ?z6 ?z36; (case z6 => with_reducible assumption); (case z36 => k_mem))
   | (refine' ne_o1' ?z6 ?z36; (case z6 => with_reducible assumption); (case z36 => k_mem))
   | (refine' ne_of_lt' ?z6; (case z6 => with_reducible assumption))
   | (refine' ne_of_gt' ?z6; (case z6 => with_reducible assumption))
   | (refine' ne_tr ?z41 ?z6 ?z36; (case z41 | z6 => with_reducible assumption); (case z36 => k_mem))
   | (refine' ne_trs ?z41 ?z6 ?z36; (case z41 | z6 => with_reducible assumption); (case z36 => k_mem))
   | (refine' ne_tr2 ?z41 ?z26 ?z6 ?z36; (case z41 | z26 | z6 => with_reducible assumption); (case z36 => k_mem))
   | (refine' ne_tr2s ?z41 ?z26 ?z6 ?z36; (case z41 | z26 | z6 => with_reducible assumption); (case z36 => k_mem))
   | (with_reducible refine' ne_up1 ?z6 ?z36; (case z6 => assumption); (case z36 => k_dflt k_mem))
   | (with_reducible refine' ne_up2 ?z6 ?z36; (case z6 => assumption); (case z36 => k_dflt k_mem))
   | (with_reducible refine' ne_up3 ?z6 ?z36; (case z6 => assumption); (case z36 => k_dflt k_mem))
   | (with_reducible refine' ne_dn1 ?z6 ?z36; (case z6 => assumption); (case z36 => k_dflt k_mem))
   | (with_reducible refine' ne_dn2 ?z6 ?z36; (case z6 => assumption); (case z36 => k_dflt k_mem))
   | (with_reducible refine' ne_dn3 ?z6 ?z36; (case z6 => assumption); (case z36 => k_dflt k_mem))
   | fail)
  k_with "pack" =>
   skip
  trivial
theorem plain_ok (hσ : ∀ x t, σ x = some t → t.dp ≤ 4) (t : Ty) : PlainOk w loose mean mg mb σ t := by
  intro v D₁ D₂ news d o kvs hv ht ho hdi hlo hs1 hs2
  unfold CallOk
  intro dp un gd cn cs a ccd cl outer A₀ base h₀ L m s Q E B F X N T hk hdp hun hret
  have hsd := subst_dp hσ t
  replace N := News.add N ho
  refine wpAny_call ?_
  k_dflt ktr_enter
  all_goals (try (with_reducible rename News _ _ _ _ => nL9; refine led_let nL9 ?_; clear nL9; intro Y0 N9))
  k_steps
  refine hret _ _ _ _ (by k_asm) (by k_asm) ⟨by tb_start, ?_⟩
  refine datP_in (by assumption) ?_
  kqd_sub
end
section
example : True := by
  k_with_none
  k_with "subscriptTail" =>
   ((k_here; (with_reducible show wpAny _ _ (subscriptTail _ _ (Value.ref _) (Value.int _ _)) _ _ _); k_dflt (first
   | (refine' my_tup ?Z0 ?Z1 ?Z2 ?Z3 ?Z4 ?Z5 ?_; (case Z0 => k_asm); (case Z1 => k_mem); (case Z2 | Z3 => decide); (case Z4 | Z5 => rfl); k_whole)
   | (refine' my_lst ?Z0 ?Z1 ?Z2 ?Z3 ?Z5 ?_; (case Z0 => k_asm); (case Z1 => k_mem); (case Z2 | Z3 => decide); (case Z5 => rfl); k_whole))))
  k_with "eval Name" =>
   ((k_here; k_dflt (refine' nameX_L ?Z6 ?Z7 ?_; (case Z6 => k_asm); (case Z7 => exact rfl); k_whole)))
  k_with "w_k_room" =>
   (ktr_room)
  k_with "w_ktr_enter" =>
   ((refine' code_defC ?Z8 ?Z9 ?Za ?Zb ?Zc ?Zd ?Ze ?Zf ?Zg ?Zh ?Zi ?Zj ?Zk ?Zl ?_ ?Zm ?Zn ?Zo; (case Zd | Ze => exact rfl); (case Zf => first | exact rfl | assumption); (case Z8 | Z9 | Za | Zb | Zc => k_asm); (case Zg | Zh => k_is); (case Zi => ktr_room); (case Zj => exact BindsTo.of_eq rfl); (case Zk => exact rfl); (case Zl => decide +kernel); (case Zm | Zn | Zo => exact rfl); k_whole; intro g' L' h' tk' cells' FG' F' N' Y' B' X' T' l1; k_cells Y'; (try simp only [List.cons_append, List.nil_append] at N'); (try dsimp only); (try k_fold)))
  k_with "eval ListComp" =>
   ((k_here; k_dflt (refine ListComp_tup (F₀ := by k_asm) (by with_unfolding_all rfl) (by decide) (by rfl) (by decide) (by rfl) ?_)))
  k_with "SrcT" =>
   ((k_dflt (refine srcT_of (by rfl) (by k_asm) (by k_asm) (by k_mem) (by first | size_fits | exact Nat.le_of_ble_eq_true rfl) ?_); intro g'; lcg_lit))
  k_with "CompRest" =>
   ((with_unfolding_all first
   | (refine LCg.CompRest.succ ?_; intro v' I' oI' C' oC' D' m' h' tk' E' hv' hC' hx' F' N' off' ne'; lcg_open hv')
   | refine LCg.CompRest.zero ?_))
  k_with "FinE" =>
   (((unfold LCg.FinE); intro D' h' tk' F' N' o1'; (try simp only [List.nil_append, List.cons_append, List.append_assoc] at N'); (try dsimp only)))
  k_with "CompEnd" =>
   ((refine' comp_end ?Zp ?Zq ?Zr ?Zs ?Zt ?Zu ?Zv ?_; (case Zp | Zq => k_asm); (case Zr | Zs | Zt => (repeat (first | exact Pull.head | refine Pull.tail ?_))); (case Zu => lcg_off); (case Zv => (unfold HasTup; k_mem))))
  k_with "CompEnd" =>
   ((refine' comp_end_pure ?Zw ?Zx ?Zy ?Zz ?Z10 ?_; (case Zw | Zz | Zx | Zy => k_asm); (case Z10 => (unfold HasTup; k_mem))))
  k_with "call ref" =>
   ((k_here; (with_reducible show wpAny _ _ (call (Value.ref 78) _) _ _ _); k_dflt (refine' plain_use ?Z1s ?Z1t ?Z1u ?Z1v ?Z1w ?Z1x ?Z1y ?Z1z ?Z20 ?Z21 ?Z22 ?Z23 ?Z24 ?Z25 ?Z26 ?Z27 ?_; (case Z1s | Z21 | Z23 | Z1u => k_asm); (case Z1v => k_mem); (case Z1w | Z1x => k_asm); (case Z1y | Z1z => tb_start); (case Z20 | Z22 | Z24 => k_asm); (case Z25 => first | exact rfl | with_reducible assumption); (case Z26 => ktr_room); (case Z27 => ktr_units); (case Z1t => exact plain_ok (by with_reducible assumption) _)); intro r9 tl9 h9 tk9 F9 N9 ab9 dt9; (try simp only [List.nil_append, List.cons_append, List.append_nil] at N9); (try dsimp only); (try k_fold)))
  k_with "execs cons" =>
   (k_here; (try k_gentoks); (first | ((fail_if_success (fail_if_success k_fold)); (with_reducible refine' ec_let2 ?_); intro q0 e0 K0) | ((with_reducible refine' ec_let ?_); intro K0)); (all_goals (try ((with_reducible rename Fr _ _ _ (fun _ => ite _ _ _) => f9); refine fr_let f9 ?_; clear f9; intro m0 F0))); (try dsimp only))
  k_with "eval Constant str" =>
   (with_reducible refine' con_str ?_)
  k_with "eval Constant int" =>
   (with_reducible refine' con_int ?_)
  k_with "subscriptTail Name Constant ref int" =>
   (k_extra "subscriptTail")
  k_with "callWith ref" =>
   (k_here; (with_reducible show wpAny _ _ (callWith _ (Value.ref _) _ (backTo _ (starEach (_ :: _) _)) []) _ _ _); k_dflt (refine' callWith_K ?zc1 ?zc2 ?_; (case zc1 => with_reducible assumption); (case zc2 => k_is); k_whole))
  k_with "callWith ref" =>
   (k_here; (with_reducible show wpAny _ _ (callWith _ (Value.ref _) _ (backTo _ (starEach [] _)) []) _ _ _); k_dflt (refine' callWith_K0 ?zc1 ?zc2 ?_; (case zc1 => exact Frag.In.keeps (by with_reducible assumption) (Fr.keep (by k_asm))); (case zc2 => k_is); k_whole))
  k_with "eval Name" =>
   (k_here; k_dflt (first
   | (refine' nameX_L ?zn1 ?zn2 ?_ ?zn3 ?zn4; (case zn3 | zn4 => rfl); (case zn1 => k_asm); (case zn2 => rfl); k_whole)
   | (refine' nameX_K ?zn1 ?zn2 ?zn3 ?zn4 ?_ ?zn5 ?zn6; (case zn5 | zn6 => rfl); (case zn1 | zn2 | zn3 => k_asm); (case zn4 => k_is); k_whole)
   | (refine' nameX_B ?zn1 ?zn2 ?zn3 ?zn4 ?zn5 ?zn6 ?_ ?zn7 ?zn8; (case zn7 | zn8 => rfl); (case zn1 | zn2 | zn3 => k_asm); (case zn4 => k_is); (case zn5 => boot_fast); (case zn6 => decide); k_whole)
   | fail))
  k_with "newTuple" =>
   (k_here; k_dflt (refine' tup_let ?z30 ?z4 ?z0 ?_; (case z30 | z4 => k_asm); (case z0 => kmk_size)); intro D' h' e' Y' F' N' l1; (try k_sweep))
  k_with "newList" =>
   (k_here; k_dflt (refine' lst_let ?z30 ?z4 ?z0 ?_; (case z30 | z4 => k_asm); (case z0 => kmk_size)); intro D' h' e' Y' F' N' l1; (try k_sweep))
  k_with "binaryOp Add ref ref" =>
   (k_here; (with_reducible show wpAny _ _ (binaryOp Operator.Add (Value.ref _) (Value.ref _)) _ _ _); k_dflt (refine' kde_addT ?z1 ?z27 ?z25 ?z2 ?z18 ?z23 ?z21 ?z24 ?_; (case z1 | z27 => k_asm); (case z25 | z2 => exact News.isTup (by k_asm) (by k_mem)); (case z18 | z23 => exact List.cons_ne_nil _ _); (case z21 => exact Nat.le_of_ble_eq_true rfl); (case z24 => kun_lit)); intro D' h' F' N' l1; (replace l1 := allLt_of l1); (try k_sweep))
  k_with "k_up" =>
   (first
   | with_reducible exact hp
   | ((with_reducible refine List.mem_cons_of_mem _ ?_); k_extra "k_up")
   | ((with_reducible refine List.mem_append_left _ ?_); k_extra "k_up")
   | ((with_reducible refine List.mem_append_right _ ?_); k_extra "k_up")
   | fail)
  k_with "w_tb_start" =>
   (first
   | exact sub_nil
   | (intro p hp; k_extra "k_up")
   | (refine' sub_trans ?z28 ?z13; (case z28 => with_reducible assumption); (case z13 => (intro p hp; k_extra "k_up")))
   | ((with_reducible refine sub_app ?_ ?_) <;> tb_start)
   | ((with_reducible refine sub_cons ?_ ?_); k_mem; tb_start)
   | fail)
  k_with "w_k_mem" =>
   (focus ((repeat (with_reducible first | exact List.mem_cons_self | refine List.mem_cons_of_mem _ ?_ | refine List.mem_append_left _ ?_)); done))
  k_with "w_kqd_sub" =>
   (with_reducible first
   | exact gdJ_nil
   | (refine' gdJ_app ?_ ?_ <;> kqd_sub)
   | (refine' gd_app ?_ ?_ <;> kqd_sub)
   | (refine' gdJ_new ?z32 ?z12 ?z22 ?z9; (case z12 | z22 => assumption); (case z32 | z9 => k_dflt tb_start))
   | (refine' gd_new ?z32 ?z12 ?z9; (case z12 => assumption); (case z32 | z9 => k_dflt tb_start))
   | (refine' gd_cons0 ?z15 ?z10; (case z15 => first | (refine' gd_had ?z31 ?z38; (case z38 => assumption); (case z31 => k_dflt k_mem)) | (refine' gd_one ?z31 ?z38 ?z37; (case z38 => assumption); (case z31 => k_dflt k_mem); (case z37 => k_dflt tb_start))); (case z10 => kqd_sub))
   | (refine' gdJ_old ?z32 ?z9; (case z9 | z32 => k_dflt tb_start))
   | (refine' gd_old ?z32 ?z9; (case z9 | z32 => k_dflt tb_start))
   | fail)
  k_with "w_tb_rel" =>
   (with_reducible first
   | exact DatP.none
   | exact DatP.bool _
   | exact DatP.int _ _
   | exact DatP.str _ _
   | exact DatPs.nil
   | (refine' DatPs.cons ?_ ?_ <;> first | ((with_reducible show DatP _ _ _); tb_rel) | ((with_reducible show DatPs _ _ _); tb_rel) | ((with_reducible show Dat); skip) | ((with_reducible show List Dat); skip))
   | (refine' datP_in ?z5 ?z37; (case z5 => assumption); (case z37 => k_dflt kqd_sub))
   | (refine' datP_gdJ ?z31 ?z34 ?z35; (case z31 => k_dflt k_mem); (case z34 => first | (refine' gdJ_had ?z31 ?z38; (case z38 => assumption); (case z31 => k_dflt k_mem)) | (refine' gdJ_one ?z31 ?z38 ?z37 ?z19; (case z38 => assumption); (case z31 => k_dflt k_mem); (case z37 => k_dflt tb_start); (case z19 => k_dflt (k_extra "k_ltA")))); (case z35 => tb_rel))
   | (refine' datP_gd ?z31 ?z34 ?z35; (case z31 => k_dflt k_mem); (case z34 => first | (refine' gd_had ?z31 ?z38; (case z38 => assumption); (case z31 => k_dflt k_mem)) | (refine' gd_one ?z31 ?z38 ?z37; (case z38 => assumption); (case z31 => k_dflt k_mem); (case z37 => k_dflt tb_start))); (case z35 => tb_rel))
   | fail)
  k_with "w_lcg_off" =>
   (with_reducible first
   | assumption
   | exact off3_nil
   | (refine' off3_app ?_ ?_ <;> lcg_off)
   | (refine' off3_any ?z40 ?z14 ?z3; (case z40 => assumption); (case z14 => k_dflt k_mem); (case z3 => lcg_off))
   | (refine' off3_cons ⟨?z42, ?z16, ?z17⟩ ?z3; (case z42 | z16 | z17 => k_dflt k_ne); (case z3 => lcg_off))
   | (refine' off3_above ?z40 ?z42 ?z16 ?z17; (case z40 => assumption); (case z42 | z16 | z17 => k_dflt k_mem))
   | (refine' off3_sub ?z40 ?z3; (case z40 => assumption); (case z3 => k_dflt tb_start))
   | fail)
  k_with "w_ktr_room" =>
   ((try simp only [depth_under_make, depth_under_kw, depth_in1, depth_deeper, depth_caller]); (try dsimp only [ktrTop]); with_reducible first
   | (refine' room2 ?z11 ?z20; (case z11 => assumption); (case z20 => k_dflt (first | exact Nat.le_of_ble_eq_true rfl | omega)))
   | (refine' room1 ?z11 ?z20; (case z11 => assumption); (case z20 => k_dflt (first | exact Nat.le_of_ble_eq_true rfl | omega)))
   | (refine' room0 ?z11; (case z11 => assumption))
   | fail)
  k_with "w_ktr_units" =>
   ((try simp only [units_in1, units_deeper, Around.mark_units, units_caller]); (try dsimp only [ktrTop]); with_reducible first
   | (refine' unit2 ?z11 ?z20; (case z11 => assumption); (case z20 => k_dflt (first | exact Nat.le_of_ble_eq_true rfl | omega)))
   | (refine' unit1 ?z11 ?z20; (case z11 => assumption); (case z20 => k_dflt (first | exact Nat.le_of_ble_eq_true rfl | omega)))
   | fail)
  k_with "k_ltA" =>
   (first
   | (refine' lt_all ?z6 ?z36; (case z6 => with_reducible assumption); (case z36 => k_mem))
   | (refine ltN ?_; omega))
  k_with "w_kqd_all" =>
   (with_reducible first
   | assumption
   | exact off_nil
   | (refine' off_cons ?z29 ?z39; (case z29 => k_dflt k_ne); (case z39 => kqd_all))
   | (refine' off_app ?_ ?_ <;> kqd_all)
   | (refine' off_sub ?z8 ?z7; (case z8 => assumption); (case z7 => k_dflt tb_start))
   | (refine' off_above ?z8 ?z7; (case z8 => assumption); (case z7 => k_dflt k_mem))
   | (refine' off_lt ?z8 ?z33 ?z7; (case z8 => assumption); (case z33 => k_dflt ((show (_ : Nat) ≤ _); omega)); (case z7 => k_dflt tb_start))
   | (refine' off_o3a ?z8 ?z7; (case z8 => assumption); (case z7 => k_dflt tb_start))
   | (refine' off_o3b ?z8 ?z7; (case z8 => assumption); (case z7 => k_dflt tb_start))
   | (refine' off_o3c ?z8 ?z7; (case z8 => assumption); (case z7 => k_dflt tb_start))
   | (refine' off_o1 ?z8 ?z7; (case z8 => assumption); (case z7 => k_dflt tb_start))
   | fail)
  k_with "w_k_ne" =>
   (first
   | with_reducible assumption
   | (refine' ne_all ?z6 ?z36; (case z6 => with_reducible assumption); (case z36 => k_mem))
   | (refine' ne_all2 ?z6 ?z36; (case z6 => with_reducible assumption); (case z36 => k_mem))
   | (refine' Ne.symm ?z6; (case z6 => with_reducible assumption))
   | (refine' ne_o3a ?z6 ?z36; (case z6 => with_reducible assumption); (case z36 => k_mem))
   | (refine' ne_o3b ?z6 ?z36; (case z6 => with_reducible assumption); (case z36 => k_mem))
   | (refine' ne_o3c ?z6 ?z36; (case z6 => with_reducible assumption); (case z36 => k_mem))
   | (refine' ne_o3a' ?z6 ?z36; (case z6 => with_reducible assumption); (case z36 => k_mem))
   | (refine' ne_o3b' ?z6 ?z36; (case z6 => with_reducible assumption); (case z36 => k_mem))
   | (refine' ne_o3c' ?z6 ?z36; (case z6 => with_reducible assumption); (case z36 => k_mem))
   | (refine' ne_o1 ?z6 ?z36; (case z6 => with_reducible assumption); (case z36 => k_mem))
   | (refine' ne_o1' ?z6 ?z36; (case z6 => with_reducible assumption); (case z36 => k_mem))
   | (refine' ne_of_lt' ?z6; (case z6 => with_reducible assumption))
   | (refine' ne_of_gt' ?z6; (case z6 => with_reducible assumption))
   | (refine' ne_tr ?z41 ?z6 ?z36; (case z41 | z6 => with_reducible assumption); (case z36 => k_mem))
   | (refine' ne_trs ?z41 ?z6 ?z36; (case z41 | z6 => with_reducible assumption); (case z36 => k_mem))
   | (refine' ne_tr2 ?z41 ?z26 ?z6 ?z36; (case z41 | z26 | z6 => with_reducible assumption); (case z36 => k_mem))
   | (refine' ne_tr2s ?z41 ?z26 ?z6 ?z36; (case z41 | z26 | z6 => with_reducible assumption); (case z36 => k_mem))
   | (with_reducible refine' ne_up1 ?z6 ?z36; (case z6 => assumption); (case z36 => k_dflt k_mem))
   | (with_reducible refine' ne_up2 ?z6 ?z36; (case z6 => assumption); (case z36 => k_dflt k_mem))
   | (with_reducible refine' ne_up3 ?z6 ?z36; (case z6 => assumption); (case z36 => k_dflt k_mem))
   | (with_reducible refine' ne_dn1 ?z6 ?z36; (case z6 => assumption); (case z36 => k_dflt k_mem))
   | (with_reducible refine' ne_dn2 ?z6 ?z36; (case z6 => assumption); (case z36 => k_dflt k_mem))
   | (with_reducible refine' ne_dn3 ?z6 ?z36; (case z6 => assumption); (case z36 => k_dflt k_mem))
   | fail)
  k_with "pack" =>
   skip
  trivial
theorem op_cp (hσ : ∀ x t, σ x = some t → t.dp ≤ 4) (k : Int) : OpOk w loose mean mg mb σ (.cp k) := by
  intro v D₁ D₂ news d o kvs hv ht ho hdi hlo hs1 hs2
  unfold CallOk
  intro dp un gd cn cs a ccd cl outer A₀ base h₀ L m s Q E B F X N T hk hdp hun hret
  simp only [Opd.dp] at hdp hun
  obtain ⟨b, w1, w2, n, rfl, hm, h1, h2⟩ := in_tup2 hv
  obtain ⟨t1, rfl⟩ := in_str h1
  replace N := News.add (News.add N (hs1 _ hm)) (.tail _ ho)
  refine wpAny_call ?_
  k_dflt ktr_enter
  all_goals (try (with_reducible rename News _ _ _ _ => nL9; refine led_let nL9 ?_; clear nL9; intro Y0 N9))
  k_steps
  refine hret _ _ _ _ (by k_asm) (by k_asm) ⟨by tb_start, ?_⟩
  (repeat (with_reducible rename _ ∧ _ => hc; (have hcl := hc.1); (have hcr := hc.2); clear hc))
  refine datP_in hv ?_
  kqd_sub
theorem op_mv (hσ : ∀ x t, σ x = some t → t.dp ≤ 4) (k : Int) : OpOk w loose mean mg mb σ (.mv k) := by
  intro v D₁ D₂ news d o kvs hv ht ho hdi hlo hs1 hs2
  unfold CallOk
  intro dp un gd cn cs a ccd cl outer A₀ base h₀ L m s Q E B F X N T hk hdp hun hret
  simp only [Opd.dp] at hdp hun
  obtain ⟨b, w1, w2, n, rfl, hm, h1, h2⟩ := in_tup2 hv
  obtain ⟨t1, rfl⟩ := in_str h1
  replace N := News.add (News.add N (hs1 _ hm)) (.tail _ ho)
  refine wpAny_call ?_
  k_dflt ktr_enter
  all_goals (try (with_reducible rename News _ _ _ _ => nL9; refine led_let nL9 ?_; clear nL9; intro Y0 N9))
  k_steps
  refine hret _ _ _ _ (by k_asm) (by k_asm) ⟨by tb_start, ?_⟩
  (repeat (with_reducible rename _ ∧ _ => hc; (have hcl := hc.1); (have hcr := hc.2); clear hc))
  refine datP_in hv ?_
  kqd_sub
theorem op_co (hσ : ∀ x t, σ x = some t → t.dp ≤ 4) (t : Ty) : OpOk w loose mean mg mb σ (.co t) := by
  intro v D₁ D₂ news d o kvs hv ht ho hdi hlo hs1 hs2
  unfold CallOk
  intro dp un gd cn cs a ccd cl outer A₀ base h₀ L m s Q E B F X N T hk hdp hun hret
  simp only [Opd.dp] at hdp hun
  obtain ⟨b, w1, w2, w3, n, rfl, hm, h1, h2, h3⟩ := in_tup3 hv
  obtain ⟨t1, rfl⟩ := in_str h1
  obtain ⟨t3, rfl⟩ := in_int h3
  replace N := News.add (News.add N (hs1 _ hm)) (.tail _ ho)
  refine wpAny_call ?_
  k_dflt ktr_enter
  all_goals (try (with_reducible rename News _ _ _ _ => nL9; refine led_let nL9 ?_; clear nL9; intro Y0 N9))
  k_steps
  refine hret _ _ _ _ (by k_asm) (by k_asm) ⟨by tb_start, ?_⟩
  (repeat (with_reducible rename _ ∧ _ => hc; (have hcl := hc.1); (have hcr := hc.2); clear hc))
  dsimp only [opD, Opd.map]
  tb_rel
theorem op_ok (hσ : ∀ x t, σ x = some t → t.dp ≤ 4) : ∀ q, OpOk w loose mean mg mb σ q
  | .cp k => op_cp hσ k
  | .mv k => op_mv hσ k
  | .co t => op_co hσ t
end
end
end Mine
namespace Mine
example : True := by
  w_top off
  k_with_none
  trivial

section
variable {w : World} {loose : List Str} {mean : ExcName → Option Value} {mg mb : Str → Option Value}
/-- what a type becomes -/
def pl (σ : Pm → Option Ty) (t : Ty) : Ty := erase (subst σ t)
def OpsOk (w : World) (loose : List Str) (mean : ExcName → Option Value) (mg mb : Str → Option Value) (σ : Pm → Option Ty) (os : List Opd) : Prop :=
  ∀ v D₁ D₂ news d o kvs, Dt D₁ v (.tuple (os.map opD)) → TabV D₂ kvs σ → (d, o) ∈ news → o.IsDictOf (PySem.strKind PySem.Challenge.rw_xm0591_01.row.prog w) kvs → (d == sysModules) = false → (∀ p ∈ D₁, p ∈ news) → (∀ p ∈ D₂, p ∈ news) →
    CallOk PySem.Challenge.rw_xm0591_01.row.prog w (hd.heap_1 w.params) topProg loose mean mg mb (34) 90 [v, .ref d] news (PPost (D₁ ++ D₂) news (.tuple ((os.map fun q => q.map fun t => erase (subst σ t)).map opD)))
theorem ops_use {σ : Pm → Option Ty} {os : List Opd} {news D₁ D₂ : List (Addr × Obj)} {v : Value} {d : Addr} {o : Obj} {kvs : List (Str × Value)}
  {dp un : Nat} {gd : Option (List Code)} {cn : Str} {cs : Scope} {a : Addr} {ccd : Value} {cl : List (Str × Addr)} {outer : List Env} {A₀ : Around} {base h₀ : Heap} {L : Addr} {m : Str → Option Value} {hS : Heap} {gS : Array GenState} {dS : Drawn} {tS : Nat} {oS : OsState} {Q E : Value → Shared → Prop}
  (hv : Dt D₁ v (.tuple (os.map opD))) (S : OpsOk w loose mean mg mb σ os) (ht : TabV D₂ kvs σ) (ho : (d, o) ∈ news) (hdi : o.IsDictOf (PySem.strKind PySem.Challenge.rw_xm0591_01.row.prog w) kvs) (hlo : (d == sysModules) = false) (s1 : ∀ p ∈ D₁, p ∈ news) (s2 : ∀ p ∈ D₂, p ∈ news)
  (B : Below A₀ base outer h₀) (F : Fr h₀ L hS m) (X : (hd.heap_1 w.params).In h₀) (N : News h₀ L hS news) (T : Top topProg loose mean mg mb h₀) (hk : cs.kind = .function) (hr : dp + (34) < recursionLimit) (hu : un + 8 * (34) < cLine)
  (ret : ∀ r tl h' tk', Fr h₀ L h' m → News h₀ L h' (news ++ tl) → Above news tl → Dt (D₁ ++ D₂ ++ tl) r (.tuple ((os.map fun q => q.map fun t => erase (subst σ t)).map opD)) → Q (r) ⟨h', gS, dS, tk', oS⟩) : wpAny (model PySem.Challenge.rw_xm0591_01.row.prog w) (ktrTop dp un gd cn cs L a ccd cl outer) (call (.ref 90) [v, .ref d]) Q E ⟨hS, gS, dS, tS, oS⟩ :=
  pure_use B F X N T hk (S v D₁ D₂ news d o kvs hv ht ho hdi hlo s1 s2) hr hu ret
variable {σ : Pm → Option Ty}
section
example : True := by
  k_with_none
  k_with "subscriptTail" =>
   ((k_here; (with_reducible show wpAny _ _ (subscriptTail _ _ (Value.ref _) (Value.int _ _)) _ _ _); k_dflt (first
   | (refine' my_tup ?Z0 ?Z1 ?Z2 ?Z3 ?Z4 ?Z5 ?_; (case Z0 => k_asm); (case Z1 => k_mem); (case Z2 | Z3 => decide); (case Z4 | Z5 => rfl); k_whole)
   | (refine' my_lst ?Z0 ?Z1 ?Z2 ?Z3 ?Z5 ?_; (case Z0 => k_asm); (case Z1 => k_mem); (case Z2 | Z3 => decide); (case Z5 => rfl); k_whole))))
  k_with "eval Name" =>
   ((k_here; k_dflt (refine' nameX_L ?Z6 ?Z7 ?_; (case Z6 => k_asm); (case Z7 => exact rfl); k_whole)))
  k_with "w_k_room" =>
   (ktr_room)
  k_with "w_ktr_enter" =>
   ((refine' code_defC ?Z8 ?Z9 ?Za ?Zb ?Zc ?Zd ?Ze ?Zf ?Zg ?Zh ?Zi ?Zj ?Zk ?Zl ?_ ?Zm ?Zn ?Zo; (case Zd | Ze => exact rfl); (case Zf => first | exact rfl | assumption); (case Z8 | Z9 | Za | Zb | Zc => k_asm); (case Zg | Zh => k_is); (case Zi => ktr_room); (case Zj => exact BindsTo.of_eq rfl); (case Zk => exact rfl); (case Zl => decide +kernel); (case Zm | Zn | Zo => exact rfl); k_whole; intro g' L' h' tk' cells' FG' F' N' Y' B' X' T' l1; k_cells Y'; (try simp only [List.cons_append, List.nil_append] at N'); (try dsimp only); (try k_fold)))
  k_with "eval ListComp" =>
   ((k_here; k_dflt (refine ListComp_tup (F₀ := by k_asm) (by with_unfolding_all rfl) (by decide) (by rfl) (by decide) (by rfl) ?_)))
  k_with "SrcT" =>
   ((k_dflt (refine srcT_of (by rfl) (by k_asm) (by k_asm) (by k_mem) (by first | size_fits | exact Nat.le_of_ble_eq_true rfl) ?_); intro g'; lcg_lit))
  k_with "CompRest" =>
   ((with_unfolding_all first
   | (refine LCg.CompRest.succ ?_; intro v' I' oI' C' oC' D' m' h' tk' E' hv' hC' hx' F' N' off' ne'; lcg_open hv')
   | refine LCg.CompRest.zero ?_))
  k_with "FinE" =>
   (((unfold LCg.FinE); intro D' h' tk' F' N' o1'; (try simp only [List.nil_append, List.cons_append, List.append_assoc] at N'); (try dsimp only)))
  k_with "CompEnd" =>
   ((refine' comp_end ?Zp ?Zq ?Zr ?Zs ?Zt ?Zu ?Zv ?_; (case Zp | Zq => k_asm); (case Zr | Zs | Zt => (repeat (first | exact Pull.head | refine Pull.tail ?_))); (case Zu => lcg_off); (case Zv => (unfold HasTup; k_mem))))
  k_with "CompEnd" =>
   ((refine' comp_end_pure ?Zw ?Zx ?Zy ?Zz ?Z10 ?_; (case Zw | Zz | Zx | Zy => k_asm); (case Z10 => (unfold HasTup; k_mem))))
  k_with "call ref" =>
   ((k_here; (with_reducible show wpAny _ _ (call (Value.ref 85) _) _ _ _); k_dflt (refine' op_use ?Z11 ?Z12 ?Z13 ?Z14 ?Z15 ?Z16 ?Z17 ?Z18 ?Z19 ?Z1a ?Z1b ?Z1c ?Z1d ?Z1e ?Z1f ?Z1g ?_; (case Z11 | Z1a | Z1c | Z13 => k_asm); (case Z14 => k_mem); (case Z15 | Z16 => k_asm); (case Z17 | Z18 => tb_start); (case Z19 | Z1b | Z1d => k_asm); (case Z1e => first | exact rfl | with_reducible assumption); (case Z1f => ktr_room); (case Z1g => ktr_units); (case Z12 => exact op_ok (by with_reducible assumption) _)); intro r9 tl9 h9 tk9 F9 N9 ab9 dt9; (try simp only [List.nil_append, List.cons_append, List.append_nil] at N9); (try dsimp only); (try k_fold)))
  k_with "execs cons" =>
   (k_here; (try k_gentoks); (first | ((fail_if_success (fail_if_success k_fold)); (with_reducible refine' ec_let2 ?_); intro q0 e0 K0) | ((with_reducible refine' ec_let ?_); intro K0)); (all_goals (try ((with_reducible rename Fr _ _ _ (fun _ => ite _ _ _) => f9); refine fr_let f9 ?_; clear f9; intro m0 F0))); (try dsimp only))
  k_with "eval Constant str" =>
   (with_reducible refine' con_str ?_)
  k_with "eval Constant int" =>
   (with_reducible refine' con_int ?_)
  k_with "subscriptTail Name Constant ref int" =>
   (k_extra "subscriptTail")
  k_with "callWith ref" =>
   (k_here; (with_reducible show wpAny _ _ (callWith _ (Value.ref _) _ (backTo _ (starEach (_ :: _) _)) []) _ _ _); k_dflt (refine' callWith_K ?zc1 ?zc2 ?_; (case zc1 => with_reducible assumption); (case zc2 => k_is); k_whole))
  k_with "callWith ref" =>
   (k_here; (with_reducible show wpAny _ _ (callWith _ (Value.ref _) _ (backTo _ (starEach [] _)) []) _ _ _); k_dflt (refine' callWith_K0 ?zc1 ?zc2 ?_; (case zc1 => exact Frag.In.keeps (by with_reducible assumption) (Fr.keep (by k_asm))); (case zc2 => k_is); k_whole))
  k_with "eval Name" =>
   (k_here; k_dflt (first
   | (refine' nameX_L ?zn1 ?zn2 ?_ ?zn3 ?zn4; (case zn3 | zn4 => rfl); (case zn1 => k_asm); (case zn2 => rfl); k_whole)
   | (refine' nameX_K ?zn1 ?zn2 ?zn3 ?zn4 ?_ ?zn5 ?zn6; (case zn5 | zn6 => rfl); (case zn1 | zn2 | zn3 => k_asm); (case zn4 => k_is); k_whole)
   | (refine' nameX_B ?zn1 ?zn2 ?zn3 ?zn4 ?zn5 ?zn6 ?_ ?zn7 ?zn8; (case zn7 | zn8 => rfl); (case zn1 | zn2 | zn3 => k_asm); (case zn4 => k_is); (case zn5 => boot_fast); (case zn6 => decide); k_whole)
   | fail))
  k_with "newTuple" =>
   (k_here; k_dflt (refine' tup_let ?z30 ?z4 ?z0 ?_; (case z30 | z4 => k_asm); (case z0 => kmk_size)); intro D' h' e' Y' F' N' l1; (try k_sweep))
  k_with "newList" =>
   (k_here; k_dflt (refine' lst_let ?z30 ?z4 ?z0 ?_; (case z30 | z4 => k_asm); (case z0 => kmk_size)); intro D' h' e' Y' F' N' l1; (try k_sweep))
  k_with "binaryOp Add ref ref" =>
   (k_here; (with_reducible show wpAny _ _ (binaryOp Operator.Add (Value.ref _) (Value.ref _)) _ _ _); k_dflt (refine' kde_addT ?z1 ?z27 ?z25 ?z2 ?z18 ?z23 ?z21 ?z24 ?_; (case z1 | z27 => k_asm); (case z25 | z2 => exact News.isTup (by k_asm) (by k_mem)); (case z18 | z23 => exact List.cons_ne_nil _ _); (case z21 => exact Nat.le_of_ble_eq_true rfl); (case z24 => kun_lit)); intro D' h' F' N' l1; (replace l1 := allLt_of l1); (try k_sweep))
  k_with "k_up" =>
   (first
   | with_reducible exact hp
   | ((with_reducible refine List.mem_cons_of_mem _ ?_); k_extra "k_up")
   | ((with_reducible refine List.mem_append_left _ ?_); k_extra "k_up")
   | ((with_reducible refine List.mem_append_right _ ?_); k_extra "k_up")
   | fail)
  k_with "w_tb_start" =>
   (first
   | exact sub_nil
   | (intro p hp; k_extra "k_up")
   | (refine' sub_trans ?z28 ?z13; (case z28 => with_reducible assumption); (case z13 => (intro p hp; k_extra "k_up")))
   | ((with_reducible refine sub_app ?_ ?_) <;> tb_start)
   | ((with_reducible refine sub_cons ?_ ?_); k_mem; tb_start)
   | fail)
  k_with "w_k_mem" =>
   (focus ((repeat (with_reducible first | exact List.mem_cons_self | refine List.mem_cons_of_mem _ ?_ | refine List.mem_append_left _ ?_)); done))
  k_with "w_kqd_sub" =>
   (with_reducible first
   | exact gdJ_nil
   | (refine' gdJ_app ?_ ?_ <;> kqd_sub)
   | (refine' gd_app ?_ ?_ <;> kqd_sub)
   | (refine' gdJ_new ?z32 ?z12 ?z22 ?z9; (case z12 | z22 => assumption); (case z32 | z9 => k_dflt tb_start))
   | (refine' gd_new ?z32 ?z12 ?z9; (case z12 => assumption); (case z32 | z9 => k_dflt tb_start))
   | (refine' gd_cons0 ?z15 ?z10; (case z15 => first | (refine' gd_had ?z31 ?z38; (case z38 => assumption); (case z31 => k_dflt k_mem)) | (refine' gd_one ?z31 ?z38 ?z37; (case z38 => assumption); (case z31 => k_dflt k_mem); (case z37 => k_dflt tb_start))); (case z10 => kqd_sub))
   | (refine' gdJ_old ?z32 ?z9; (case z9 | z32 => k_dflt tb_start))
   | (refine' gd_old ?z32 ?z9; (case z9 | z32 => k_dflt tb_start))
   | fail)
  k_with "w_tb_rel" =>
   (with_reducible first
   | exact DatP.none
   | exact DatP.bool _
   | exact DatP.int _ _
   | exact DatP.str _ _
   | exact DatPs.nil
   | (refine' DatPs.cons ?_ ?_ <;> first | ((with_reducible show DatP _ _ _); tb_rel) | ((with_reducible show DatPs _ _ _); tb_rel) | ((with_reducible show Dat); skip) | ((with_reducible show List Dat); skip))
   | (refine' datP_in ?z5 ?z37; (case z5 => assumption); (case z37 => k_dflt kqd_sub))
   | (refine' datP_gdJ ?z31 ?z34 ?z35; (case z31 => k_dflt k_mem); (case z34 => first | (refine' gdJ_had ?z31 ?z38; (case z38 => assumption); (case z31 => k_dflt k_mem)) | (refine' gdJ_one ?z31 ?z38 ?z37 ?z19; (case z38 => assumption); (case z31 => k_dflt k_mem); (case z37 => k_dflt tb_start); (case z19 => k_dflt (k_extra "k_ltA")))); (case z35 => tb_rel))
   | (refine' datP_gd ?z31 ?z34 ?z35; (case z31 => k_dflt k_mem); (case z34 => first | (refine' gd_had ?z31 ?z38; (case z38 => assumption); (case z31 => k_dflt k_mem)) | (refine' gd_one ?z31 ?z38 ?z37; (case z38 => assumption); (case z31 => k_dflt k_mem); (case z37 => k_dflt tb_start))); (case z35 => tb_rel))
   | fail)
  k_with "w_lcg_off" =>
   (with_reducible first
   | assumption
   | exact off3_nil
   | (refine' off3_app ?_ ?_ <;> lcg_off)
   | (refine' off3_any ?z40 ?z14 ?z3; (case z40 => assumption); (case z14 => k_dflt k_mem); (case z3 => lcg_off))
   | (refine' off3_cons ⟨?z42, ?z16, ?z17⟩ ?z3; (case z42 | z16 | z17 => k_dflt k_ne); (case z3 => lcg_off))
   | (refine' off3_above ?z40 ?z42 ?z16 ?z17; (case z40 => assumption); (case z42 | z16 | z17 => k_dflt k_mem))
   | (refine' off3_sub ?z40 ?z3; (case z40 => assumption); (case z3 => k_dflt tb_start))
   | fail)
  k_with "w_ktr_room" =>
   ((try simp only [depth_under_make, depth_under_kw, depth_in1, depth_deeper, depth_caller]); (try dsimp only [ktrTop]); with_reducible first
   | (refine' room2 ?z11 ?z20; (case z11 => assumption); (case z20 => k_dflt (first | exact Nat.le_of_ble_eq_true rfl | omega)))
   | (refine' room1 ?z11 ?z20; (case z11 => assumption); (case z20 => k_dflt (first | exact Nat.le_of_ble_eq_true rfl | omega)))
   | (refine' room0 ?z11; (case z11 => assumption))
   | fail)
  k_with "w_ktr_units" =>
   ((try simp only [units_in1, units_deeper, Around.mark_units, units_caller]); (try dsimp only [ktrTop]); with_reducible first
   | (refine' unit2 ?z11 ?z20; (case z11 => assumption); (case z20 => k_dflt (first | exact Nat.le_of_ble_eq_true rfl | omega)))
   | (refine' unit1 ?z11 ?z20; (case z11 => assumption); (case z20 => k_dflt (first | exact Nat.le_of_ble_eq_true rfl | omega)))
   | fail)
  k_with "k_ltA" =>
   (first
   | (refine' lt_all ?z6 ?z36; (case z6 => with_reducible assumption); (case z36 => k_mem))
   | (refine ltN ?_; omega))
  k_with "w_kqd_all" =>
   (with_reducible first
   | assumption
   | exact off_nil
   | (refine' off_cons ?z29 ?z39; (case z29 => k_dflt k_ne); (case z39 => kqd_all))
   | (refine' off_app ?_ ?_ <;> kqd_all)
   | (refine' off_sub ?z8 ?z7; (case z8 => assumption); (case z7 => k_dflt tb_start))
   | (refine' off_above ?z8 ?z7; (case z8 => assumption); (case z7 => k_dflt k_mem))
   | (refine' off_lt ?z8 ?z33 ?z7; (case z8 => assumption); (case z33 => k_dflt ((show (_ : Nat) ≤ _); omega)); (case z7 => k_dflt tb_start))
   | (refine' off_o3a ?z8 ?z7; (case z8 => assumption); (case z7 => k_dflt tb_start))
   | (refine' off_o3b ?z8 ?z7; (case z8 => assumption); (case z7 => k_dflt tb_start))
   | (refine' off_o3c ?z8 ?z7; (case z8 => assumption); (case z7 => k_dflt tb_start))
   | (refine' off_o1 ?z8 ?z7; (case z8 => assumption); (case z7 => k_dflt tb_start))
   | fail)
  k_with "w_k_ne" =>
   (first
   | with_reducible assumption
   | (refine' ne_all ?z6 ?z36; (case z6 => with_reducible assumption); (case z36 => k_mem))
   | (refine' ne_all2 ?z6 ?z36; (case z6 => with_reducible assumption); (case z36 => k_mem))
   | (refine' Ne.symm ?z6; (case z6 => with_reducible assumption))
   | (refine' ne_o3a ?z6 ?z36; (case z6 => with_reducible assumption); (case z36 => k_mem))
   | (refine' ne_o3b ?z6 ?z36; (case z6 => with_reducible assumption); (case z36 => k_mem))
   | (refine' ne_o3c ?z6 ?z36; (case z6 => with_reducible assumption); (case z36 => k_mem))
   | (refine' ne_o3a' ?z6 ?z36; (case z6 => with_reducible assumption); (case z36 => k_mem))
   | (refine' ne_o3b' ?z6 ?z36; (case z6 => with_reducible assumption); (case z36 => k_mem))
   | (refine' ne_o3c' ?z6 ?z36; (case z6 => with_reducible assumption); (case z36 => k_mem))
   | (refine' ne_o1 ?z6 ?z36; (case z6 => with_reducible assumption); (case z36 => k_mem))
   | (refine' ne_o1' ?z6 ?z36; (case z6 => with_reducible assumption); (case z36 => k_mem))
   | (refine' ne_of_lt' ?z6; (case z6 => with_reducible assumption))
   | (refine' ne_of_gt' ?z6; (case z6 => with_reducible assumption))
   | (refine' ne_tr ?z41 ?z6 ?z36; (case z41 | z6 => with_reducible assumption); (case z36 => k_mem))
   | (refine' ne_trs ?z41 ?z6 ?z36; (case z41 | z6 => with_reducible assumption); (case z36 => k_mem))
   | (refine' ne_tr2 ?z41 ?z26 ?z6 ?z36; (case z41 | z26 | z6 => with_reducible assumption); (case z36 => k_mem))
   | (refine' ne_tr2s ?z41 ?z26 ?z6 ?z36; (case z41 | z26 | z6 => with_reducible assumption); (case z36 => k_mem))
   | (with_reducible refine' ne_up1 ?z6 ?z36; (case z6 => assumption); (case z36 => k_dflt k_mem))
   | (with_reducible refine' ne_up2 ?z6 ?z36; (case z6 => assumption); (case z36 => k_dflt k_mem))
   | (with_reducible refine' ne_up3 ?z6 ?z36; (case z6 => assumption); (case z36 => k_dflt k_mem))
   | (with_reducible refine' ne_dn1 ?z6 ?z36; (case z6 => assumption); (case z36 => k_dflt k_mem))
   | (with_reducible refine' ne_dn2 ?z6 ?z36; (case z6 => assumption); (case z36 => k_dflt k_mem))
   | (with_reducible refine' ne_dn3 ?z6 ?z36; (case z6 => assumption); (case z36 => k_dflt k_mem))
   | fail)
  k_with "pack" =>
   skip
  trivial
theorem ops_0 (hσ : ∀ x t, σ x = some t → t.dp ≤ 4)   : OpsOk w loose mean mg mb σ [] := by
  intro v D₁ D₂ news d o kvs hv ht ho hdi hlo hs1 hs2
  unfold CallOk
  intro dp un gd cn cs a ccd cl outer A₀ base h₀ L m s Q E B F X N T hk hdp hun hret
  dsimp only [List.map] at hv
  obtain ⟨b, n, rfl, hm⟩ := in_tup0 hv
  replace N := News.add (News.add N (hs1 _ hm)) (.tail _ ho)
  refine wpAny_call ?_
  k_dflt ktr_enter
  all_goals (try (with_reducible rename News _ _ _ _ => nL9; refine led_let nL9 ?_; clear nL9; intro Y0 N9))
  k_steps
  refine hret _ _ _ _ (by k_asm) (by k_asm) ⟨by tb_start, ?_⟩
  (repeat (with_reducible rename _ ∧ _ => hc; (have hcl := hc.1); (have hcr := hc.2); clear hc))
  dsimp only [List.map]
  tb_rel
theorem ops_1 (hσ : ∀ x t, σ x = some t → t.dp ≤ 4) {q1 : Opd} (hq1 : q1.dp ≤ 4) : OpsOk w loose mean mg mb σ [q1] := by
  intro v D₁ D₂ news d o kvs hv ht ho hdi hlo hs1 hs2
  unfold CallOk
  intro dp un gd cn cs a ccd cl outer A₀ base h₀ L m s Q E B F X N T hk hdp hun hret
  dsimp only [List.map] at hv
  obtain ⟨b, w1, n, rfl, hm, h1⟩ := in_tup1 hv
  replace N := News.add (News.add N (hs1 _ hm)) (.tail _ ho)
  refine wpAny_call ?_
  k_dflt ktr_enter
  all_goals (try (with_reducible rename News _ _ _ _ => nL9; refine led_let nL9 ?_; clear nL9; intro Y0 N9))
  k_steps
  refine hret _ _ _ _ (by k_asm) (by k_asm) ⟨by tb_start, ?_⟩
  (repeat (with_reducible rename _ ∧ _ => hc; (have hcl := hc.1); (have hcr := hc.2); clear hc))
  dsimp only [List.map]
  tb_rel
theorem ops_2 (hσ : ∀ x t, σ x = some t → t.dp ≤ 4) {q1 q2 : Opd} (hq1 : q1.dp ≤ 4) (hq2 : q2.dp ≤ 4) : OpsOk w loose mean mg mb σ [q1, q2] := by
  intro v D₁ D₂ news d o kvs hv ht ho hdi hlo hs1 hs2
  unfold CallOk
  intro dp un gd cn cs a ccd cl outer A₀ base h₀ L m s Q E B F X N T hk hdp hun hret
  dsimp only [List.map] at hv
  obtain ⟨b, w1, w2, n, rfl, hm, h1, h2⟩ := in_tup2 hv
  replace N := News.add (News.add N (hs1 _ hm)) (.tail _ ho)
  refine wpAny_call ?_
  k_dflt ktr_enter
  all_goals (try (with_reducible rename News _ _ _ _ => nL9; refine led_let nL9 ?_; clear nL9; intro Y0 N9))
  k_steps
  refine hret _ _ _ _ (by k_asm) (by k_asm) ⟨by tb_start, ?_⟩
  (repeat (with_reducible rename _ ∧ _ => hc; (have hcl := hc.1); (have hcr := hc.2); clear hc))
  dsimp only [List.map]
  tb_rel
theorem ops_ok (hσ : ∀ x t, σ x = some t → t.dp ≤ 4) : ∀ os : List Opd, os.length ≤ 2 → (∀ q ∈ os, q.dp ≤ 4) → OpsOk w loose mean mg mb σ os
  | [], _, _ => ops_0 hσ
  | [_], _, h => ops_1 hσ (h _ (.head _))
  | [_, _], _, h => ops_2 hσ (h _ (.head _)) (h _ (.tail _ (.head _)))
  | _ :: _ :: _ :: _, h, _ => by simp only [List.length_cons] at h; omega
end
end
end Mine
namespace Mine
example : True := by
  w_top off
  k_with_none
  trivial

inductive Rv where
  | use (q : Opd)
  | box (q : Opd)
  | bin (a b : Opd)
  | chk (a b : Opd)
  | un (q : Opd)
  | cast (q : Opd) (t : Ty)
  | tup (os : List Opd)
  | arr (os : List Opd)
  | adt (t : Ty) (os : List Opd)
  | ref (r : Rg)
  | disc
def rvD : Rv → Dat
  | .use q => .tuple [.str (Str.ofString "use"), opD q]
  | .box q => .tuple [.str (Str.ofString "box"), opD q]
  | .bin a b => .tuple [.str (Str.ofString "binary"), .str (Str.ofString "+"), opD a, opD b]
  | .chk a b => .tuple [.str (Str.ofString "checked"), .str (Str.ofString "+"), opD a, opD b]
  | .un q => .tuple [.str (Str.ofString "unary"), .str (Str.ofString "-"), opD q]
  | .cast q t => .tuple [.str (Str.ofString "cast"), opD q, tyD t]
  | .tup os => .tuple [.str (Str.ofString "tuple"), .tuple (os.map opD)]
  | .arr os => .tuple [.str (Str.ofString "array"), .tuple (os.map opD)]
  | .adt t os => .tuple [.str (Str.ofString "adt"), tyD t, .int 2, .tuple (os.map opD)]
  | .ref r => .tuple [.str (Str.ofString "ref"), rgD r, .str (Str.ofString "mut"), .tuple [.int 3, .tuple []]]
  | .disc => .tuple [.str (Str.ofString "discriminant"), .tuple [.int 4, .tuple [.tuple [.str (Str.ofString "deref")]]]]
def Rv.map (f : Ty → Ty) : Rv → Rv
  | .use q => .use (q.map f)
  | .box q => .box (q.map f)
  | .bin a b => .bin (a.map f) (b.map f)
  | .chk a b => .chk (a.map f) (b.map f)
  | .un q => .un (q.map f)
  | .cast q t => .cast (q.map f) (f t)
  | .tup os => .tup (os.map fun q => q.map f)
  | .arr os => .arr (os.map fun q => q.map f)
  | .adt t os => .adt (f t) (os.map fun q => q.map f)
  | .ref _ => .ref .no
  | .disc => .disc
/-- every type in it is at most four deep, every list of operands at most two long -/
def Rv.fits : Rv → Prop
  | .use q => q.dp ≤ 4
  | .box q => q.dp ≤ 4
  | .bin a b => a.dp ≤ 4 ∧ b.dp ≤ 4
  | .chk a b => a.dp ≤ 4 ∧ b.dp ≤ 4
  | .un q => q.dp ≤ 4
  | .cast q t => q.dp ≤ 4 ∧ t.dp ≤ 4
  | .tup os => os.length ≤ 2 ∧ ∀ q ∈ os, q.dp ≤ 4
  | .arr os => os.length ≤ 2 ∧ ∀ q ∈ os, q.dp ≤ 4
  | .adt t os => t.dp ≤ 4 ∧ os.length ≤ 2 ∧ ∀ q ∈ os, q.dp ≤ 4
  | _ => True
section
variable {w : World} {loose : List Str} {mean : ExcName → Option Value} {mg mb : Str → Option Value}
theorem fits2 {a b : Opd} (h : a.dp ≤ 4) (k : b.dp ≤ 4) : ∀ q ∈ [a, b], q.dp ≤ 4 := fun q hq => by
  simp only [List.mem_cons, List.not_mem_nil, or_false] at hq
  rcases hq with rfl | rfl
  · exact h
  · exact k
theorem my_slice {prog : Program} {A : Around} {E : Value → Shared → Prop} {s : Shared} {h₀ : Heap} {L t : Addr} {m : Str → Option Value} {news : List (Addr × Obj)} {value slice : PySem.Expr} {vs ws : List Value} {n a : Nat} {u : Tok} {Q : Value → Shared → Prop}
    (F : Fr h₀ L s.heap m) (N : News h₀ L s.heap news) (hm : (t, tupO vs n) ∈ news) (h1 : 1 ≤ a) (ha : a ≤ vs.length) (e : vs.drop a = ws) (hz : vs.length ≤ sizeLine)
    (h : ∀ D h', Fr h₀ L h' m → News h₀ L h' ((D, tupO ws 0) :: news) → (∀ p ∈ news, p.1 < D) → Q (.ref D) { s with heap := h' })
    (hs : subscripted slice false (.ref t) (.ref s.heap.objs.size) = operate [.ref s.heap.objs.size, .ref t] (getItem (.ref t) (.ref s.heap.objs.size)))
    (hg : ∀ r, letTemporaryGo value (.ref t) r = pure ()) :
    wpAny (model prog w) A (subscriptTail value slice (.ref t) (.ref s.heap.objs.size)) Q E { s with heap := s.heap.push { cls := .type "slice", data := .fields #[.int (a : Int) u, .none, .none] } } := by
  refine slice_tuple_from F N (items := vs.toArray) ⟨_, (N _ hm).1, rfl, n, rfl⟩ h1 (by simpa using ha) (fun h' F' N' => ?_) hs hg (by simpa using hz)
  rw [show (vs.toArray.toList.drop a) = ws from e] at N'
  exact h _ h' F' N' fun p hp => Nat.lt_succ_of_lt (Heap.lt_size (N p hp).1)
theorem dt_ops2 {h₀ h : Heap} {L a : Addr} {l D D' : List (Addr × Obj)} {v1 v2 : Value} {n : Nat} {q1 q2 : Opd} (_ : News h₀ L h l) (_ : (a, tupO [v1, v2] n) ∈ l) (h1 : Dt D v1 (opD q1)) (h2 : Dt D' v2 (opD q2)) : Dt ((a, tupO [v1, v2] n) :: (D ++ D')) (.ref a) (.tuple ([q1, q2].map opD)) :=
  .tuple (.head _) (.cons (h1.mono fun _ h => .tail _ (List.mem_append.mpr (.inl h))) (.cons (h2.mono fun _ h => .tail _ (List.mem_append.mpr (.inr h))) .nil))
def RvOk (w : World) (loose : List Str) (mean : ExcName → Option Value) (mg mb : Str → Option Value) (σ : Pm → Option Ty) (rv : Rv) : Prop :=
  ∀ v D₁ D₂ news d o kvs, Dt D₁ v (rvD rv) → TabV D₂ kvs σ → (d, o) ∈ news → o.IsDictOf (PySem.strKind PySem.Challenge.rw_xm0591_01.row.prog w) kvs → (d == sysModules) = false → (∀ p ∈ D₁, p ∈ news) → (∀ p ∈ D₂, p ∈ news) →
    CallOk PySem.Challenge.rw_xm0591_01.row.prog w (hd.heap_1 w.params) topProg loose mean mg mb (40) 97 [v, .ref d] news (PPost (D₁ ++ D₂) news (rvD (rv.map fun t => erase (subst σ t))))
theorem rv_use {σ : Pm → Option Ty} {rv : Rv} {news D₁ D₂ : List (Addr × Obj)} {v : Value} {d : Addr} {o : Obj} {kvs : List (Str × Value)}
  {dp un : Nat} {gd : Option (List Code)} {cn : Str} {cs : Scope} {a : Addr} {ccd : Value} {cl : List (Str × Addr)} {outer : List Env} {A₀ : Around} {base h₀ : Heap} {L : Addr} {m : Str → Option Value} {hS : Heap} {gS : Array GenState} {dS : Drawn} {tS : Nat} {oS : OsState} {Q E : Value → Shared → Prop}
  (hv : Dt D₁ v (rvD rv)) (S : RvOk w loose mean mg mb σ rv) (ht : TabV D₂ kvs σ) (ho : (d, o) ∈ news) (hdi : o.IsDictOf (PySem.strKind PySem.Challenge.rw_xm0591_01.row.prog w) kvs) (hlo : (d == sysModules) = false) (s1 : ∀ p ∈ D₁, p ∈ news) (s2 : ∀ p ∈ D₂, p ∈ news)
  (B : Below A₀ base outer h₀) (F : Fr h₀ L hS m) (X : (hd.heap_1 w.params).In h₀) (N : News h₀ L hS news) (T : Top topProg loose mean mg mb h₀) (hk : cs.kind = .function) (hr : dp + (40) < recursionLimit) (hu : un + 8 * (40) < cLine)
  (ret : ∀ r tl h' tk', Fr h₀ L h' m → News h₀ L h' (news ++ tl) → Above news tl → Dt (D₁ ++ D₂ ++ tl) r (rvD (rv.map fun t => erase (subst σ t))) → Q (r) ⟨h', gS, dS, tk', oS⟩) : wpAny (model PySem.Challenge.rw_xm0591_01.row.prog w) (ktrTop dp un gd cn cs L a ccd cl outer) (call (.ref 97) [v, .ref d]) Q E ⟨hS, gS, dS, tS, oS⟩ :=
  pure_use B F X N T hk (S v D₁ D₂ news d o kvs hv ht ho hdi hlo s1 s2) hr hu ret
theorem ops_use2 {σ : Pm → Option Ty} {q1 q2 : Opd} {news D₁ D₂ : List (Addr × Obj)} {v : Value} {d : Addr} {o : Obj} {kvs : List (Str × Value)}
  {dp un : Nat} {gd : Option (List Code)} {cn : Str} {cs : Scope} {a : Addr} {ccd : Value} {cl : List (Str × Addr)} {outer : List Env} {A₀ : Around} {base h₀ : Heap} {L : Addr} {m : Str → Option Value} {hS : Heap} {gS : Array GenState} {dS : Drawn} {tS : Nat} {oS : OsState} {Q E : Value → Shared → Prop}
  (hv : Dt D₁ v (.tuple ([q1, q2].map opD))) (S : OpsOk w loose mean mg mb σ [q1, q2]) (ht : TabV D₂ kvs σ) (ho : (d, o) ∈ news) (hdi : o.IsDictOf (PySem.strKind PySem.Challenge.rw_xm0591_01.row.prog w) kvs) (hlo : (d == sysModules) = false) (s1 : ∀ p ∈ D₁, p ∈ news) (s2 : ∀ p ∈ D₂, p ∈ news)
  (B : Below A₀ base outer h₀) (F : Fr h₀ L hS m) (X : (hd.heap_1 w.params).In h₀) (N : News h₀ L hS news) (T : Top topProg loose mean mg mb h₀) (hk : cs.kind = .function) (hr : dp + 34 < recursionLimit) (hu : un + 8 * 34 < cLine)
  (ret : ∀ ax y1 y2 k tl h' tk', Fr h₀ L h' m → News h₀ L h' ((ax, tupO [y1, y2] k) :: (news ++ tl)) → Above news tl → Dt (D₁ ++ D₂ ++ tl) y1 (opD (q1.map fun t => erase (subst σ t))) → Dt (D₁ ++ D₂ ++ tl) y2 (opD (q2.map fun t => erase (subst σ t))) → Q (.ref ax) ⟨h', gS, dS, tk', oS⟩) : wpAny (model PySem.Challenge.rw_xm0591_01.row.prog w) (ktrTop dp un gd cn cs L a ccd cl outer) (call (.ref 90) [v, .ref d]) Q E ⟨hS, gS, dS, tS, oS⟩ :=
  pure_use B F X N T hk (S v D₁ D₂ news d o kvs hv ht ho hdi hlo s1 s2) hr hu fun r tl h' tk' F' N' ab dt => by
    dsimp only [List.map] at dt
    obtain ⟨ax, y1, y2, k, rfl, hm, h1, h2⟩ := in_tup2 dt
    exact ret ax y1 y2 k tl h' tk' F' (News.add N' (sub_app (sub_trans (sub_app s1 s2) fun _ h => List.mem_append.mpr (.inl h)) (fun _ h => List.mem_append.mpr (.inr h)) _ hm)) ab h1 h2
theorem gd_cons {X D news l : List (Addr × Obj)} {q : Addr × Obj} (h : Gd D news l q) (k : ∀ p ∈ X, Gd D news l p) : ∀ p ∈ q :: X, Gd D news l p := fun p hp => by
  rcases List.mem_cons.mp hp with rfl | hp
  · exact h
  · exact k p hp
variable {σ : Pm → Option Ty}
example : True := by
  k_with_none
  k_with "subscriptTail" =>
   ((k_here; (with_reducible show wpAny _ _ (subscriptTail _ _ (Value.ref _) (Value.int _ _)) _ _ _); k_dflt (first
   | (refine' my_tup ?Z0 ?Z1 ?Z2 ?Z3 ?Z4 ?Z5 ?_; (case Z0 => k_asm); (case Z1 => k_mem); (case Z2 | Z3 => decide); (case Z4 | Z5 => rfl); k_whole)
   | (refine' my_lst ?Z0 ?Z1 ?Z2 ?Z3 ?Z5 ?_; (case Z0 => k_asm); (case Z1 => k_mem); (case Z2 | Z3 => decide); (case Z5 => rfl); k_whole))))
  k_with "eval Name" =>
   ((k_here; k_dflt (refine' nameX_L ?Z6 ?Z7 ?_; (case Z6 => k_asm); (case Z7 => exact rfl); k_whole)))
  k_with "w_k_room" =>
   (ktr_room)
  k_with "w_ktr_enter" =>
   ((refine' code_defC ?Z8 ?Z9 ?Za ?Zb ?Zc ?Zd ?Ze ?Zf ?Zg ?Zh ?Zi ?Zj ?Zk ?Zl ?_ ?Zm ?Zn ?Zo; (case Zd | Ze => exact rfl); (case Zf => first | exact rfl | assumption); (case Z8 | Z9 | Za | Zb | Zc => k_asm); (case Zg | Zh => k_is); (case Zi => ktr_room); (case Zj => exact BindsTo.of_eq rfl); (case Zk => exact rfl); (case Zl => decide +kernel); (case Zm | Zn | Zo => exact rfl); k_whole; intro g' L' h' tk' cells' FG' F' N' Y' B' X' T' l1; k_cells Y'; (try simp only [List.cons_append, List.nil_append] at N'); (try dsimp only); (try k_fold)))
  k_with "eval ListComp" =>
   ((k_here; k_dflt (refine ListComp_tup (F₀ := by k_asm) (by with_unfolding_all rfl) (by decide) (by rfl) (by decide) (by rfl) ?_)))
  k_with "SrcT" =>
   ((k_dflt (refine srcT_of (by rfl) (by k_asm) (by k_asm) (by k_mem) (by first | size_fits | exact Nat.le_of_ble_eq_true rfl) ?_); intro g'; lcg_lit))
  k_with "CompRest" =>
   ((with_unfolding_all first
   | (refine LCg.CompRest.succ ?_; intro v' I' oI' C' oC' D' m' h' tk' E' hv' hC' hx' F' N' off' ne'; lcg_open hv')
   | refine LCg.CompRest.zero ?_))
  k_with "FinE" =>
   (((unfold LCg.FinE); intro D' h' tk' F' N' o1'; (try simp only [List.nil_append, List.cons_append, List.append_assoc] at N'); (try dsimp only)))
  k_with "CompEnd" =>
   ((refine' comp_end ?Zp ?Zq ?Zr ?Zs ?Zt ?Zu ?Zv ?_; (case Zp | Zq => k_asm); (case Zr | Zs | Zt => (repeat (first | exact Pull.head | refine Pull.tail ?_))); (case Zu => lcg_off); (case Zv => (unfold HasTup; k_mem))))
  k_with "CompEnd" =>
   ((refine' comp_end_pure ?Zw ?Zx ?Zy ?Zz ?Z10 ?_; (case Zw | Zz | Zx | Zy => k_asm); (case Z10 => (unfold HasTup; k_mem))))
  k_with "call ref" =>
   ((k_here; (with_reducible show wpAny _ _ (call (Value.ref 85) _) _ _ _); k_dflt (refine' op_use ?Z11 ?Z12 ?Z13 ?Z14 ?Z15 ?Z16 ?Z17 ?Z18 ?Z19 ?Z1a ?Z1b ?Z1c ?Z1d ?Z1e ?Z1f ?Z1g ?_; (case Z11 | Z1a | Z1c | Z13 => k_asm); (case Z14 => k_mem); (case Z15 | Z16 => k_asm); (case Z17 | Z18 => tb_start); (case Z19 | Z1b | Z1d => k_asm); (case Z1e => first | exact rfl | with_reducible assumption); (case Z1f => ktr_room); (case Z1g => ktr_units); (case Z12 => exact op_ok (by with_reducible assumption) _)); intro r9 tl9 h9 tk9 F9 N9 ab9 dt9; (try simp only [List.nil_append, List.cons_append, List.append_nil] at N9); (try dsimp only); (try k_fold)))
  k_with "call ref" =>
   ((k_here; (with_reducible show wpAny _ _ (call (Value.ref 78) _) _ _ _); k_dflt (refine' plain_use ?Z1h ?Z1i ?Z1j ?Z1k ?Z1l ?Z1m ?Z1n ?Z1o ?Z1p ?Z1q ?Z1r ?Z1s ?Z1t ?Z1u ?Z1v ?Z1w ?_; (case Z1h | Z1q | Z1s | Z1j => k_asm); (case Z1k => k_mem); (case Z1l | Z1m => k_asm); (case Z1n | Z1o => tb_start); (case Z1p | Z1r | Z1t => k_asm); (case Z1u => first | exact rfl | with_reducible assumption); (case Z1v => ktr_room); (case Z1w => ktr_units); (case Z1i => exact plain_ok (by with_reducible assumption) _)); intro r9 tl9 h9 tk9 F9 N9 ab9 dt9; (try simp only [List.nil_append, List.cons_append, List.append_nil] at N9); (try dsimp only); (try k_fold)))
  k_with "call ref" =>
   ((k_here; (with_reducible show wpAny _ _ (call (Value.ref 90) _) _ _ _); k_dflt (refine' ops_use ?Z1x ?Z1y ?Z1z ?Z20 ?Z21 ?Z22 ?Z23 ?Z24 ?Z25 ?Z26 ?Z27 ?Z28 ?Z29 ?Z2a ?Z2b ?Z2c ?_; (case Z1x | Z26 | Z28 | Z1z => k_asm); (case Z20 => k_mem); (case Z21 | Z22 => k_asm); (case Z23 | Z24 => tb_start); (case Z25 | Z27 | Z29 => k_asm); (case Z2a => first | exact rfl | with_reducible assumption); (case Z2b => ktr_room); (case Z2c => ktr_units); (case Z1y => exact ops_ok (by with_reducible assumption) _ (by with_reducible assumption) (by with_reducible assumption))); intro r9 tl9 h9 tk9 F9 N9 ab9 dt9; (try simp only [List.nil_append, List.cons_append, List.append_nil] at N9); (try dsimp only); (try k_fold)))
  k_with "execs cons" =>
   (k_here; (try k_gentoks); (first | ((fail_if_success (fail_if_success k_fold)); (with_reducible refine' ec_let2 ?_); intro q0 e0 K0) | ((with_reducible refine' ec_let ?_); intro K0)); (all_goals (try ((with_reducible rename Fr _ _ _ (fun _ => ite _ _ _) => f9); refine fr_let f9 ?_; clear f9; intro m0 F0))); (try dsimp only))
  k_with "eval Constant str" =>
   (with_reducible refine' con_str ?_)
  k_with "eval Constant int" =>
   (with_reducible refine' con_int ?_)
  k_with "subscriptTail Name Constant ref int" =>
   (k_extra "subscriptTail")
  k_with "callWith ref" =>
   (k_here; (with_reducible show wpAny _ _ (callWith _ (Value.ref _) _ (backTo _ (starEach (_ :: _) _)) []) _ _ _); k_dflt (refine' callWith_K ?zc1 ?zc2 ?_; (case zc1 => with_reducible assumption); (case zc2 => k_is); k_whole))
  k_with "callWith ref" =>
   (k_here; (with_reducible show wpAny _ _ (callWith _ (Value.ref _) _ (backTo _ (starEach [] _)) []) _ _ _); k_dflt (refine' callWith_K0 ?zc1 ?zc2 ?_; (case zc1 => exact Frag.In.keeps (by with_reducible assumption) (Fr.keep (by k_asm))); (case zc2 => k_is); k_whole))
  k_with "eval Name" =>
   (k_here; k_dflt (first
   | (refine' nameX_L ?zn1 ?zn2 ?_ ?zn3 ?zn4; (case zn3 | zn4 => rfl); (case zn1 => k_asm); (case zn2 => rfl); k_whole)
   | (refine' nameX_K ?zn1 ?zn2 ?zn3 ?zn4 ?_ ?zn5 ?zn6; (case zn5 | zn6 => rfl); (case zn1 | zn2 | zn3 => k_asm); (case zn4 => k_is); k_whole)
   | (refine' nameX_B ?zn1 ?zn2 ?zn3 ?zn4 ?zn5 ?zn6 ?_ ?zn7 ?zn8; (case zn7 | zn8 => rfl); (case zn1 | zn2 | zn3 => k_asm); (case zn4 => k_is); (case zn5 => boot_fast); (case zn6 => decide); k_whole)
   | fail))
  k_with "newTuple" =>
   (k_here; k_dflt (refine' tup_let ?z30 ?z4 ?z0 ?_; (case z30 | z4 => k_asm); (case z0 => kmk_size)); intro D' h' e' Y' F' N' l1; (try k_sweep))
  k_with "newList" =>
   (k_here; k_dflt (refine' lst_let ?z30 ?z4 ?z0 ?_; (case z30 | z4 => k_asm); (case z0 => kmk_size)); intro D' h' e' Y' F' N' l1; (try k_sweep))
  k_with "binaryOp Add ref ref" =>
   (k_here; (with_reducible show wpAny _ _ (binaryOp Operator.Add (Value.ref _) (Value.ref _)) _ _ _); k_dflt (refine' kde_addT ?z1 ?z27 ?z25 ?z2 ?z18 ?z23 ?z21 ?z24 ?_; (case z1 | z27 => k_asm); (case z25 | z2 => exact News.isTup (by k_asm) (by k_mem)); (case z18 | z23 => exact List.cons_ne_nil _ _); (case z21 => exact Nat.le_of_ble_eq_true rfl); (case z24 => kun_lit)); intro D' h' F' N' l1; (replace l1 := allLt_of l1); (try k_sweep))
  k_with "k_up" =>
   (first
   | with_reducible exact hp
   | ((with_reducible refine List.mem_cons_of_mem _ ?_); k_extra "k_up")
   | ((with_reducible refine List.mem_append_left _ ?_); k_extra "k_up")
   | ((with_reducible refine List.mem_append_right _ ?_); k_extra "k_up")
   | fail)
  k_with "w_tb_start" =>
   (first
   | exact sub_nil
   | (intro p hp; k_extra "k_up")
   | (refine' sub_trans ?z28 ?z13; (case z28 => with_reducible assumption); (case z13 => (intro p hp; k_extra "k_up")))
   | ((with_reducible refine sub_app ?_ ?_) <;> tb_start)
   | ((with_reducible refine sub_cons ?_ ?_); k_mem; tb_start)
   | fail)
  k_with "w_k_mem" =>
   (focus ((repeat (with_reducible first | exact List.mem_cons_self | refine List.mem_cons_of_mem _ ?_ | refine List.mem_append_left _ ?_)); done))
  k_with "w_kqd_sub" =>
   (with_reducible first
   | exact gdJ_nil
   | (refine' gdJ_app ?_ ?_ <;> kqd_sub)
   | (refine' gd_app ?_ ?_ <;> kqd_sub)
   | (refine' gdJ_new ?z32 ?z12 ?z22 ?z9; (case z12 | z22 => assumption); (case z32 | z9 => k_dflt tb_start))
   | (refine' gd_new ?z32 ?z12 ?z9; (case z12 => assumption); (case z32 | z9 => k_dflt tb_start))
   | (refine' gd_cons0 ?z15 ?z10; (case z15 => first | (refine' gd_had ?z31 ?z38; (case z38 => assumption); (case z31 => k_dflt k_mem)) | (refine' gd_one ?z31 ?z38 ?z37; (case z38 => assumption); (case z31 => k_dflt k_mem); (case z37 => k_dflt tb_start))); (case z10 => kqd_sub))
   | (refine' gdJ_old ?z32 ?z9; (case z9 | z32 => k_dflt tb_start))
   | (refine' gd_old ?z32 ?z9; (case z9 | z32 => k_dflt tb_start))
   | fail)
  k_with "w_tb_rel" =>
   (with_reducible first
   | exact DatP.none
   | exact DatP.bool _
   | exact DatP.int _ _
   | exact DatP.str _ _
   | exact DatPs.nil
   | (refine' DatPs.cons ?_ ?_ <;> first | ((with_reducible show DatP _ _ _); tb_rel) | ((with_reducible show DatPs _ _ _); tb_rel) | ((with_reducible show Dat); skip) | ((with_reducible show List Dat); skip))
   | (refine' datP_in ?z5 ?z37; (case z5 => assumption); (case z37 => k_dflt kqd_sub))
   | (refine' datP_gdJ ?z31 ?z34 ?z35; (case z31 => k_dflt k_mem); (case z34 => first | (refine' gdJ_had ?z31 ?z38; (case z38 => assumption); (case z31 => k_dflt k_mem)) | (refine' gdJ_one ?z31 ?z38 ?z37 ?z19; (case z38 => assumption); (case z31 => k_dflt k_mem); (case z37 => k_dflt tb_start); (case z19 => k_dflt (k_extra "k_ltA")))); (case z35 => tb_rel))
   | (refine' datP_gd ?z31 ?z34 ?z35; (case z31 => k_dflt k_mem); (case z34 => first | (refine' gd_had ?z31 ?z38; (case z38 => assumption); (case z31 => k_dflt k_mem)) | (refine' gd_one ?z31 ?z38 ?z37; (case z38 => assumption); (case z31 => k_dflt k_mem); (case z37 => k_dflt tb_start))); (case z35 => tb_rel))
   | fail)
  k_with "w_lcg_off" =>
   (with_reducible first
   | assumption
   | exact off3_nil
   | (refine' off3_app ?_ ?_ <;> lcg_off)
   | (refine' off3_any ?z40 ?z14 ?z3; (case z40 => assumption); (case z14 => k_dflt k_mem); (case z3 => lcg_off))
   | (refine' off3_cons ⟨?z42, ?z16, ?z17⟩ ?z3; (case z42 | z16 | z17 => k_dflt k_ne); (case z3 => lcg_off))
   | (refine' off3_above ?z40 ?z42 ?z16 ?z17; (case z40 => assumption); (case z42 | z16 | z17 => k_dflt k_mem))
   | (refine' off3_sub ?z40 ?z3; (case z40 => assumption); (case z3 => k_dflt tb_start))
   | fail)
  k_with "w_ktr_room" =>
   ((try simp only [depth_under_make, depth_under_kw, depth_in1, depth_deeper, depth_caller]); (try dsimp only [ktrTop]); with_reducible first
   | (refine' room2 ?z11 ?z20; (case z11 => assumption); (case z20 => k_dflt (first | exact Nat.le_of_ble_eq_true rfl | omega)))
   | (refine' room1 ?z11 ?z20; (case z11 => assumption); (case z20 => k_dflt (first | exact Nat.le_of_ble_eq_true rfl | omega)))
   | (refine' room0 ?z11; (case z11 => assumption))
   | fail)
  k_with "w_ktr_units" =>
   ((try simp only [units_in1, units_deeper, Around.mark_units, units_caller]); (try dsimp only [ktrTop]); with_reducible first
   | (refine' unit2 ?z11 ?z20; (case z11 => assumption); (case z20 => k_dflt (first | exact Nat.le_of_ble_eq_true rfl | omega)))
   | (refine' unit1 ?z11 ?z20; (case z11 => assumption); (case z20 => k_dflt (first | exact Nat.le_of_ble_eq_true rfl | omega)))
   | fail)
  k_with "k_ltA" =>
   (first
   | (refine' lt_all ?z6 ?z36; (case z6 => with_reducible assumption); (case z36 => k_mem))
   | (refine ltN ?_; omega))
  k_with "w_kqd_all" =>
   (with_reducible first
   | assumption
   | exact off_nil
   | (refine' off_cons ?z29 ?z39; (case z29 => k_dflt k_ne); (case z39 => kqd_all))
   | (refine' off_app ?_ ?_ <;> kqd_all)
   | (refine' off_sub ?z8 ?z7; (case z8 => assumption); (case z7 => k_dflt tb_start))
   | (refine' off_above ?z8 ?z7; (case z8 => assumption); (case z7 => k_dflt k_mem))
   | (refine' off_lt ?z8 ?z33 ?z7; (case z8 => assumption); (case z33 => k_dflt ((show (_ : Nat) ≤ _); omega)); (case z7 => k_dflt tb_start))
   | (refine' off_o3a ?z8 ?z7; (case z8 => assumption); (case z7 => k_dflt tb_start))
   | (refine' off_o3b ?z8 ?z7; (case z8 => assumption); (case z7 => k_dflt tb_start))
   | (refine' off_o3c ?z8 ?z7; (case z8 => assumption); (case z7 => k_dflt tb_start))
   | (refine' off_o1 ?z8 ?z7; (case z8 => assumption); (case z7 => k_dflt tb_start))
   | fail)
  k_with "w_k_ne" =>
   (first
   | with_reducible assumption
   | (refine' ne_all ?z6 ?z36; (case z6 => with_reducible assumption); (case z36 => k_mem))
   | (refine' ne_all2 ?z6 ?z36; (case z6 => with_reducible assumption); (case z36 => k_mem))
   | (refine' Ne.symm ?z6; (case z6 => with_reducible assumption))
   | (refine' ne_o3a ?z6 ?z36; (case z6 => with_reducible assumption); (case z36 => k_mem))
   | (refine' ne_o3b ?z6 ?z36; (case z6 => with_reducible assumption); (case z36 => k_mem))
   | (refine' ne_o3c ?z6 ?z36; (case z6 => with_reducible assumption); (case z36 => k_mem))
   | (refine' ne_o3a' ?z6 ?z36; (case z6 => with_reducible assumption); (case z36 => k_mem))
   | (refine' ne_o3b' ?z6 ?z36; (case z6 => with_reducible assumption); (case z36 => k_mem))
   | (refine' ne_o3c' ?z6 ?z36; (case z6 => with_reducible assumption); (case z36 => k_mem))
   | (refine' ne_o1 ?z6 ?z36; (case z6 => with_reducible assumption); (case z36 => k_mem))
   | (refine' ne_o1' ?z6 ?z36; (case z6 => with_reducible assumption); (case z36 => k_mem))
   | (refine' ne_of_lt' ?z6; (case z6 => with_reducible assumption))
   | (refine' ne_of_gt' ?z6; (case z6 => with_reducible assumption))
   | (refine' ne_tr ?z41 ?z6 ?z36; (case z41 | z6 => with_reducible assumption); (case z36 => k_mem))
   | (refine' ne_trs ?z41 ?z6 ?z36; (case z41 | z6 => with_reducible assumption); (case z36 => k_mem))
   | (refine' ne_tr2 ?z41 ?z26 ?z6 ?z36; (case z41 | z26 | z6 => with_reducible assumption); (case z36 => k_mem))
   | (refine' ne_tr2s ?z41 ?z26 ?z6 ?z36; (case z41 | z26 | z6 => with_reducible assumption); (case z36 => k_mem))
   | (with_reducible refine' ne_up1 ?z6 ?z36; (case z6 => assumption); (case z36 => k_dflt k_mem))
   | (with_reducible refine' ne_up2 ?z6 ?z36; (case z6 => assumption); (case z36 => k_dflt k_mem))
   | (with_reducible refine' ne_up3 ?z6 ?z36; (case z6 => assumption); (case z36 => k_dflt k_mem))
   | (with_reducible refine' ne_dn1 ?z6 ?z36; (case z6 => assumption); (case z36 => k_dflt k_mem))
   | (with_reducible refine' ne_dn2 ?z6 ?z36; (case z6 => assumption); (case z36 => k_dflt k_mem))
   | (with_reducible refine' ne_dn3 ?z6 ?z36; (case z6 => assumption); (case z36 => k_dflt k_mem))
   | fail)
  k_with "pack" =>
   skip
  trivial
theorem rv_use_ (hσ : ∀ x t, σ x = some t → t.dp ≤ 4) {q : Opd} (hq : q.dp ≤ 4) : RvOk w loose mean mg mb σ (.use q) := by
  intro v D₁ D₂ news d o kvs hv ht ho hdi hlo hs1 hs2
  unfold CallOk
  intro dp un gd cn cs a ccd cl outer A₀ base h₀ L m s Q E B F X N T hk hdp hun hret
  obtain ⟨b, w1, w2, n, rfl, hm, h1, h2⟩ := in_tup2 hv
  obtain ⟨t1, rfl⟩ := in_str h1
  replace N := News.add (News.add N (hs1 _ hm)) (.tail _ ho)
  refine wpAny_call ?_
  k_dflt ktr_enter
  all_goals (try (with_reducible rename News _ _ _ _ => nL9; refine led_let nL9 ?_; clear nL9; intro Y0 N9))
  k_steps
  refine hret _ _ _ _ (by k_asm) (by k_asm) ⟨by tb_start, ?_⟩
  (repeat (with_reducible rename _ ∧ _ => hc; (have hcl := hc.1); (have hcr := hc.2); clear hc))
  dsimp only [rvD, Rv.map, rgD]
  tb_rel
theorem rv_box (hσ : ∀ x t, σ x = some t → t.dp ≤ 4) {q : Opd} (hq : q.dp ≤ 4) : RvOk w loose mean mg mb σ (.box q) := by
  intro v D₁ D₂ news d o kvs hv ht ho hdi hlo hs1 hs2
  unfold CallOk
  intro dp un gd cn cs a ccd cl outer A₀ base h₀ L m s Q E B F X N T hk hdp hun hret
  obtain ⟨b, w1, w2, n, rfl, hm, h1, h2⟩ := in_tup2 hv
  obtain ⟨t1, rfl⟩ := in_str h1
  replace N := News.add (News.add N (hs1 _ hm)) (.tail _ ho)
  refine wpAny_call ?_
  k_dflt ktr_enter
  all_goals (try (with_reducible rename News _ _ _ _ => nL9; refine led_let nL9 ?_; clear nL9; intro Y0 N9))
  k_steps
  refine hret _ _ _ _ (by k_asm) (by k_asm) ⟨by tb_start, ?_⟩
  (repeat (with_reducible rename _ ∧ _ => hc; (have hcl := hc.1); (have hcr := hc.2); clear hc))
  dsimp only [rvD, Rv.map, rgD]
  tb_rel
theorem rv_un (hσ : ∀ x t, σ x = some t → t.dp ≤ 4) {q : Opd} (hq : q.dp ≤ 4) : RvOk w loose mean mg mb σ (.un q) := by
  intro v D₁ D₂ news d o kvs hv ht ho hdi hlo hs1 hs2
  unfold CallOk
  intro dp un gd cn cs a ccd cl outer A₀ base h₀ L m s Q E B F X N T hk hdp hun hret
  obtain ⟨b, w1, w2, w3, n, rfl, hm, h1, h2, h3⟩ := in_tup3 hv
  obtain ⟨t1, rfl⟩ := in_str h1
  replace N := News.add (News.add N (hs1 _ hm)) (.tail _ ho)
  refine wpAny_call ?_
  k_dflt ktr_enter
  all_goals (try (with_reducible rename News _ _ _ _ => nL9; refine led_let nL9 ?_; clear nL9; intro Y0 N9))
  k_steps
  refine hret _ _ _ _ (by k_asm) (by k_asm) ⟨by tb_start, ?_⟩
  (repeat (with_reducible rename _ ∧ _ => hc; (have hcl := hc.1); (have hcr := hc.2); clear hc))
  dsimp only [rvD, Rv.map, rgD]
  tb_rel
theorem rv_cast (hσ : ∀ x t, σ x = some t → t.dp ≤ 4) {q : Opd} {t : Ty} (hq : q.dp ≤ 4) (hq2 : t.dp ≤ 4) : RvOk w loose mean mg mb σ (.cast q t) := by
  intro v D₁ D₂ news d o kvs hv ht ho hdi hlo hs1 hs2
  unfold CallOk
  intro dp un gd cn cs a ccd cl outer A₀ base h₀ L m s Q E B F X N T hk hdp hun hret
  obtain ⟨b, w1, w2, w3, n, rfl, hm, h1, h2, h3⟩ := in_tup3 hv
  obtain ⟨t1, rfl⟩ := in_str h1
  replace N := News.add (News.add N (hs1 _ hm)) (.tail _ ho)
  refine wpAny_call ?_
  k_dflt ktr_enter
  all_goals (try (with_reducible rename News _ _ _ _ => nL9; refine led_let nL9 ?_; clear nL9; intro Y0 N9))
  k_steps
  refine hret _ _ _ _ (by k_asm) (by k_asm) ⟨by tb_start, ?_⟩
  (repeat (with_reducible rename _ ∧ _ => hc; (have hcl := hc.1); (have hcr := hc.2); clear hc))
  dsimp only [rvD, Rv.map, rgD]
  tb_rel
theorem rv_tup (hσ : ∀ x t, σ x = some t → t.dp ≤ 4) {os : List Opd} (hq : os.length ≤ 2) (hq2 : ∀ q ∈ os, q.dp ≤ 4) : RvOk w loose mean mg mb σ (.tup os) := by
  intro v D₁ D₂ news d o kvs hv ht ho hdi hlo hs1 hs2
  unfold CallOk
  intro dp un gd cn cs a ccd cl outer A₀ base h₀ L m s Q E B F X N T hk hdp hun hret
  obtain ⟨b, w1, w2, n, rfl, hm, h1, h2⟩ := in_tup2 hv
  obtain ⟨t1, rfl⟩ := in_str h1
  replace N := News.add (News.add N (hs1 _ hm)) (.tail _ ho)
  refine wpAny_call ?_
  k_dflt ktr_enter
  all_goals (try (with_reducible rename News _ _ _ _ => nL9; refine led_let nL9 ?_; clear nL9; intro Y0 N9))
  k_steps
  refine hret _ _ _ _ (by k_asm) (by k_asm) ⟨by tb_start, ?_⟩
  (repeat (with_reducible rename _ ∧ _ => hc; (have hcl := hc.1); (have hcr := hc.2); clear hc))
  dsimp only [rvD, Rv.map, rgD]
  tb_rel
theorem rv_arr (hσ : ∀ x t, σ x = some t → t.dp ≤ 4) {os : List Opd} (hq : os.length ≤ 2) (hq2 : ∀ q ∈ os, q.dp ≤ 4) : RvOk w loose mean mg mb σ (.arr os) := by
  intro v D₁ D₂ news d o kvs hv ht ho hdi hlo hs1 hs2
  unfold CallOk
  intro dp un gd cn cs a ccd cl outer A₀ base h₀ L m s Q E B F X N T hk hdp hun hret
  obtain ⟨b, w1, w2, n, rfl, hm, h1, h2⟩ := in_tup2 hv
  obtain ⟨t1, rfl⟩ := in_str h1
  replace N := News.add (News.add N (hs1 _ hm)) (.tail _ ho)
  refine wpAny_call ?_
  k_dflt ktr_enter
  all_goals (try (with_reducible rename News _ _ _ _ => nL9; refine led_let nL9 ?_; clear nL9; intro Y0 N9))
  k_steps
  refine hret _ _ _ _ (by k_asm) (by k_asm) ⟨by tb_start, ?_⟩
  (repeat (with_reducible rename _ ∧ _ => hc; (have hcl := hc.1); (have hcr := hc.2); clear hc))
  dsimp only [rvD, Rv.map, rgD]
  tb_rel
theorem rv_adt (hσ : ∀ x t, σ x = some t → t.dp ≤ 4) {t : Ty} {os : List Opd} (hq0 : t.dp ≤ 4) (hq : os.length ≤ 2) (hq2 : ∀ q ∈ os, q.dp ≤ 4) : RvOk w loose mean mg mb σ (.adt t os) := by
  intro v D₁ D₂ news d o kvs hv ht ho hdi hlo hs1 hs2
  unfold CallOk
  intro dp un gd cn cs a ccd cl outer A₀ base h₀ L m s Q E B F X N T hk hdp hun hret
  obtain ⟨b, w1, w2, w3, w4, n, rfl, hm, h1, h2, h3, h4⟩ := in_tup4 hv
  obtain ⟨t1, rfl⟩ := in_str h1
  obtain ⟨t3, rfl⟩ := in_int h3
  replace N := News.add (News.add N (hs1 _ hm)) (.tail _ ho)
  refine wpAny_call ?_
  k_dflt ktr_enter
  all_goals (try (with_reducible rename News _ _ _ _ => nL9; refine led_let nL9 ?_; clear nL9; intro Y0 N9))
  k_steps
  refine hret _ _ _ _ (by k_asm) (by k_asm) ⟨by tb_start, ?_⟩
  (repeat (with_reducible rename _ ∧ _ => hc; (have hcl := hc.1); (have hcr := hc.2); clear hc))
  dsimp only [rvD, Rv.map, rgD]
  tb_rel
theorem rv_ref (hσ : ∀ x t, σ x = some t → t.dp ≤ 4) {r : Rg}  : RvOk w loose mean mg mb σ (.ref r) := by
  intro v D₁ D₂ news d o kvs hv ht ho hdi hlo hs1 hs2
  unfold CallOk
  intro dp un gd cn cs a ccd cl outer A₀ base h₀ L m s Q E B F X N T hk hdp hun hret
  obtain ⟨b, w1, w2, w3, w4, n, rfl, hm, h1, h2, h3, h4⟩ := in_tup4 hv
  obtain ⟨t1, rfl⟩ := in_str h1
  replace N := News.add (News.add N (hs1 _ hm)) (.tail _ ho)
  refine wpAny_call ?_
  k_dflt ktr_enter
  all_goals (try (with_reducible rename News _ _ _ _ => nL9; refine led_let nL9 ?_; clear nL9; intro Y0 N9))
  k_steps
  refine hret _ _ _ _ (by k_asm) (by k_asm) ⟨by tb_start, ?_⟩
  (repeat (with_reducible rename _ ∧ _ => hc; (have hcl := hc.1); (have hcr := hc.2); clear hc))
  dsimp only [rvD, Rv.map, rgD]
  tb_rel
theorem rv_disc (hσ : ∀ x t, σ x = some t → t.dp ≤ 4)   : RvOk w loose mean mg mb σ .disc := by
  intro v D₁ D₂ news d o kvs hv ht ho hdi hlo hs1 hs2
  unfold CallOk
  intro dp un gd cn cs a ccd cl outer A₀ base h₀ L m s Q E B F X N T hk hdp hun hret
  obtain ⟨b, w1, w2, n, rfl, hm, h1, h2⟩ := in_tup2 hv
  obtain ⟨t1, rfl⟩ := in_str h1
  replace N := News.add (News.add N (hs1 _ hm)) (.tail _ ho)
  refine wpAny_call ?_
  k_dflt ktr_enter
  all_goals (try (with_reducible rename News _ _ _ _ => nL9; refine led_let nL9 ?_; clear nL9; intro Y0 N9))
  k_steps
  refine hret _ _ _ _ (by k_asm) (by k_asm) ⟨by tb_start, ?_⟩
  (repeat (with_reducible rename _ ∧ _ => hc; (have hcl := hc.1); (have hcr := hc.2); clear hc))
  exact datP_in hv (by kqd_sub)
section
example : True := by
  k_with "call ref" =>
   ((k_here; (with_reducible show wpAny _ _ (call (Value.ref 90) _) _ _ _); k_dflt (refine' ops_use2 ?Z2d ?Z2e ?Z2f ?Z2g ?Z2h ?Z2i ?Z2j ?Z2k ?Z2l ?Z2m ?Z2n ?Z2o ?Z2p ?Z2q ?Z2r ?Z2s ?_; (case Z2m | Z2o => k_asm); (case Z2d => first | k_asm | exact dt_ops2 (by k_asm) (by k_mem) (by k_asm) (by k_asm)); (case Z2f => k_asm); (case Z2g => k_mem); (case Z2h | Z2i => k_asm); (case Z2j | Z2k => tb_start); (case Z2l | Z2n | Z2p => k_asm); (case Z2q => first | exact rfl | with_reducible assumption); (case Z2r => ktr_room); (case Z2s => ktr_units); (case Z2e => exact ops_ok (by with_reducible assumption) [_, _] (Nat.le_refl 2) (fits2 (by with_reducible assumption) (by with_reducible assumption)))); intro ax9 y9 y9' k9 tl9 h9 tk9 F9 N9 ab9 dt9 dt9'; (try simp only [List.nil_append, List.cons_append, List.append_nil] at N9); (try dsimp only); (try k_fold)))
  k_with "subscriptTail Name Slice ref ref" =>
   ((k_here; k_dflt (refine' my_slice (a := 2) ?Z2t ?Z2u ?Z2v ?Z2w ?Z2x ?Z2y ?Z2z ?_ ?Z30 ?Z31; (case Z2t | Z2u => k_asm); (case Z2v => k_mem); (case Z2w => decide); (case Z2x => (simp only [List.length_cons, List.length_nil]; omega)); (case Z2y => rfl); (case Z2z => (simp only [List.length_cons, List.length_nil, sizeLine_eq]; omega)); (case Z30 => with_unfolding_all rfl); (case Z31 => (intro _; with_unfolding_all rfl))); intro D' h' F' N' l1; (try k_lt l1); (try k_sweep)))
  trivial
theorem rv_bin (hσ : ∀ x t, σ x = some t → t.dp ≤ 4) {q1 q2 : Opd} (hq : q1.dp ≤ 4) (hq2 : q2.dp ≤ 4) : RvOk w loose mean mg mb σ (.bin q1 q2) := by
  intro v D₁ D₂ news d o kvs hv ht ho hdi hlo hs1 hs2
  unfold CallOk
  intro dp un gd cn cs a ccd cl outer A₀ base h₀ L m s Q E B F X N T hk hdp hun hret
  obtain ⟨b, w1, w2, w3, w4, n, rfl, hm, h1, h2, h3, h4⟩ := in_tup4 hv
  obtain ⟨t1, rfl⟩ := in_str h1
  obtain ⟨t2, rfl⟩ := in_str h2
  replace N := News.add (News.add N (hs1 _ hm)) (.tail _ ho)
  refine wpAny_call ?_
  k_dflt ktr_enter
  all_goals (try (with_reducible rename News _ _ _ _ => nL9; refine led_let nL9 ?_; clear nL9; intro Y0 N9))
  k_steps
  refine hret _ _ _ _ (by k_asm) (by k_asm) ⟨by tb_start, ?_⟩
  (repeat (with_reducible rename _ ∧ _ => hc; (have hcl := hc.1); (have hcr := hc.2); clear hc))
  dsimp only [rvD, Rv.map, rgD]
  tb_rel
theorem rv_chk (hσ : ∀ x t, σ x = some t → t.dp ≤ 4) {q1 q2 : Opd} (hq : q1.dp ≤ 4) (hq2 : q2.dp ≤ 4) : RvOk w loose mean mg mb σ (.chk q1 q2) := by
  intro v D₁ D₂ news d o kvs hv ht ho hdi hlo hs1 hs2
  unfold CallOk
  intro dp un gd cn cs a ccd cl outer A₀ base h₀ L m s Q E B F X N T hk hdp hun hret
  obtain ⟨b, w1, w2, w3, w4, n, rfl, hm, h1, h2, h3, h4⟩ := in_tup4 hv
  obtain ⟨t1, rfl⟩ := in_str h1
  obtain ⟨t2, rfl⟩ := in_str h2
  replace N := News.add (News.add N (hs1 _ hm)) (.tail _ ho)
  refine wpAny_call ?_
  k_dflt ktr_enter
  all_goals (try (with_reducible rename News _ _ _ _ => nL9; refine led_let nL9 ?_; clear nL9; intro Y0 N9))
  k_steps
  refine hret _ _ _ _ (by k_asm) (by k_asm) ⟨by tb_start, ?_⟩
  (repeat (with_reducible rename _ ∧ _ => hc; (have hcl := hc.1); (have hcr := hc.2); clear hc))
  dsimp only [rvD, Rv.map, rgD]
  tb_rel
theorem rv_ok (hσ : ∀ x t, σ x = some t → t.dp ≤ 4) : ∀ rv : Rv, rv.fits → RvOk w loose mean mg mb σ rv
  | .use _, h => rv_use_ hσ h
  | .box _, h => rv_box hσ h
  | .bin _ _, h => rv_bin hσ h.1 h.2
  | .chk _ _, h => rv_chk hσ h.1 h.2
  | .un _, h => rv_un hσ h
  | .cast _ _, h => rv_cast hσ h.1 h.2
  | .tup _, h => rv_tup hσ h.1 h.2
  | .arr _, h => rv_arr hσ h.1 h.2
  | .adt _ _, h => rv_adt hσ h.1 h.2.1 h.2.2
  | .ref _, _ => rv_ref hσ
  | .disc, _ => rv_disc hσ
end
end
end Mine
namespace Mine
example : True := by
  w_top off
  k_with_none
  trivial

/-- statements: assigned, printed, any other -/
inductive Sm where
  | asg (rv : Rv)
  | prt (q : Opd)
  | live | dead | nop
def smD : Sm → Dat
  | .asg rv => .tuple [.str (Str.ofString "assign"), .tuple [.int 1, .tuple []], rvD rv]
  | .prt q => .tuple [.str (Str.ofString "print"), opD q]
  | .live => .tuple [.str (Str.ofString "live"), .int 3]
  | .dead => .tuple [.str (Str.ofString "dead"), .int 4]
  | .nop => .tuple [.str (Str.ofString "nop")]
def Sm.map (f : Ty → Ty) : Sm → Sm
  | .asg rv => .asg (rv.map f)
  | .prt q => .prt (q.map f)
  | x => x
def Sm.fits : Sm → Prop
  | .asg rv => rv.fits
  | .prt q => q.dp ≤ 4
  | _ => True
section
variable {w : World} {loose : List Str} {mean : ExcName → Option Value} {mg mb : Str → Option Value}
def SmOk (w : World) (loose : List Str) (mean : ExcName → Option Value) (mg mb : Str → Option Value) (σ : Pm → Option Ty) (sm : Sm) : Prop :=
  ∀ v D₁ D₂ news d o kvs, Dt D₁ v (smD sm) → TabV D₂ kvs σ → (d, o) ∈ news → o.IsDictOf (PySem.strKind PySem.Challenge.rw_xm0591_01.row.prog w) kvs → (d == sysModules) = false → (∀ p ∈ D₁, p ∈ news) → (∀ p ∈ D₂, p ∈ news) →
    CallOk PySem.Challenge.rw_xm0591_01.row.prog w (hd.heap_1 w.params) topProg loose mean mg mb (46) 104 [v, .ref d] news (PPost (D₁ ++ D₂) news (smD (sm.map fun t => erase (subst σ t))))
theorem sm_use {σ : Pm → Option Ty} {sm : Sm} {news D₁ D₂ : List (Addr × Obj)} {v : Value} {d : Addr} {o : Obj} {kvs : List (Str × Value)}
  {dp un : Nat} {gd : Option (List Code)} {cn : Str} {cs : Scope} {a : Addr} {ccd : Value} {cl : List (Str × Addr)} {outer : List Env} {A₀ : Around} {base h₀ : Heap} {L : Addr} {m : Str → Option Value} {hS : Heap} {gS : Array GenState} {dS : Drawn} {tS : Nat} {oS : OsState} {Q E : Value → Shared → Prop}
  (hv : Dt D₁ v (smD sm)) (S : SmOk w loose mean mg mb σ sm) (ht : TabV D₂ kvs σ) (ho : (d, o) ∈ news) (hdi : o.IsDictOf (PySem.strKind PySem.Challenge.rw_xm0591_01.row.prog w) kvs) (hlo : (d == sysModules) = false) (s1 : ∀ p ∈ D₁, p ∈ news) (s2 : ∀ p ∈ D₂, p ∈ news)
  (B : Below A₀ base outer h₀) (F : Fr h₀ L hS m) (X : (hd.heap_1 w.params).In h₀) (N : News h₀ L hS news) (T : Top topProg loose mean mg mb h₀) (hk : cs.kind = .function) (hr : dp + (46) < recursionLimit) (hu : un + 8 * (46) < cLine)
  (ret : ∀ r tl h' tk', Fr h₀ L h' m → News h₀ L h' (news ++ tl) → Above news tl → Dt (D₁ ++ D₂ ++ tl) r (smD (sm.map fun t => erase (subst σ t))) → Q (r) ⟨h', gS, dS, tk', oS⟩) : wpAny (model PySem.Challenge.rw_xm0591_01.row.prog w) (ktrTop dp un gd cn cs L a ccd cl outer) (call (.ref 104) [v, .ref d]) Q E ⟨hS, gS, dS, tS, oS⟩ :=
  pure_use B F X N T hk (S v D₁ D₂ news d o kvs hv ht ho hdi hlo s1 s2) hr hu ret
variable {σ : Pm → Option Ty}
example : True := by
  k_with_none
  k_with "subscriptTail" =>
   ((k_here; (with_reducible show wpAny _ _ (subscriptTail _ _ (Value.ref _) (Value.int _ _)) _ _ _); k_dflt (first
   | (refine' my_tup ?Z0 ?Z1 ?Z2 ?Z3 ?Z4 ?Z5 ?_; (case Z0 => k_asm); (case Z1 => k_mem); (case Z2 | Z3 => decide); (case Z4 | Z5 => rfl); k_whole)
   | (refine' my_lst ?Z0 ?Z1 ?Z2 ?Z3 ?Z5 ?_; (case Z0 => k_asm); (case Z1 => k_mem); (case Z2 | Z3 => decide); (case Z5 => rfl); k_whole))))
  k_with "eval Name" =>
   ((k_here; k_dflt (refine' nameX_L ?Z6 ?Z7 ?_; (case Z6 => k_asm); (case Z7 => exact rfl); k_whole)))
  k_with "w_k_room" =>
   (ktr_room)
  k_with "w_ktr_enter" =>
   ((refine' code_defC ?Z8 ?Z9 ?Za ?Zb ?Zc ?Zd ?Ze ?Zf ?Zg ?Zh ?Zi ?Zj ?Zk ?Zl ?_ ?Zm ?Zn ?Zo; (case Zd | Ze => exact rfl); (case Zf => first | exact rfl | assumption); (case Z8 | Z9 | Za | Zb | Zc => k_asm); (case Zg | Zh => k_is); (case Zi => ktr_room); (case Zj => exact BindsTo.of_eq rfl); (case Zk => exact rfl); (case Zl => decide +kernel); (case Zm | Zn | Zo => exact rfl); k_whole; intro g' L' h' tk' cells' FG' F' N' Y' B' X' T' l1; k_cells Y'; (try simp only [List.cons_append, List.nil_append] at N'); (try dsimp only); (try k_fold)))
  k_with "eval ListComp" =>
   ((k_here; k_dflt (refine ListComp_tup (F₀ := by k_asm) (by with_unfolding_all rfl) (by decide) (by rfl) (by decide) (by rfl) ?_)))
  k_with "SrcT" =>
   ((k_dflt (refine srcT_of (by rfl) (by k_asm) (by k_asm) (by k_mem) (by first | size_fits | exact Nat.le_of_ble_eq_true rfl) ?_); intro g'; lcg_lit))
  k_with "CompRest" =>
   ((with_unfolding_all first
   | (refine LCg.CompRest.succ ?_; intro v' I' oI' C' oC' D' m' h' tk' E' hv' hC' hx' F' N' off' ne'; lcg_open hv')
   | refine LCg.CompRest.zero ?_))
  k_with "FinE" =>
   (((unfold LCg.FinE); intro D' h' tk' F' N' o1'; (try simp only [List.nil_append, List.cons_append, List.append_assoc] at N'); (try dsimp only)))
  k_with "CompEnd" =>
   ((refine' comp_end ?Zp ?Zq ?Zr ?Zs ?Zt ?Zu ?Zv ?_; (case Zp | Zq => k_asm); (case Zr | Zs | Zt => (repeat (first | exact Pull.head | refine Pull.tail ?_))); (case Zu => lcg_off); (case Zv => (unfold HasTup; k_mem))))
  k_with "CompEnd" =>
   ((refine' comp_end_pure ?Zw ?Zx ?Zy ?Zz ?Z10 ?_; (case Zw | Zz | Zx | Zy => k_asm); (case Z10 => (unfold HasTup; k_mem))))
  k_with "call ref" =>
   ((k_here; (with_reducible show wpAny _ _ (call (Value.ref 85) _) _ _ _); k_dflt (refine' op_use ?Z11 ?Z12 ?Z13 ?Z14 ?Z15 ?Z16 ?Z17 ?Z18 ?Z19 ?Z1a ?Z1b ?Z1c ?Z1d ?Z1e ?Z1f ?Z1g ?_; (case Z11 | Z1a | Z1c | Z13 => k_asm); (case Z14 => k_mem); (case Z15 | Z16 => k_asm); (case Z17 | Z18 => tb_start); (case Z19 | Z1b | Z1d => k_asm); (case Z1e => first | exact rfl | with_reducible assumption); (case Z1f => ktr_room); (case Z1g => ktr_units); (case Z12 => exact op_ok (by with_reducible assumption) _)); intro r9 tl9 h9 tk9 F9 N9 ab9 dt9; (try simp only [List.nil_append, List.cons_append, List.append_nil] at N9); (try dsimp only); (try k_fold)))
  k_with "call ref" =>
   ((k_here; (with_reducible show wpAny _ _ (call (Value.ref 97) _) _ _ _); k_dflt (refine' rv_use ?Z1h ?Z1i ?Z1j ?Z1k ?Z1l ?Z1m ?Z1n ?Z1o ?Z1p ?Z1q ?Z1r ?Z1s ?Z1t ?Z1u ?Z1v ?Z1w ?_; (case Z1h | Z1q | Z1s | Z1j => k_asm); (case Z1k => k_mem); (case Z1l | Z1m => k_asm); (case Z1n | Z1o => tb_start); (case Z1p | Z1r | Z1t => k_asm); (case Z1u => first | exact rfl | with_reducible assumption); (case Z1v => ktr_room); (case Z1w => ktr_units); (case Z1i => exact rv_ok (by with_reducible assumption) _ (by with_reducible assumption))); intro r9 tl9 h9 tk9 F9 N9 ab9 dt9; (try simp only [List.nil_append, List.cons_append, List.append_nil] at N9); (try dsimp only); (try k_fold)))
  k_with "execs cons" =>
   (k_here; (try k_gentoks); (first | ((fail_if_success (fail_if_success k_fold)); (with_reducible refine' ec_let2 ?_); intro q0 e0 K0) | ((with_reducible refine' ec_let ?_); intro K0)); (all_goals (try ((with_reducible rename Fr _ _ _ (fun _ => ite _ _ _) => f9); refine fr_let f9 ?_; clear f9; intro m0 F0))); (try dsimp only))
  k_with "eval Constant str" =>
   (with_reducible refine' con_str ?_)
  k_with "eval Constant int" =>
   (with_reducible refine' con_int ?_)
  k_with "subscriptTail Name Constant ref int" =>
   (k_extra "subscriptTail")
  k_with "callWith ref" =>
   (k_here; (with_reducible show wpAny _ _ (callWith _ (Value.ref _) _ (backTo _ (starEach (_ :: _) _)) []) _ _ _); k_dflt (refine' callWith_K ?zc1 ?zc2 ?_; (case zc1 => with_reducible assumption); (case zc2 => k_is); k_whole))
  k_with "callWith ref" =>
   (k_here; (with_reducible show wpAny _ _ (callWith _ (Value.ref _) _ (backTo _ (starEach [] _)) []) _ _ _); k_dflt (refine' callWith_K0 ?zc1 ?zc2 ?_; (case zc1 => exact Frag.In.keeps (by with_reducible assumption) (Fr.keep (by k_asm))); (case zc2 => k_is); k_whole))
  k_with "eval Name" =>
   (k_here; k_dflt (first
   | (refine' nameX_L ?zn1 ?zn2 ?_ ?zn3 ?zn4; (case zn3 | zn4 => rfl); (case zn1 => k_asm); (case zn2 => rfl); k_whole)
   | (refine' nameX_K ?zn1 ?zn2 ?zn3 ?zn4 ?_ ?zn5 ?zn6; (case zn5 | zn6 => rfl); (case zn1 | zn2 | zn3 => k_asm); (case zn4 => k_is); k_whole)
   | (refine' nameX_B ?zn1 ?zn2 ?zn3 ?zn4 ?zn5 ?zn6 ?_ ?zn7 ?zn8; (case zn7 | zn8 => rfl); (case zn1 | zn2 | zn3 => k_asm); (case zn4 => k_is); (case zn5 => boot_fast); (case zn6 => decide); k_whole)
   | fail))
  k_with "newTuple" =>
   (k_here; k_dflt (refine' tup_let ?z30 ?z4 ?z0 ?_; (case z30 | z4 => k_asm); (case z0 => kmk_size)); intro D' h' e' Y' F' N' l1; (try k_sweep))
  k_with "newList" =>
   (k_here; k_dflt (refine' lst_let ?z30 ?z4 ?z0 ?_; (case z30 | z4 => k_asm); (case z0 => kmk_size)); intro D' h' e' Y' F' N' l1; (try k_sweep))
  k_with "binaryOp Add ref ref" =>
   (k_here; (with_reducible show wpAny _ _ (binaryOp Operator.Add (Value.ref _) (Value.ref _)) _ _ _); k_dflt (refine' kde_addT ?z1 ?z27 ?z25 ?z2 ?z18 ?z23 ?z21 ?z24 ?_; (case z1 | z27 => k_asm); (case z25 | z2 => exact News.isTup (by k_asm) (by k_mem)); (case z18 | z23 => exact List.cons_ne_nil _ _); (case z21 => exact Nat.le_of_ble_eq_true rfl); (case z24 => kun_lit)); intro D' h' F' N' l1; (replace l1 := allLt_of l1); (try k_sweep))
  k_with "k_up" =>
   (first
   | with_reducible exact hp
   | ((with_reducible refine List.mem_cons_of_mem _ ?_); k_extra "k_up")
   | ((with_reducible refine List.mem_append_left _ ?_); k_extra "k_up")
   | ((with_reducible refine List.mem_append_right _ ?_); k_extra "k_up")
   | fail)
  k_with "w_tb_start" =>
   (first
   | exact sub_nil
   | (intro p hp; k_extra "k_up")
   | (refine' sub_trans ?z28 ?z13; (case z28 => with_reducible assumption); (case z13 => (intro p hp; k_extra "k_up")))
   | ((with_reducible refine sub_app ?_ ?_) <;> tb_start)
   | ((with_reducible refine sub_cons ?_ ?_); k_mem; tb_start)
   | fail)
  k_with "w_k_mem" =>
   (focus ((repeat (with_reducible first | exact List.mem_cons_self | refine List.mem_cons_of_mem _ ?_ | refine List.mem_append_left _ ?_)); done))
  k_with "w_kqd_sub" =>
   (with_reducible first
   | exact gdJ_nil
   | (refine' gdJ_app ?_ ?_ <;> kqd_sub)
   | (refine' gd_app ?_ ?_ <;> kqd_sub)
   | (refine' gdJ_new ?z32 ?z12 ?z22 ?z9; (case z12 | z22 => assumption); (case z32 | z9 => k_dflt tb_start))
   | (refine' gd_new ?z32 ?z12 ?z9; (case z12 => assumption); (case z32 | z9 => k_dflt tb_start))
   | (refine' gd_cons0 ?z15 ?z10; (case z15 => first | (refine' gd_had ?z31 ?z38; (case z38 => assumption); (case z31 => k_dflt k_mem)) | (refine' gd_one ?z31 ?z38 ?z37; (case z38 => assumption); (case z31 => k_dflt k_mem); (case z37 => k_dflt tb_start))); (case z10 => kqd_sub))
   | (refine' gdJ_old ?z32 ?z9; (case z9 | z32 => k_dflt tb_start))
   | (refine' gd_old ?z32 ?z9; (case z9 | z32 => k_dflt tb_start))
   | fail)
  k_with "w_tb_rel" =>
   (with_reducible first
   | exact DatP.none
   | exact DatP.bool _
   | exact DatP.int _ _
   | exact DatP.str _ _
   | exact DatPs.nil
   | (refine' DatPs.cons ?_ ?_ <;> first | ((with_reducible show DatP _ _ _); tb_rel) | ((with_reducible show DatPs _ _ _); tb_rel) | ((with_reducible show Dat); skip) | ((with_reducible show List Dat); skip))
   | (refine' datP_in ?z5 ?z37; (case z5 => assumption); (case z37 => k_dflt kqd_sub))
   | (refine' datP_gdJ ?z31 ?z34 ?z35; (case z31 => k_dflt k_mem); (case z34 => first | (refine' gdJ_had ?z31 ?z38; (case z38 => assumption); (case z31 => k_dflt k_mem)) | (refine' gdJ_one ?z31 ?z38 ?z37 ?z19; (case z38 => assumption); (case z31 => k_dflt k_mem); (case z37 => k_dflt tb_start); (case z19 => k_dflt (k_extra "k_ltA")))); (case z35 => tb_rel))
   | (refine' datP_gd ?z31 ?z34 ?z35; (case z31 => k_dflt k_mem); (case z34 => first | (refine' gd_had ?z31 ?z38; (case z38 => assumption); (case z31 => k_dflt k_mem)) | (refine' gd_one ?z31 ?z38 ?z37; (case z38 => assumption); (case z31 => k_dflt k_mem); (case z37 => k_dflt tb_start))); (case z35 => tb_rel))
   | fail)
  k_with "w_lcg_off" =>
   (with_reducible first
   | assumption
   | exact off3_nil
   | (refine' off3_app ?_ ?_ <;> lcg_off)
   | (refine' off3_any ?z40 ?z14 ?z3; (case z40 => assumption); (case z14 => k_dflt k_mem); (case z3 => lcg_off))
   | (refine' off3_cons ⟨?z42, ?z16, ?z17⟩ ?z3; (case z42 | z16 | z17 => k_dflt k_ne); (case z3 => lcg_off))
   | (refine' off3_above ?z40 ?z42 ?z16 ?z17; (case z40 => assumption); (case z42 | z16 | z17 => k_dflt k_mem))
   | (refine' off3_sub ?z40 ?z3; (case z40 => assumption); (case z3 => k_dflt tb_start))
   | fail)
  k_with "w_ktr_room" =>
   ((try simp only [depth_under_make, depth_under_kw, depth_in1, depth_deeper, depth_caller]); (try dsimp only [ktrTop]); with_reducible first
   | (refine' room2 ?z11 ?z20; (case z11 => assumption); (case z20 => k_dflt (first | exact Nat.le_of_ble_eq_true rfl | omega)))
   | (refine' room1 ?z11 ?z20; (case z11 => assumption); (case z20 => k_dflt (first | exact Nat.le_of_ble_eq_true rfl | omega)))
   | (refine' room0 ?z11; (case z11 => assumption))
   | fail)
  k_with "w_ktr_units" =>
   ((try simp only [units_in1, units_deeper, Around.mark_units, units_caller]); (try dsimp only [ktrTop]); with_reducible first
   | (refine' unit2 ?z11 ?z20; (case z11 => assumption); (case z20 => k_dflt (first | exact Nat.le_of_ble_eq_true rfl | omega)))
   | (refine' unit1 ?z11 ?z20; (case z11 => assumption); (case z20 => k_dflt (first | exact Nat.le_of_ble_eq_true rfl | omega)))
   | fail)
  k_with "k_ltA" =>
   (first
   | (refine' lt_all ?z6 ?z36; (case z6 => with_reducible assumption); (case z36 => k_mem))
   | (refine ltN ?_; omega))
  k_with "w_kqd_all" =>
   (with_reducible first
   | assumption
   | exact off_nil
   | (refine' off_cons ?z29 ?z39; (case z29 => k_dflt k_ne); (case z39 => kqd_all))
   | (refine' off_app ?_ ?_ <;> kqd_all)
   | (refine' off_sub ?z8 ?z7; (case z8 => assumption); (case z7 => k_dflt tb_start))
   | (refine' off_above ?z8 ?z7; (case z8 => assumption); (case z7 => k_dflt k_mem))
   | (refine' off_lt ?z8 ?z33 ?z7; (case z8 => assumption); (case z33 => k_dflt ((show (_ : Nat) ≤ _); omega)); (case z7 => k_dflt tb_start))
   | (refine' off_o3a ?z8 ?z7; (case z8 => assumption); (case z7 => k_dflt tb_start))
   | (refine' off_o3b ?z8 ?z7; (case z8 => assumption); (case z7 => k_dflt tb_start))
   | (refine' off_o3c ?z8 ?z7; (case z8 => assumption); (case z7 => k_dflt tb_start))
   | (refine' off_o1 ?z8 ?z7; (case z8 => assumption); (case z7 => k_dflt tb_start))
   | fail)
  k_with "w_k_ne" =>
   (first
   | with_reducible assumption
   | (refine' ne_all ?z6 ?z36; (case z6 => with_reducible assumption); (case z36 => k_mem))
   | (refine' ne_all2 ?z6 ?z36; (case z6 => with_reducible assumption); (case z36 => k_mem))
   | (refine' Ne.symm ?z6; (case z6 => with_reducible assumption))
   | (refine' ne_o3a ?z6 ?z36; (case z6 => with_reducible assumption); (case z36 => k_mem))
   | (refine' ne_o3b ?z6 ?z36; (case z6 => with_reducible assumption); (case z36 => k_mem))
   | (refine' ne_o3c ?z6 ?z36; (case z6 => with_reducible assumption); (case z36 => k_mem))
   | (refine' ne_o3a' ?z6 ?z36; (case z6 => with_reducible assumption); (case z36 => k_mem))
   | (refine' ne_o3b' ?z6 ?z36; (case z6 => with_reducible assumption); (case z36 => k_mem))
   | (refine' ne_o3c' ?z6 ?z36; (case z6 => with_reducible assumption); (case z36 => k_mem))
   | (refine' ne_o1 ?z6 ?z36; (case z6 => with_reducible assumption); (case z36 => k_mem))
   | (refine' ne_o1' ?z6 ?z36; (case z6 => with_reducible assumption); (case z36 => k_mem))
   | (refine' ne_of_lt' ?z6; (case z6 => with_reducible assumption))
   | (refine' ne_of_gt' ?z6; (case z6 => with_reducible assumption))
   | (refine' ne_tr ?z41 ?z6 ?z36; (case z41 | z6 => with_reducible assumption); (case z36 => k_mem))
   | (refine' ne_trs ?z41 ?z6 ?z36; (case z41 | z6 => with_reducible assumption); (case z36 => k_mem))
   | (refine' ne_tr2 ?z41 ?z26 ?z6 ?z36; (case z41 | z26 | z6 => with_reducible assumption); (case z36 => k_mem))
   | (refine' ne_tr2s ?z41 ?z26 ?z6 ?z36; (case z41 | z26 | z6 => with_reducible assumption); (case z36 => k_mem))
   | (with_reducible refine' ne_up1 ?z6 ?z36; (case z6 => assumption); (case z36 => k_dflt k_mem))
   | (with_reducible refine' ne_up2 ?z6 ?z36; (case z6 => assumption); (case z36 => k_dflt k_mem))
   | (with_reducible refine' ne_up3 ?z6 ?z36; (case z6 => assumption); (case z36 => k_dflt k_mem))
   | (with_reducible refine' ne_dn1 ?z6 ?z36; (case z6 => assumption); (case z36 => k_dflt k_mem))
   | (with_reducible refine' ne_dn2 ?z6 ?z36; (case z6 => assumption); (case z36 => k_dflt k_mem))
   | (with_reducible refine' ne_dn3 ?z6 ?z36; (case z6 => assumption); (case z36 => k_dflt k_mem))
   | fail)
  k_with "pack" =>
   skip
  trivial
theorem sm_asg (hσ : ∀ x t, σ x = some t → t.dp ≤ 4) {rv : Rv} (hq : rv.fits) : SmOk w loose mean mg mb σ (.asg rv) := by
  intro v D₁ D₂ news d o kvs hv ht ho hdi hlo hs1 hs2
  unfold CallOk
  intro dp un gd cn cs a ccd cl outer A₀ base h₀ L m s Q E B F X N T hk hdp hun hret
  obtain ⟨b, w1, w2, w3, n, rfl, hm, h1, h2, h3⟩ := in_tup3 hv
  obtain ⟨t1, rfl⟩ := in_str h1
  replace N := News.add (News.add N (hs1 _ hm)) (.tail _ ho)
  refine wpAny_call ?_
  k_dflt ktr_enter
  all_goals (try (with_reducible rename News _ _ _ _ => nL9; refine led_let nL9 ?_; clear nL9; intro Y0 N9))
  k_steps
  refine hret _ _ _ _ (by k_asm) (by k_asm) ⟨by tb_start, ?_⟩
  (repeat (with_reducible rename _ ∧ _ => hc; (have hcl := hc.1); (have hcr := hc.2); clear hc))
  dsimp only [smD, Sm.map]
  tb_rel
theorem sm_prt (hσ : ∀ x t, σ x = some t → t.dp ≤ 4) {q : Opd} (hq : q.dp ≤ 4) : SmOk w loose mean mg mb σ (.prt q) := by
  intro v D₁ D₂ news d o kvs hv ht ho hdi hlo hs1 hs2
  unfold CallOk
  intro dp un gd cn cs a ccd cl outer A₀ base h₀ L m s Q E B F X N T hk hdp hun hret
  obtain ⟨b, w1, w2, n, rfl, hm, h1, h2⟩ := in_tup2 hv
  obtain ⟨t1, rfl⟩ := in_str h1
  replace N := News.add (News.add N (hs1 _ hm)) (.tail _ ho)
  refine wpAny_call ?_
  k_dflt ktr_enter
  all_goals (try (with_reducible rename News _ _ _ _ => nL9; refine led_let nL9 ?_; clear nL9; intro Y0 N9))
  k_steps
  refine hret _ _ _ _ (by k_asm) (by k_asm) ⟨by tb_start, ?_⟩
  (repeat (with_reducible rename _ ∧ _ => hc; (have hcl := hc.1); (have hcr := hc.2); clear hc))
  dsimp only [smD, Sm.map]
  tb_rel
theorem sm_live (hσ : ∀ x t, σ x = some t → t.dp ≤ 4)   : SmOk w loose mean mg mb σ .live := by
  intro v D₁ D₂ news d o kvs hv ht ho hdi hlo hs1 hs2
  unfold CallOk
  intro dp un gd cn cs a ccd cl outer A₀ base h₀ L m s Q E B F X N T hk hdp hun hret
  obtain ⟨b, w1, w2, n, rfl, hm, h1, h2⟩ := in_tup2 hv
  obtain ⟨t1, rfl⟩ := in_str h1
  replace N := News.add (News.add N (hs1 _ hm)) (.tail _ ho)
  refine wpAny_call ?_
  k_dflt ktr_enter
  all_goals (try (with_reducible rename News _ _ _ _ => nL9; refine led_let nL9 ?_; clear nL9; intro Y0 N9))
  k_steps
  refine hret _ _ _ _ (by k_asm) (by k_asm) ⟨by tb_start, ?_⟩
  (repeat (with_reducible rename _ ∧ _ => hc; (have hcl := hc.1); (have hcr := hc.2); clear hc))
  exact datP_in hv (by kqd_sub)
theorem sm_dead (hσ : ∀ x t, σ x = some t → t.dp ≤ 4)   : SmOk w loose mean mg mb σ .dead := by
  intro v D₁ D₂ news d o kvs hv ht ho hdi hlo hs1 hs2
  unfold CallOk
  intro dp un gd cn cs a ccd cl outer A₀ base h₀ L m s Q E B F X N T hk hdp hun hret
  obtain ⟨b, w1, w2, n, rfl, hm, h1, h2⟩ := in_tup2 hv
  obtain ⟨t1, rfl⟩ := in_str h1
  replace N := News.add (News.add N (hs1 _ hm)) (.tail _ ho)
  refine wpAny_call ?_
  k_dflt ktr_enter
  all_goals (try (with_reducible rename News _ _ _ _ => nL9; refine led_let nL9 ?_; clear nL9; intro Y0 N9))
  k_steps
  refine hret _ _ _ _ (by k_asm) (by k_asm) ⟨by tb_start, ?_⟩
  (repeat (with_reducible rename _ ∧ _ => hc; (have hcl := hc.1); (have hcr := hc.2); clear hc))
  exact datP_in hv (by kqd_sub)
theorem sm_nop (hσ : ∀ x t, σ x = some t → t.dp ≤ 4)   : SmOk w loose mean mg mb σ .nop := by
  intro v D₁ D₂ news d o kvs hv ht ho hdi hlo hs1 hs2
  unfold CallOk
  intro dp un gd cn cs a ccd cl outer A₀ base h₀ L m s Q E B F X N T hk hdp hun hret
  obtain ⟨b, w1, n, rfl, hm, h1⟩ := in_tup1 hv
  obtain ⟨t1, rfl⟩ := in_str h1
  replace N := News.add (News.add N (hs1 _ hm)) (.tail _ ho)
  refine wpAny_call ?_
  k_dflt ktr_enter
  all_goals (try (with_reducible rename News _ _ _ _ => nL9; refine led_let nL9 ?_; clear nL9; intro Y0 N9))
  k_steps
  refine hret _ _ _ _ (by k_asm) (by k_asm) ⟨by tb_start, ?_⟩
  (repeat (with_reducible rename _ ∧ _ => hc; (have hcl := hc.1); (have hcr := hc.2); clear hc))
  exact datP_in hv (by kqd_sub)
theorem sm_ok (hσ : ∀ x t, σ x = some t → t.dp ≤ 4) : ∀ sm : Sm, sm.fits → SmOk w loose mean mg mb σ sm
  | .asg _, h => sm_asg hσ h
  | .prt _, h => sm_prt hσ h
  | .live, _ => sm_live hσ
  | .dead, _ => sm_dead hσ
  | .nop, _ => sm_nop hσ
end
end Mine
namespace Mine
example : True := by
  w_top off
  k_with_none
  trivial

section
variable {w : World} {loose : List Str} {mean : ExcName → Option Value} {mg mb : Str → Option Value}
theorem mine_fdiv_le {x t : Int} (hx : 0 ≤ x) (ht : 0 < t) : x.fdiv t ≤ x := by
  rw [Int.fdiv_eq_ediv_of_nonneg _ (Int.le_of_lt ht)]
  exact Int.ediv_le_self _ hx
theorem mine_mul_ok {a : Int} (b : Int) (h0 : 0 ≤ a) (h1 : a < 2147483647) : IntMulOk a b :=
  IntMulOk.of_left (intBits_le_64 (by omega) (by omega))
def DipPost (j : Addr) (n : Nat) (rest : List (Addr × Obj)) (top : Int) (r : Value) (l : List (Addr × Obj)) : Prop :=
  ∃ k tk x tx y ty, r = .int k tk ∧ 0 ≤ k ∧ k < top ∧ JarOk x y ∧ l = (j, jarO x tx y ty n) :: rest
def OnePost (j : Addr) (n : Nat) (rest : List (Addr × Obj)) (vs : List Value) (r : Value) (l : List (Addr × Obj)) : Prop :=
  ∃ x tx y ty, r ∈ vs ∧ JarOk x y ∧ l = (j, jarO x tx y ty n) :: rest
section
example : True := by
  k_with_none
  k_with "subscriptTail" =>
   ((k_here; (with_reducible show wpAny _ _ (subscriptTail _ _ (Value.ref _) (Value.int _ _)) _ _ _); k_dflt (first
   | (refine' my_tup ?Z0 ?Z1 ?Z2 ?Z3 ?Z4 ?Z5 ?_; (case Z0 => k_asm); (case Z1 => k_mem); (case Z2 | Z3 => decide); (case Z4 | Z5 => rfl); k_whole)
   | (refine' my_lst ?Z0 ?Z1 ?Z2 ?Z3 ?Z5 ?_; (case Z0 => k_asm); (case Z1 => k_mem); (case Z2 | Z3 => decide); (case Z5 => rfl); k_whole))))
  k_with "eval Name" =>
   ((k_here; k_dflt (refine' nameX_L ?Z6 ?Z7 ?_; (case Z6 => k_asm); (case Z7 => exact rfl); k_whole)))
  k_with "w_k_all" =>
   (first | assumption | ((show Off _ _); kqd_all))
  k_with "w_k_room" =>
   (ktr_room)
  k_with "execs cons" =>
   (k_here; (try k_gentoks); (first | ((fail_if_success (fail_if_success k_fold)); (with_reducible refine' ec_let2 ?_); intro q0 e0 K0) | ((with_reducible refine' ec_let ?_); intro K0)); (all_goals (try ((with_reducible rename Fr _ _ _ (fun _ => ite _ _ _) => f9); refine fr_let f9 ?_; clear f9; intro m0 F0))); (try dsimp only))
  k_with "eval Constant str" =>
   (with_reducible refine' con_str ?_)
  k_with "eval Constant int" =>
   (with_reducible refine' con_int ?_)
  k_with "newTuple" =>
   (k_here; k_dflt (refine' tup_let ?z30 ?z4 ?z0 ?_; (case z30 | z4 => k_asm); (case z0 => kmk_size)); intro D' h' e' Y' F' N' l1; (try k_sweep))
  k_with "newList" =>
   (k_here; k_dflt (refine' lst_let ?z30 ?z4 ?z0 ?_; (case z30 | z4 => k_asm); (case z0 => kmk_size)); intro D' h' e' Y' F' N' l1; (try k_sweep))
  k_with "binaryOp Add ref ref" =>
   (k_here; (with_reducible show wpAny _ _ (binaryOp Operator.Add (Value.ref _) (Value.ref _)) _ _ _); k_dflt (refine' kde_addT ?z1 ?z27 ?z25 ?z2 ?z18 ?z23 ?z21 ?z24 ?_; (case z1 | z27 => k_asm); (case z25 | z2 => exact News.isTup (by k_asm) (by k_mem)); (case z18 | z23 => exact List.cons_ne_nil _ _); (case z21 => exact Nat.le_of_ble_eq_true rfl); (case z24 => kun_lit)); intro D' h' F' N' l1; (replace l1 := allLt_of l1); (try k_sweep))
  k_with "k_up" =>
   (first
   | with_reducible exact hp
   | ((with_reducible refine List.mem_cons_of_mem _ ?_); k_extra "k_up")
   | ((with_reducible refine List.mem_append_left _ ?_); k_extra "k_up")
   | ((with_reducible refine List.mem_append_right _ ?_); k_extra "k_up")
   | fail)
  k_with "w_tb_start" =>
   (first
   | exact sub_nil
   | (intro p hp; k_extra "k_up")
   | (refine' sub_trans ?z28 ?z13; (case z28 => with_reducible assumption); (case z13 => (intro p hp; k_extra "k_up")))
   | ((with_reducible refine sub_app ?_ ?_) <;> tb_start)
   | ((with_reducible refine sub_cons ?_ ?_); k_mem; tb_start)
   | fail)
  k_with "w_k_mem" =>
   (focus ((repeat (with_reducible first | exact List.mem_cons_self | refine List.mem_cons_of_mem _ ?_ | refine List.mem_append_left _ ?_)); done))
  k_with "w_kqd_sub" =>
   (with_reducible first
   | exact gdJ_nil
   | (refine' gdJ_app ?_ ?_ <;> kqd_sub)
   | (refine' gd_app ?_ ?_ <;> kqd_sub)
   | (refine' gdJ_new ?z32 ?z12 ?z22 ?z9; (case z12 | z22 => assumption); (case z32 | z9 => k_dflt tb_start))
   | (refine' gd_new ?z32 ?z12 ?z9; (case z12 => assumption); (case z32 | z9 => k_dflt tb_start))
   | (refine' gd_cons0 ?z15 ?z10; (case z15 => first | (refine' gd_had ?z31 ?z38; (case z38 => assumption); (case z31 => k_dflt k_mem)) | (refine' gd_one ?z31 ?z38 ?z37; (case z38 => assumption); (case z31 => k_dflt k_mem); (case z37 => k_dflt tb_start))); (case z10 => kqd_sub))
   | (refine' gdJ_old ?z32 ?z9; (case z9 | z32 => k_dflt tb_start))
   | (refine' gd_old ?z32 ?z9; (case z9 | z32 => k_dflt tb_start))
   | fail)
  k_with "w_tb_rel" =>
   (with_reducible first
   | exact DatP.none
   | exact DatP.bool _
   | exact DatP.int _ _
   | exact DatP.str _ _
   | exact DatPs.nil
   | (refine' DatPs.cons ?_ ?_ <;> first | ((with_reducible show DatP _ _ _); tb_rel) | ((with_reducible show DatPs _ _ _); tb_rel) | ((with_reducible show Dat); skip) | ((with_reducible show List Dat); skip))
   | (refine' datP_in ?z5 ?z37; (case z5 => assumption); (case z37 => k_dflt kqd_sub))
   | (refine' datP_gdJ ?z31 ?z34 ?z35; (case z31 => k_dflt k_mem); (case z34 => first | (refine' gdJ_had ?z31 ?z38; (case z38 => assumption); (case z31 => k_dflt k_mem)) | (refine' gdJ_one ?z31 ?z38 ?z37 ?z19; (case z38 => assumption); (case z31 => k_dflt k_mem); (case z37 => k_dflt tb_start); (case z19 => k_dflt (k_extra "k_ltA")))); (case z35 => tb_rel))
   | (refine' datP_gd ?z31 ?z34 ?z35; (case z31 => k_dflt k_mem); (case z34 => first | (refine' gd_had ?z31 ?z38; (case z38 => assumption); (case z31 => k_dflt k_mem)) | (refine' gd_one ?z31 ?z38 ?z37; (case z38 => assumption); (case z31 => k_dflt k_mem); (case z37 => k_dflt tb_start))); (case z35 => tb_rel))
   | fail)
  k_with "w_lcg_off" =>
   (with_reducible first
   | assumption
   | exact off3_nil
   | (refine' off3_app ?_ ?_ <;> lcg_off)
   | (refine' off3_any ?z40 ?z14 ?z3; (case z40 => assumption); (case z14 => k_dflt k_mem); (case z3 => lcg_off))
   | (refine' off3_cons ⟨?z42, ?z16, ?z17⟩ ?z3; (case z42 | z16 | z17 => k_dflt k_ne); (case z3 => lcg_off))
   | (refine' off3_above ?z40 ?z42 ?z16 ?z17; (case z40 => assumption); (case z42 | z16 | z17 => k_dflt k_mem))
   | (refine' off3_sub ?z40 ?z3; (case z40 => assumption); (case z3 => k_dflt tb_start))
   | fail)
  k_with "w_ktr_room" =>
   ((try simp only [depth_under_make, depth_under_kw, depth_in1, depth_deeper, depth_caller]); (try dsimp only [ktrTop]); with_reducible first
   | (refine' room2 ?z11 ?z20; (case z11 => assumption); (case z20 => k_dflt (first | exact Nat.le_of_ble_eq_true rfl | omega)))
   | (refine' room1 ?z11 ?z20; (case z11 => assumption); (case z20 => k_dflt (first | exact Nat.le_of_ble_eq_true rfl | omega)))
   | (refine' room0 ?z11; (case z11 => assumption))
   | fail)
  k_with "w_ktr_units" =>
   ((try simp only [units_in1, units_deeper, Around.mark_units, units_caller]); (try dsimp only [ktrTop]); with_reducible first
   | (refine' unit2 ?z11 ?z20; (case z11 => assumption); (case z20 => k_dflt (first | exact Nat.le_of_ble_eq_true rfl | omega)))
   | (refine' unit1 ?z11 ?z20; (case z11 => assumption); (case z20 => k_dflt (first | exact Nat.le_of_ble_eq_true rfl | omega)))
   | fail)
  k_with "k_ltA" =>
   (first
   | (refine' lt_all ?z6 ?z36; (case z6 => with_reducible assumption); (case z36 => k_mem))
   | (refine ltN ?_; omega))
  k_with "w_kqd_all" =>
   (with_reducible first
   | assumption
   | exact off_nil
   | (refine' off_cons ?z29 ?z39; (case z29 => k_dflt k_ne); (case z39 => kqd_all))
   | (refine' off_app ?_ ?_ <;> kqd_all)
   | (refine' off_sub ?z8 ?z7; (case z8 => assumption); (case z7 => k_dflt tb_start))
   | (refine' off_above ?z8 ?z7; (case z8 => assumption); (case z7 => k_dflt k_mem))
   | (refine' off_lt ?z8 ?z33 ?z7; (case z8 => assumption); (case z33 => k_dflt ((show (_ : Nat) ≤ _); omega)); (case z7 => k_dflt tb_start))
   | (refine' off_o3a ?z8 ?z7; (case z8 => assumption); (case z7 => k_dflt tb_start))
   | (refine' off_o3b ?z8 ?z7; (case z8 => assumption); (case z7 => k_dflt tb_start))
   | (refine' off_o3c ?z8 ?z7; (case z8 => assumption); (case z7 => k_dflt tb_start))
   | (refine' off_o1 ?z8 ?z7; (case z8 => assumption); (case z7 => k_dflt tb_start))
   | fail)
  k_with "w_k_ne" =>
   (first
   | with_reducible assumption
   | (refine' ne_all ?z6 ?z36; (case z6 => with_reducible assumption); (case z36 => k_mem))
   | (refine' ne_all2 ?z6 ?z36; (case z6 => with_reducible assumption); (case z36 => k_mem))
   | (refine' Ne.symm ?z6; (case z6 => with_reducible assumption))
   | (refine' ne_o3a ?z6 ?z36; (case z6 => with_reducible assumption); (case z36 => k_mem))
   | (refine' ne_o3b ?z6 ?z36; (case z6 => with_reducible assumption); (case z36 => k_mem))
   | (refine' ne_o3c ?z6 ?z36; (case z6 => with_reducible assumption); (case z36 => k_mem))
   | (refine' ne_o3a' ?z6 ?z36; (case z6 => with_reducible assumption); (case z36 => k_mem))
   | (refine' ne_o3b' ?z6 ?z36; (case z6 => with_reducible assumption); (case z36 => k_mem))
   | (refine' ne_o3c' ?z6 ?z36; (case z6 => with_reducible assumption); (case z36 => k_mem))
   | (refine' ne_o1 ?z6 ?z36; (case z6 => with_reducible assumption); (case z36 => k_mem))
   | (refine' ne_o1' ?z6 ?z36; (case z6 => with_reducible assumption); (case z36 => k_mem))
   | (refine' ne_of_lt' ?z6; (case z6 => with_reducible assumption))
   | (refine' ne_of_gt' ?z6; (case z6 => with_reducible assumption))
   | (refine' ne_tr ?z41 ?z6 ?z36; (case z41 | z6 => with_reducible assumption); (case z36 => k_mem))
   | (refine' ne_trs ?z41 ?z6 ?z36; (case z41 | z6 => with_reducible assumption); (case z36 => k_mem))
   | (refine' ne_tr2 ?z41 ?z26 ?z6 ?z36; (case z41 | z26 | z6 => with_reducible assumption); (case z36 => k_mem))
   | (refine' ne_tr2s ?z41 ?z26 ?z6 ?z36; (case z41 | z26 | z6 => with_reducible assumption); (case z36 => k_mem))
   | (with_reducible refine' ne_up1 ?z6 ?z36; (case z6 => assumption); (case z36 => k_dflt k_mem))
   | (with_reducible refine' ne_up2 ?z6 ?z36; (case z6 => assumption); (case z36 => k_dflt k_mem))
   | (with_reducible refine' ne_up3 ?z6 ?z36; (case z6 => assumption); (case z36 => k_dflt k_mem))
   | (with_reducible refine' ne_dn1 ?z6 ?z36; (case z6 => assumption); (case z36 => k_dflt k_mem))
   | (with_reducible refine' ne_dn2 ?z6 ?z36; (case z6 => assumption); (case z36 => k_dflt k_mem))
   | (with_reducible refine' ne_dn3 ?z6 ?z36; (case z6 => assumption); (case z36 => k_dflt k_mem))
   | fail)
  k_with "pack" =>
   skip
  trivial
theorem dip_ok {j : Addr} {x y top : Int} {tx ty t : Tok} {n : Nat} {rest : List (Addr × Obj)} (ok : JarOk x y) (ht : 0 < top) (ht2 : top ≤ 16) (off : Off j rest) : CallOk PySem.Challenge.rw_xm0591_01.row.prog w (hd.heap_1 w.params) topProg loose mean mg mb 5 175 [.ref j, .int top t] ((j, jarO x tx y ty n) :: rest) (DipPost j n rest top) := by
  obtain ⟨hx, hy, hy'⟩ := ok
  have hoff : ∀ p ∈ rest, p.1 ≠ j := off
  unfold CallOk
  intro dp un gd cn cs a ccd cl outer A₀ base h₀ L m s Q E B F X N T hk hdp hun hret
  refine wpAny_call ?_
  k_dflt ktr_enter
  all_goals (try (with_reducible rename News _ _ _ _ => nL9; refine led_let nL9 ?_; clear nL9; intro Y0 N9))
  k_steps
  any_goals ((with_reducible show wpAny _ _ (binaryOp _ _ _) _ _ _); refine mul_int ?_ (mine_mul_ok _ (by exact fmod_lo _ (by decide)) (by exact fmod_hi _ (by decide))); k_steps)
  all_goals (refine hret _ _ _ _ (by k_asm) (by k_asm) ⟨_, _, _, _, _, _, rfl, ?_, ?_, ⟨?_, ?_, ?_⟩, rfl⟩)
  all_goals (try simp only [Int.toNat_zero, Int.toNat_one, Int.reduceToNat, List.getD_cons_zero, List.getD_cons_succ])
  all_goals with_reducible first
    | exact fmod_lo _ ht
    | exact fmod_hi _ ht
    | exact fmod_lo _ (by decide)
    | exact fmod_hi _ (by decide)
    | exact Int.fdiv_nonneg hx (Int.le_of_lt ht)
    | exact hx
    | exact hy
    | exact hy'
end
example : True := by
  k_with_none
  trivial
theorem dip_use {top : Int} {t : Tok} {j : Addr} {x y : Int} {tx ty : Tok} {n : Nat} {news rest : List (Addr × Obj)} {dp un : Nat} {gd : Option (List Code)} {cn : Str} {cs : Scope} {a : Addr} {ccd : Value} {cl : List (Str × Addr)} {outer : List Env} {A₀ : Around} {base h₀ : Heap} {L : Addr} {m : Str → Option Value} {hS : Heap} {gS : Array GenState} {dS : Drawn} {tS : Nat} {oS : OsState} {Q E : Value → Shared → Prop}
  (P : Pull (j, jarO x tx y ty n) news rest) (ok : JarOk x y) (off : Off j rest) (ht : 0 < top) (ht2 : top ≤ 16) (B : Below A₀ base outer h₀) (F : Fr h₀ L hS m) (X : (hd.heap_1 w.params).In h₀) (N : News h₀ L hS news) (T : Top topProg loose mean mg mb h₀) (hk : cs.kind = .function) (hr : dp + 5 < recursionLimit) (hu : un + 8 * 5 < cLine)
  (ret : ∀ k tk h' tk' x' tx' y' ty', JarOk x' y' → Fr h₀ L h' m → News h₀ L h' ((j, jarO x' tx' y' ty' n) :: (rest)) → 0 ≤ k → k < top → Q (.int k tk) ⟨h', gS, dS, tk', oS⟩) : wpAny (model PySem.Challenge.rw_xm0591_01.row.prog w) (ktrTop dp un gd cn cs L a ccd cl outer) (call (.ref 175) [.ref j, .int top t]) Q E ⟨hS, gS, dS, tS, oS⟩ :=
  dip_ok ok ht ht2 off _ _ _ _ _ _ _ _ _ _ _ _ _ _ _ _ _ B F X (News.sub N P.mem) T hk hr hu fun r l h' tk' F' N' hp => by
    obtain ⟨k, tk, x', tx', y', ty', rfl, h0, h1, ok', rfl⟩ := hp
    exact ret k tk h' tk' x' tx' y' ty' ok' F' N' h0 h1
theorem my_lst_at {prog : Program} {A : Around} {E : Value → Shared → Prop} {s : Shared} {h₀ : Heap} {L a : Addr} {news : List (Addr × Obj)} {Q : Value → Shared → Prop} {value slice : PySem.Expr} {vs : List Value} {n : Nat} {k : Int} {u : Tok} (N : News h₀ L s.heap news) (hm : (a, listOf vs.toArray n) ∈ news) (h0 : 0 ≤ k) (hk : k < vs.length) (hz : vs.length ≤ 16) (h : ∀ v, v ∈ vs → Q v s)
    (hs : subscripted slice false (.ref a) (.int k u) = operate [.ref a, .int k u] (getItem (.ref a) (.int k u)) := by with_unfolding_all rfl) :
    wpAny (model prog w) A (subscriptTail value slice (.ref a) (.int k u)) Q E s := by
  have hlt : k.toNat < vs.length := by omega
  exact my_lst N hm h0 (by omega) (List.getElem?_eq_getElem hlt) (h _ (List.getElem_mem hlt)) hs
theorem my_len {prog : Program} {A : Around} {E : Value → Shared → Prop} {s : Shared} {h₀ : Heap} {L a : Addr} {news : List (Addr × Obj)} {Q : Value → Shared → Prop} {vs : List Value} {n : Nat} (N : News h₀ L s.heap news) (hm : (a, listOf vs.toArray n) ∈ news) (hz : vs.length ≤ 16) (h : Q (.int vs.length (s.toks + 1)) { s with toks := s.toks + 1 + 1 }) :
    wpAny (model prog w) A (call (.builtin "len") [.ref a]) Q E s := by
  have hl : s.heap.IsList a vs.toArray := ⟨_, (N _ hm).1, rfl, n, rfl⟩
  refine len_list hl (by simp; omega) ?_
  simpa using h
section
example : True := by
  k_with_none
  k_with "subscriptTail" =>
   ((k_here; (with_reducible show wpAny _ _ (subscriptTail _ _ (Value.ref _) (Value.int _ _)) _ _ _); k_dflt (first
   | (refine' my_tup ?Z8 ?Z9 ?Za ?Zb ?Zc ?Zd ?_; (case Z8 => k_asm); (case Z9 => k_mem); (case Za | Zb => decide); (case Zc | Zd => rfl); k_whole)
   | (refine' my_lst ?Z8 ?Z9 ?Za ?Zb ?Zd ?_; (case Z8 => k_asm); (case Z9 => k_mem); (case Za | Zb => decide); (case Zd => rfl); k_whole))))
  k_with "eval Name" =>
   ((k_here; k_dflt (refine' nameX_L ?Ze ?Zf ?_; (case Ze => k_asm); (case Zf => exact rfl); k_whole)))
  k_with "w_k_all" =>
   (first | assumption | ((show Off _ _); kqd_all))
  k_with "w_k_room" =>
   (ktr_room)
  k_with "call ref" =>
   ((k_here; (with_reducible show wpAny _ _ (call (Value.ref 175) _) _ _ _); k_dflt (refine' dip_use ?Zg ?Zh ?Zi ?Zj ?Zk ?Zl ?Zm ?Zn ?Zo ?Zp ?Zq ?Zr ?Zs ?_; (case Zm | Zo => k_asm); (case Zg => (repeat (first | exact Pull.head | apply Pull.tail))); (case Zh => k_asm); (case Zi => kqd_all); (case Zj | Zk => omega); (case Zl | Zn | Zp => k_asm); (case Zq => first | exact rfl | with_reducible assumption); (case Zr => ktr_room); (case Zs => ktr_units)); intro k9 tk9 h9 tk9' x9 tx9 y9 ty9 ok9 F9 N9 lo9 hi9; (try simp only [List.nil_append, List.cons_append, List.append_nil] at N9); (try dsimp only); (try k_fold)))
  k_with "call builtin:len" =>
   ((k_here; k_dflt (refine' my_len ?Zt ?Zu ?Zv ?_; (case Zt => k_asm); (case Zu => k_mem); (case Zv => k_asm))))
  k_with "subscriptTail Name Call" =>
   ((k_here; k_dflt (refine' my_lst_at ?Zw ?Zx ?Zy ?Zz ?Z10 ?_; (case Zw => k_asm); (case Zx => k_mem); (case Zy | Zz => omega); (case Z10 => k_asm)); intro v9 hv9))
  k_with "execs cons" =>
   (k_here; (try k_gentoks); (first | ((fail_if_success (fail_if_success k_fold)); (with_reducible refine' ec_let2 ?_); intro q0 e0 K0) | ((with_reducible refine' ec_let ?_); intro K0)); (all_goals (try ((with_reducible rename Fr _ _ _ (fun _ => ite _ _ _) => f9); refine fr_let f9 ?_; clear f9; intro m0 F0))); (try dsimp only))
  k_with "eval Constant str" =>
   (with_reducible refine' con_str ?_)
  k_with "eval Constant int" =>
   (with_reducible refine' con_int ?_)
  k_with "newTuple" =>
   (k_here; k_dflt (refine' tup_let ?z30 ?z4 ?z0 ?_; (case z30 | z4 => k_asm); (case z0 => kmk_size)); intro D' h' e' Y' F' N' l1; (try k_sweep))
  k_with "newList" =>
   (k_here; k_dflt (refine' lst_let ?z30 ?z4 ?z0 ?_; (case z30 | z4 => k_asm); (case z0 => kmk_size)); intro D' h' e' Y' F' N' l1; (try k_sweep))
  k_with "binaryOp Add ref ref" =>
   (k_here; (with_reducible show wpAny _ _ (binaryOp Operator.Add (Value.ref _) (Value.ref _)) _ _ _); k_dflt (refine' kde_addT ?z1 ?z27 ?z25 ?z2 ?z18 ?z23 ?z21 ?z24 ?_; (case z1 | z27 => k_asm); (case z25 | z2 => exact News.isTup (by k_asm) (by k_mem)); (case z18 | z23 => exact List.cons_ne_nil _ _); (case z21 => exact Nat.le_of_ble_eq_true rfl); (case z24 => kun_lit)); intro D' h' F' N' l1; (replace l1 := allLt_of l1); (try k_sweep))
  k_with "k_up" =>
   (first
   | with_reducible exact hp
   | ((with_reducible refine List.mem_cons_of_mem _ ?_); k_extra "k_up")
   | ((with_reducible refine List.mem_append_left _ ?_); k_extra "k_up")
   | ((with_reducible refine List.mem_append_right _ ?_); k_extra "k_up")
   | fail)
  k_with "w_tb_start" =>
   (first
   | exact sub_nil
   | (intro p hp; k_extra "k_up")
   | (refine' sub_trans ?z28 ?z13; (case z28 => with_reducible assumption); (case z13 => (intro p hp; k_extra "k_up")))
   | ((with_reducible refine sub_app ?_ ?_) <;> tb_start)
   | ((with_reducible refine sub_cons ?_ ?_); k_mem; tb_start)
   | fail)
  k_with "w_k_mem" =>
   (focus ((repeat (with_reducible first | exact List.mem_cons_self | refine List.mem_cons_of_mem _ ?_ | refine List.mem_append_left _ ?_)); done))
  k_with "w_kqd_sub" =>
   (with_reducible first
   | exact gdJ_nil
   | (refine' gdJ_app ?_ ?_ <;> kqd_sub)
   | (refine' gd_app ?_ ?_ <;> kqd_sub)
   | (refine' gdJ_new ?z32 ?z12 ?z22 ?z9; (case z12 | z22 => assumption); (case z32 | z9 => k_dflt tb_start))
   | (refine' gd_new ?z32 ?z12 ?z9; (case z12 => assumption); (case z32 | z9 => k_dflt tb_start))
   | (refine' gd_cons0 ?z15 ?z10; (case z15 => first | (refine' gd_had ?z31 ?z38; (case z38 => assumption); (case z31 => k_dflt k_mem)) | (refine' gd_one ?z31 ?z38 ?z37; (case z38 => assumption); (case z31 => k_dflt k_mem); (case z37 => k_dflt tb_start))); (case z10 => kqd_sub))
   | (refine' gdJ_old ?z32 ?z9; (case z9 | z32 => k_dflt tb_start))
   | (refine' gd_old ?z32 ?z9; (case z9 | z32 => k_dflt tb_start))
   | fail)
  k_with "w_tb_rel" =>
   (with_reducible first
   | exact DatP.none
   | exact DatP.bool _
   | exact DatP.int _ _
   | exact DatP.str _ _
   | exact DatPs.nil
   | (refine' DatPs.cons ?_ ?_ <;> first | ((with_reducible show DatP _ _ _); tb_rel) | ((with_reducible show DatPs _ _ _); tb_rel) | ((with_reducible show Dat); skip) | ((with_reducible show List Dat); skip))
   | (refine' datP_in ?z5 ?z37; (case z5 => assumption); (case z37 => k_dflt kqd_sub))
   | (refine' datP_gdJ ?z31 ?z34 ?z35; (case z31 => k_dflt k_mem); (case z34 => first | (refine' gdJ_had ?z31 ?z38; (case z38 => assumption); (case z31 => k_dflt k_mem)) | (refine' gdJ_one ?z31 ?z38 ?z37 ?z19; (case z38 => assumption); (case z31 => k_dflt k_mem); (case z37 => k_dflt tb_start); (case z19 => k_dflt (k_extra "k_ltA")))); (case z35 => tb_rel))
   | (refine' datP_gd ?z31 ?z34 ?z35; (case z31 => k_dflt k_mem); (case z34 => first | (refine' gd_had ?z31 ?z38; (case z38 => assumption); (case z31 => k_dflt k_mem)) | (refine' gd_one ?z31 ?z38 ?z37; (case z38 => assumption); (case z31 => k_dflt k_mem); (case z37 => k_dflt tb_start))); (case z35 => tb_rel))
   | fail)
  k_with "w_lcg_off" =>
   (with_reducible first
   | assumption
   | exact off3_nil
   | (refine' off3_app ?_ ?_ <;> lcg_off)
   | (refine' off3_any ?z40 ?z14 ?z3; (case z40 => assumption); (case z14 => k_dflt k_mem); (case z3 => lcg_off))
   | (refine' off3_cons ⟨?z42, ?z16, ?z17⟩ ?z3; (case z42 | z16 | z17 => k_dflt k_ne); (case z3 => lcg_off))
   | (refine' off3_above ?z40 ?z42 ?z16 ?z17; (case z40 => assumption); (case z42 | z16 | z17 => k_dflt k_mem))
   | (refine' off3_sub ?z40 ?z3; (case z40 => assumption); (case z3 => k_dflt tb_start))
   | fail)
  k_with "w_ktr_room" =>
   ((try simp only [depth_under_make, depth_under_kw, depth_in1, depth_deeper, depth_caller]); (try dsimp only [ktrTop]); with_reducible first
   | (refine' room2 ?z11 ?z20; (case z11 => assumption); (case z20 => k_dflt (first | exact Nat.le_of_ble_eq_true rfl | omega)))
   | (refine' room1 ?z11 ?z20; (case z11 => assumption); (case z20 => k_dflt (first | exact Nat.le_of_ble_eq_true rfl | omega)))
   | (refine' room0 ?z11; (case z11 => assumption))
   | fail)
  k_with "w_ktr_units" =>
   ((try simp only [units_in1, units_deeper, Around.mark_units, units_caller]); (try dsimp only [ktrTop]); with_reducible first
   | (refine' unit2 ?z11 ?z20; (case z11 => assumption); (case z20 => k_dflt (first | exact Nat.le_of_ble_eq_true rfl | omega)))
   | (refine' unit1 ?z11 ?z20; (case z11 => assumption); (case z20 => k_dflt (first | exact Nat.le_of_ble_eq_true rfl | omega)))
   | fail)
  k_with "k_ltA" =>
   (first
   | (refine' lt_all ?z6 ?z36; (case z6 => with_reducible assumption); (case z36 => k_mem))
   | (refine ltN ?_; omega))
  k_with "w_kqd_all" =>
   (with_reducible first
   | assumption
   | exact off_nil
   | (refine' off_cons ?z29 ?z39; (case z29 => k_dflt k_ne); (case z39 => kqd_all))
   | (refine' off_app ?_ ?_ <;> kqd_all)
   | (refine' off_sub ?z8 ?z7; (case z8 => assumption); (case z7 => k_dflt tb_start))
   | (refine' off_above ?z8 ?z7; (case z8 => assumption); (case z7 => k_dflt k_mem))
   | (refine' off_lt ?z8 ?z33 ?z7; (case z8 => assumption); (case z33 => k_dflt ((show (_ : Nat) ≤ _); omega)); (case z7 => k_dflt tb_start))
   | (refine' off_o3a ?z8 ?z7; (case z8 => assumption); (case z7 => k_dflt tb_start))
   | (refine' off_o3b ?z8 ?z7; (case z8 => assumption); (case z7 => k_dflt tb_start))
   | (refine' off_o3c ?z8 ?z7; (case z8 => assumption); (case z7 => k_dflt tb_start))
   | (refine' off_o1 ?z8 ?z7; (case z8 => assumption); (case z7 => k_dflt tb_start))
   | fail)
  k_with "w_k_ne" =>
   (first
   | with_reducible assumption
   | (refine' ne_all ?z6 ?z36; (case z6 => with_reducible assumption); (case z36 => k_mem))
   | (refine' ne_all2 ?z6 ?z36; (case z6 => with_reducible assumption); (case z36 => k_mem))
   | (refine' Ne.symm ?z6; (case z6 => with_reducible assumption))
   | (refine' ne_o3a ?z6 ?z36; (case z6 => with_reducible assumption); (case z36 => k_mem))
   | (refine' ne_o3b ?z6 ?z36; (case z6 => with_reducible assumption); (case z36 => k_mem))
   | (refine' ne_o3c ?z6 ?z36; (case z6 => with_reducible assumption); (case z36 => k_mem))
   | (refine' ne_o3a' ?z6 ?z36; (case z6 => with_reducible assumption); (case z36 => k_mem))
   | (refine' ne_o3b' ?z6 ?z36; (case z6 => with_reducible assumption); (case z36 => k_mem))
   | (refine' ne_o3c' ?z6 ?z36; (case z6 => with_reducible assumption); (case z36 => k_mem))
   | (refine' ne_o1 ?z6 ?z36; (case z6 => with_reducible assumption); (case z36 => k_mem))
   | (refine' ne_o1' ?z6 ?z36; (case z6 => with_reducible assumption); (case z36 => k_mem))
   | (refine' ne_of_lt' ?z6; (case z6 => with_reducible assumption))
   | (refine' ne_of_gt' ?z6; (case z6 => with_reducible assumption))
   | (refine' ne_tr ?z41 ?z6 ?z36; (case z41 | z6 => with_reducible assumption); (case z36 => k_mem))
   | (refine' ne_trs ?z41 ?z6 ?z36; (case z41 | z6 => with_reducible assumption); (case z36 => k_mem))
   | (refine' ne_tr2 ?z41 ?z26 ?z6 ?z36; (case z41 | z26 | z6 => with_reducible assumption); (case z36 => k_mem))
   | (refine' ne_tr2s ?z41 ?z26 ?z6 ?z36; (case z41 | z26 | z6 => with_reducible assumption); (case z36 => k_mem))
   | (with_reducible refine' ne_up1 ?z6 ?z36; (case z6 => assumption); (case z36 => k_dflt k_mem))
   | (with_reducible refine' ne_up2 ?z6 ?z36; (case z6 => assumption); (case z36 => k_dflt k_mem))
   | (with_reducible refine' ne_up3 ?z6 ?z36; (case z6 => assumption); (case z36 => k_dflt k_mem))
   | (with_reducible refine' ne_dn1 ?z6 ?z36; (case z6 => assumption); (case z36 => k_dflt k_mem))
   | (with_reducible refine' ne_dn2 ?z6 ?z36; (case z6 => assumption); (case z36 => k_dflt k_mem))
   | (with_reducible refine' ne_dn3 ?z6 ?z36; (case z6 => assumption); (case z36 => k_dflt k_mem))
   | fail)
  k_with "pack" =>
   skip
  trivial
theorem one_ok {j a : Addr} {x y : Int} {tx ty : Tok} {n k : Nat} {vs : List Value} {rest : List (Addr × Obj)} (ok : JarOk x y) (hm : (a, listOf (List.toArray vs) k) ∈ rest) (hne : 0 < vs.length) (hz : vs.length ≤ 16) (off : Off j rest) : CallOk PySem.Challenge.rw_xm0591_01.row.prog w (hd.heap_1 w.params) topProg loose mean mg mb 9 182 [.ref j, .ref a] ((j, jarO x tx y ty n) :: rest) (OnePost j n rest vs) := by
  unfold CallOk
  intro dp un gd cn cs a' ccd cl outer A₀ base h₀ L m s Q E B F X N T hk hdp hun hret
  replace N := News.add N (.tail _ hm)
  have haj : @Ne Nat a j := off _ hm
  refine wpAny_call ?_
  k_dflt ktr_enter
  all_goals (try (with_reducible rename News _ _ _ _ => nL9; refine led_let nL9 ?_; clear nL9; intro Y0 N9))
  k_steps
  refine hret _ ((j, jarO _ _ _ _ n) :: rest) _ _ (by k_asm) (News.sub (by k_asm) (sub_cons (by k_mem) (by tb_start))) ⟨_, _, _, _, by assumption, by assumption, rfl⟩
end
example : True := by
  k_with_none
  trivial
theorem one_use {vs : List Value} {k : Nat} {b : Addr} {j : Addr} {x y : Int} {tx ty : Tok} {n : Nat} {news rest : List (Addr × Obj)} {dp un : Nat} {gd : Option (List Code)} {cn : Str} {cs : Scope} {a : Addr} {ccd : Value} {cl : List (Str × Addr)} {outer : List Env} {A₀ : Around} {base h₀ : Heap} {L : Addr} {m : Str → Option Value} {hS : Heap} {gS : Array GenState} {dS : Drawn} {tS : Nat} {oS : OsState} {Q E : Value → Shared → Prop}
  (P : Pull (j, jarO x tx y ty n) news rest) (ok : JarOk x y) (off : Off j rest) (hm : (b, listOf (List.toArray vs) k) ∈ rest) (hne : 0 < vs.length) (hz : vs.length ≤ 16) (B : Below A₀ base outer h₀) (F : Fr h₀ L hS m) (X : (hd.heap_1 w.params).In h₀) (N : News h₀ L hS news) (T : Top topProg loose mean mg mb h₀) (hk : cs.kind = .function) (hr : dp + 9 < recursionLimit) (hu : un + 8 * 9 < cLine)
  (ret : ∀ r h' tk' x' tx' y' ty', JarOk x' y' → Fr h₀ L h' m → News h₀ L h' ((j, jarO x' tx' y' ty' n) :: (rest)) → r ∈ vs → Q (r) ⟨h', gS, dS, tk', oS⟩) : wpAny (model PySem.Challenge.rw_xm0591_01.row.prog w) (ktrTop dp un gd cn cs L a ccd cl outer) (call (.ref 182) [.ref j, .ref b]) Q E ⟨hS, gS, dS, tS, oS⟩ :=
  one_ok ok hm hne hz off _ _ _ _ _ _ _ _ _ _ _ _ _ _ _ _ _ B F X (News.sub N P.mem) T hk hr hu fun r l h' tk' F' N' hp => by
    obtain ⟨x', tx', y', ty', hv, ok', rfl⟩ := hp
    exact ret r h' tk' x' tx' y' ty' ok' F' N' hv
section
example : True := by
  k_with_none
  k_with "subscriptTail" =>
   ((k_here; (with_reducible show wpAny _ _ (subscriptTail _ _ (Value.ref _) (Value.int _ _)) _ _ _); k_dflt (first
   | (refine' my_tup ?Z11 ?Z12 ?Z13 ?Z14 ?Z15 ?Z16 ?_; (case Z11 => k_asm); (case Z12 => k_mem); (case Z13 | Z14 => decide); (case Z15 | Z16 => rfl); k_whole)
   | (refine' my_lst ?Z11 ?Z12 ?Z13 ?Z14 ?Z16 ?_; (case Z11 => k_asm); (case Z12 => k_mem); (case Z13 | Z14 => decide); (case Z16 => rfl); k_whole))))
  k_with "eval Name" =>
   ((k_here; k_dflt (refine' nameX_L ?Z17 ?Z18 ?_; (case Z17 => k_asm); (case Z18 => exact rfl); k_whole)))
  k_with "w_k_all" =>
   (first | assumption | ((show Off _ _); kqd_all))
  k_with "w_k_room" =>
   (ktr_room)
  k_with "call ref" =>
   ((k_here; (with_reducible show wpAny _ _ (call (Value.ref 182) _) _ _ _); k_dflt (refine' one_use ?Z19 ?Z1a ?Z1b ?Z1c ?Z1d ?Z1e ?Z1f ?Z1g ?Z1h ?Z1i ?Z1j ?Z1k ?Z1l ?Z1m ?_; (case Z1g | Z1i => k_asm); (case Z19 => (repeat (first | exact Pull.head | apply Pull.tail))); (case Z1a => k_asm); (case Z1b => kqd_all); (case Z1c => k_mem); (case Z1d | Z1e => (simp only [List.length_cons, List.length_nil]; omega)); (case Z1f | Z1h | Z1j => k_asm); (case Z1k => first | exact rfl | with_reducible assumption); (case Z1l => ktr_room); (case Z1m => ktr_units)); intro r9 h9 tk9' x9 tx9 y9 ty9 ok9 F9 N9 hv9; (try simp only [List.nil_append, List.cons_append, List.append_nil] at N9); (simp only [List.mem_cons, List.not_mem_nil, or_false] at hv9); (try dsimp only); (try k_fold)))
  k_with "execs cons" =>
   (k_here; (try k_gentoks); (first | ((fail_if_success (fail_if_success k_fold)); (with_reducible refine' ec_let2 ?_); intro q0 e0 K0) | ((with_reducible refine' ec_let ?_); intro K0)); (all_goals (try ((with_reducible rename Fr _ _ _ (fun _ => ite _ _ _) => f9); refine fr_let f9 ?_; clear f9; intro m0 F0))); (try dsimp only))
  k_with "eval Constant str" =>
   (with_reducible refine' con_str ?_)
  k_with "eval Constant int" =>
   (with_reducible refine' con_int ?_)
  k_with "newTuple" =>
   (k_here; k_dflt (refine' tup_let ?z30 ?z4 ?z0 ?_; (case z30 | z4 => k_asm); (case z0 => kmk_size)); intro D' h' e' Y' F' N' l1; (try k_sweep))
  k_with "newList" =>
   (k_here; k_dflt (refine' lst_let ?z30 ?z4 ?z0 ?_; (case z30 | z4 => k_asm); (case z0 => kmk_size)); intro D' h' e' Y' F' N' l1; (try k_sweep))
  k_with "binaryOp Add ref ref" =>
   (k_here; (with_reducible show wpAny _ _ (binaryOp Operator.Add (Value.ref _) (Value.ref _)) _ _ _); k_dflt (refine' kde_addT ?z1 ?z27 ?z25 ?z2 ?z18 ?z23 ?z21 ?z24 ?_; (case z1 | z27 => k_asm); (case z25 | z2 => exact News.isTup (by k_asm) (by k_mem)); (case z18 | z23 => exact List.cons_ne_nil _ _); (case z21 => exact Nat.le_of_ble_eq_true rfl); (case z24 => kun_lit)); intro D' h' F' N' l1; (replace l1 := allLt_of l1); (try k_sweep))
  k_with "k_up" =>
   (first
   | with_reducible exact hp
   | ((with_reducible refine List.mem_cons_of_mem _ ?_); k_extra "k_up")
   | ((with_reducible refine List.mem_append_left _ ?_); k_extra "k_up")
   | ((with_reducible refine List.mem_append_right _ ?_); k_extra "k_up")
   | fail)
  k_with "w_tb_start" =>
   (first
   | exact sub_nil
   | (intro p hp; k_extra "k_up")
   | (refine' sub_trans ?z28 ?z13; (case z28 => with_reducible assumption); (case z13 => (intro p hp; k_extra "k_up")))
   | ((with_reducible refine sub_app ?_ ?_) <;> tb_start)
   | ((with_reducible refine sub_cons ?_ ?_); k_mem; tb_start)
   | fail)
  k_with "w_k_mem" =>
   (focus ((repeat (with_reducible first | exact List.mem_cons_self | refine List.mem_cons_of_mem _ ?_ | refine List.mem_append_left _ ?_)); done))
  k_with "w_kqd_sub" =>
   (with_reducible first
   | exact gdJ_nil
   | (refine' gdJ_app ?_ ?_ <;> kqd_sub)
   | (refine' gd_app ?_ ?_ <;> kqd_sub)
   | (refine' gdJ_new ?z32 ?z12 ?z22 ?z9; (case z12 | z22 => assumption); (case z32 | z9 => k_dflt tb_start))
   | (refine' gd_new ?z32 ?z12 ?z9; (case z12 => assumption); (case z32 | z9 => k_dflt tb_start))
   | (refine' gd_cons0 ?z15 ?z10; (case z15 => first | (refine' gd_had ?z31 ?z38; (case z38 => assumption); (case z31 => k_dflt k_mem)) | (refine' gd_one ?z31 ?z38 ?z37; (case z38 => assumption); (case z31 => k_dflt k_mem); (case z37 => k_dflt tb_start))); (case z10 => kqd_sub))
   | (refine' gdJ_old ?z32 ?z9; (case z9 | z32 => k_dflt tb_start))
   | (refine' gd_old ?z32 ?z9; (case z9 | z32 => k_dflt tb_start))
   | fail)
  k_with "w_tb_rel" =>
   (with_reducible first
   | exact DatP.none
   | exact DatP.bool _
   | exact DatP.int _ _
   | exact DatP.str _ _
   | exact DatPs.nil
   | (refine' DatPs.cons ?_ ?_ <;> first | ((with_reducible show DatP _ _ _); tb_rel) | ((with_reducible show DatPs _ _ _); tb_rel) | ((with_reducible show Dat); skip) | ((with_reducible show List Dat); skip))
   | (refine' datP_in ?z5 ?z37; (case z5 => assumption); (case z37 => k_dflt kqd_sub))
   | (refine' datP_gdJ ?z31 ?z34 ?z35; (case z31 => k_dflt k_mem); (case z34 => first | (refine' gdJ_had ?z31 ?z38; (case z38 => assumption); (case z31 => k_dflt k_mem)) | (refine' gdJ_one ?z31 ?z38 ?z37 ?z19; (case z38 => assumption); (case z31 => k_dflt k_mem); (case z37 => k_dflt tb_start); (case z19 => k_dflt (k_extra "k_ltA")))); (case z35 => tb_rel))
   | (refine' datP_gd ?z31 ?z34 ?z35; (case z31 => k_dflt k_mem); (case z34 => first | (refine' gd_had ?z31 ?z38; (case z38 => assumption); (case z31 => k_dflt k_mem)) | (refine' gd_one ?z31 ?z38 ?z37; (case z38 => assumption); (case z31 => k_dflt k_mem); (case z37 => k_dflt tb_start))); (case z35 => tb_rel))
   | fail)
  k_with "w_lcg_off" =>
   (with_reducible first
   | assumption
   | exact off3_nil
   | (refine' off3_app ?_ ?_ <;> lcg_off)
   | (refine' off3_any ?z40 ?z14 ?z3; (case z40 => assumption); (case z14 => k_dflt k_mem); (case z3 => lcg_off))
   | (refine' off3_cons ⟨?z42, ?z16, ?z17⟩ ?z3; (case z42 | z16 | z17 => k_dflt k_ne); (case z3 => lcg_off))
   | (refine' off3_above ?z40 ?z42 ?z16 ?z17; (case z40 => assumption); (case z42 | z16 | z17 => k_dflt k_mem))
   | (refine' off3_sub ?z40 ?z3; (case z40 => assumption); (case z3 => k_dflt tb_start))
   | fail)
  k_with "w_ktr_room" =>
   ((try simp only [depth_under_make, depth_under_kw, depth_in1, depth_deeper, depth_caller]); (try dsimp only [ktrTop]); with_reducible first
   | (refine' room2 ?z11 ?z20; (case z11 => assumption); (case z20 => k_dflt (first | exact Nat.le_of_ble_eq_true rfl | omega)))
   | (refine' room1 ?z11 ?z20; (case z11 => assumption); (case z20 => k_dflt (first | exact Nat.le_of_ble_eq_true rfl | omega)))
   | (refine' room0 ?z11; (case z11 => assumption))
   | fail)
  k_with "w_ktr_units" =>
   ((try simp only [units_in1, units_deeper, Around.mark_units, units_caller]); (try dsimp only [ktrTop]); with_reducible first
   | (refine' unit2 ?z11 ?z20; (case z11 => assumption); (case z20 => k_dflt (first | exact Nat.le_of_ble_eq_true rfl | omega)))
   | (refine' unit1 ?z11 ?z20; (case z11 => assumption); (case z20 => k_dflt (first | exact Nat.le_of_ble_eq_true rfl | omega)))
   | fail)
  k_with "k_ltA" =>
   (first
   | (refine' lt_all ?z6 ?z36; (case z6 => with_reducible assumption); (case z36 => k_mem))
   | (refine ltN ?_; omega))
  k_with "w_kqd_all" =>
   (with_reducible first
   | assumption
   | exact off_nil
   | (refine' off_cons ?z29 ?z39; (case z29 => k_dflt k_ne); (case z39 => kqd_all))
   | (refine' off_app ?_ ?_ <;> kqd_all)
   | (refine' off_sub ?z8 ?z7; (case z8 => assumption); (case z7 => k_dflt tb_start))
   | (refine' off_above ?z8 ?z7; (case z8 => assumption); (case z7 => k_dflt k_mem))
   | (refine' off_lt ?z8 ?z33 ?z7; (case z8 => assumption); (case z33 => k_dflt ((show (_ : Nat) ≤ _); omega)); (case z7 => k_dflt tb_start))
   | (refine' off_o3a ?z8 ?z7; (case z8 => assumption); (case z7 => k_dflt tb_start))
   | (refine' off_o3b ?z8 ?z7; (case z8 => assumption); (case z7 => k_dflt tb_start))
   | (refine' off_o3c ?z8 ?z7; (case z8 => assumption); (case z7 => k_dflt tb_start))
   | (refine' off_o1 ?z8 ?z7; (case z8 => assumption); (case z7 => k_dflt tb_start))
   | fail)
  k_with "w_k_ne" =>
   (first
   | with_reducible assumption
   | (refine' ne_all ?z6 ?z36; (case z6 => with_reducible assumption); (case z36 => k_mem))
   | (refine' ne_all2 ?z6 ?z36; (case z6 => with_reducible assumption); (case z36 => k_mem))
   | (refine' Ne.symm ?z6; (case z6 => with_reducible assumption))
   | (refine' ne_o3a ?z6 ?z36; (case z6 => with_reducible assumption); (case z36 => k_mem))
   | (refine' ne_o3b ?z6 ?z36; (case z6 => with_reducible assumption); (case z36 => k_mem))
   | (refine' ne_o3c ?z6 ?z36; (case z6 => with_reducible assumption); (case z36 => k_mem))
   | (refine' ne_o3a' ?z6 ?z36; (case z6 => with_reducible assumption); (case z36 => k_mem))
   | (refine' ne_o3b' ?z6 ?z36; (case z6 => with_reducible assumption); (case z36 => k_mem))
   | (refine' ne_o3c' ?z6 ?z36; (case z6 => with_reducible assumption); (case z36 => k_mem))
   | (refine' ne_o1 ?z6 ?z36; (case z6 => with_reducible assumption); (case z36 => k_mem))
   | (refine' ne_o1' ?z6 ?z36; (case z6 => with_reducible assumption); (case z36 => k_mem))
   | (refine' ne_of_lt' ?z6; (case z6 => with_reducible assumption))
   | (refine' ne_of_gt' ?z6; (case z6 => with_reducible assumption))
   | (refine' ne_tr ?z41 ?z6 ?z36; (case z41 | z6 => with_reducible assumption); (case z36 => k_mem))
   | (refine' ne_trs ?z41 ?z6 ?z36; (case z41 | z6 => with_reducible assumption); (case z36 => k_mem))
   | (refine' ne_tr2 ?z41 ?z26 ?z6 ?z36; (case z41 | z26 | z6 => with_reducible assumption); (case z36 => k_mem))
   | (refine' ne_tr2s ?z41 ?z26 ?z6 ?z36; (case z41 | z26 | z6 => with_reducible assumption); (case z36 => k_mem))
   | (with_reducible refine' ne_up1 ?z6 ?z36; (case z6 => assumption); (case z36 => k_dflt k_mem))
   | (with_reducible refine' ne_up2 ?z6 ?z36; (case z6 => assumption); (case z36 => k_dflt k_mem))
   | (with_reducible refine' ne_up3 ?z6 ?z36; (case z6 => assumption); (case z36 => k_dflt k_mem))
   | (with_reducible refine' ne_dn1 ?z6 ?z36; (case z6 => assumption); (case z36 => k_dflt k_mem))
   | (with_reducible refine' ne_dn2 ?z6 ?z36; (case z6 => assumption); (case z36 => k_dflt k_mem))
   | (with_reducible refine' ne_dn3 ?z6 ?z36; (case z6 => assumption); (case z36 => k_dflt k_mem))
   | fail)
  k_with "pack" =>
   skip
  trivial
theorem reg_ok {j : Addr} {x y : Int} {tx ty : Tok} {n : Nat} {rest : List (Addr × Obj)} (ok : JarOk x y) (off : Off j rest) : CallOk PySem.Challenge.rw_xm0591_01.row.prog w (hd.heap_1 w.params) topProg loose mean mg mb 14 189 [.ref j] ((j, jarO x tx y ty n) :: rest) (JPost j n [] rest fun d => ∃ r : Rg, d = rgD r) := by
  unfold CallOk
  intro dp un gd cn cs a ccd cl outer A₀ base h₀ L m s Q E B F X N T hk hdp hun hret
  refine wpAny_call ?_
  k_dflt ktr_enter
  all_goals (try (with_reducible rename News _ _ _ _ => nL9; refine led_let nL9 ?_; clear nL9; intro Y0 N9))
  k_steps
  refine hret _ _ _ _ (by k_asm) (by k_asm) ?_
  rename _ ∨ _ => hv
  rcases hv with rfl | rfl | rfl | rfl
  · exact ⟨_, _, _, _, _, by assumption, by k_mem, by tb_start, ⟨.no, rfl⟩, .none⟩
  · exact ⟨_, _, _, _, _, by assumption, by k_mem, by tb_start, ⟨.a, rfl⟩, .str _ _⟩
  · exact ⟨_, _, _, _, _, by assumption, by k_mem, by tb_start, ⟨.st, rfl⟩, .str _ _⟩
  · exact ⟨_, _, _, _, _, by assumption, by k_mem, by tb_start, ⟨.five, rfl⟩, .int _ _⟩
end
end
end Mine
namespace Mine
example : True := by
  w_top off
  k_with_none
  trivial
/-! [b for a, b in LIST if a == NAME]: NAME a cell of the frame's, LIST pairs of the ledger -/
inductive PairsIn (l : List (Addr × Obj)) : List Value → List (Str × Value) → Prop
  | nil : PairsIn l [] []
  | cons {p : Addr} {x : Str} {t : Tok} {v : Value} {n : Nat} {vs : List Value} {ps : List (Str × Value)} : (p, tupO [.str x t, v] n) ∈ l → PairsIn l vs ps → PairsIn l (.ref p :: vs) ((x, v) :: ps)
theorem PairsIn.mono {l l' : List (Addr × Obj)} {vs : List Value} {ps : List (Str × Value)} (h : PairsIn l vs ps) (hs : ∀ p ∈ l, p ∈ l') : PairsIn l' vs ps := by
  induction h with
  | nil => exact .nil
  | cons hm _ ih => exact .cons (hs _ hm) ih
theorem PairsIn.len {l : List (Addr × Obj)} {vs : List Value} {ps : List (Str × Value)} (h : PairsIn l vs ps) : vs.length = ps.length := by
  induction h with
  | nil => rfl
  | cons _ _ ih => rw [List.length_cons, List.length_cons, ih]
theorem PairsIn.item {l : List (Addr × Obj)} {vs : List Value} {ps : List (Str × Value)} (h : PairsIn l vs ps) : ∀ (i : Nat) (v : Value), vs[i]? = some v → ∃ p x t u n, v = .ref p ∧ ps[i]? = some (x, u) ∧ (p, tupO [.str x t, u] n) ∈ l := by
  induction h with
  | nil => intro i v e; simp at e
  | cons hm _ ih =>
    intro i v e
    cases i with
    | zero => simp only [List.getElem?_cons_zero, Option.some.injEq] at e; exact ⟨_, _, _, _, _, e.symm, rfl, hm⟩
    | succ i => simpa using ih i v (by simpa using e)
def picked (nm : Str) : List (Str × Value) → List Value
  | [] => []
  | (x, v) :: ps => if (x == nm) = true then v :: picked nm ps else picked nm ps
theorem picked_app (nm : Str) (ps qs : List (Str × Value)) : picked nm (ps ++ qs) = picked nm ps ++ picked nm qs := by
  induction ps with
  | nil => rfl
  | cons p ps ih =>
    obtain ⟨x, v⟩ := p
    simp only [List.cons_append, picked, ih]
    split <;> rfl
theorem picked_len (nm : Str) (ps : List (Str × Value)) : (picked nm ps).length ≤ ps.length := by
  induction ps with
  | nil => exact Nat.le_refl _
  | cons p ps ih =>
    obtain ⟨x, v⟩ := p
    simp only [picked]
    split
    · simp only [List.length_cons]; omega
    · simp only [List.length_cons]; omega
theorem picked_snoc {nm : Str} {ps : List (Str × Value)} {i : Nat} {x : Str} {v : Value} (h : ps[i]? = some (x, v)) : picked nm (ps.take (i + 1)) = picked nm (ps.take i) ++ (if (x == nm) = true then [v] else []) := by
  rw [List.take_add_one, picked_app, h]
  rfl
section
variable {prog : Program} {w : World} {A : Around} {E : Value → Shared → Prop} {s : Shared} {h₀ : Heap} {L : Addr} {m : Str → Option Value} {env : Env}
open LCg (NsObj ns_obj lst lst_snoc fr_but news_but)
theorem found_block {iter : PySem.Expr} {a b nv : Str} {pa pb tp pe pc pn pw : Pos} {kk : Nat} {scope : Scope} {cl : List (Str × Addr)} {pos : Pos} {s₂ : Shared} {I ax c : Addr} {ocell : Obj} {its : List Value} {k : Nat} {nm : Str} {t : Tok} {ps : List (Str × Value)} {news : List (Addr × Obj)}
    {RR : Value → Addr → Result → Shared → Prop}
    (hh : A.handled = none) (hne : ax ≠ I) (hsz : its.length ≤ sizeLine) (hax : (ax, listOf its.toArray k) ∈ news) (hps : PairsIn news its ps)
    (hc : cl.lookup nv = some c) (hcm : (c, ocell) ∈ news) (hcd : ocell.data = .cell (some (.str nm t))) (hkn : (relabel scope env).names.lookup nv = some .cell)
    (hit : s₂.heap.IsListIter I ax 0)
    (hcell : ∀ y ∈ scope.names, y.2 ≠ .cell) (hkind : scope.kind = .function) (hxa : scope.names.lookup a = some .local) (hxb : scope.names.lookup b = some .local) (hab : ¬ a = b)
    (hda : (a == ("__debug__" : Str)) = false) (hdb : (b == ("__debug__" : Str)) = false) (hdn : (nv == ("__debug__" : Str)) = false)
    (F : Fr h₀ L s₂.heap m) (N : News h₀ L s₂.heap news) (hIL : L ≠ I) (hI₀ : h₀.get? I = none) (off : ∀ p ∈ news, p.1 ≠ I)
    (hRR : ∀ D C h tk m', Fr h₀ L h m → News h₀ L h ((D, lst (picked nm ps)) :: news) → Off D news → h.Ns C m' → h₀.get? C = none → h₀.get? D = none → C ≠ L → D ≠ L → C ≠ D → (∀ p ∈ news, p.1 ≠ C) → RR (.ref D) C (.ok .next) { s₂ with heap := h, toks := tk }) :
    wpAny (model prog w) A (newList []) (fun acc s₃ => wpAny (model prog w) A (newFunctionEnv scope env.globals cl [] env.qual none .none (some env)) (fun cenv s₄ =>
      codeAny (model prog w) A (.compStart (.ListComp (.Name b pe) [⟨.Tuple [.Name a pa, .Name b pb] kk tp, iter, [.Compare (.Name a pc) [.Eq] [.Name nv pn] pw], 0⟩] scope pos) 0 (.ref I) acc { cenv with scope := relabel scope env }) (RR acc cenv.locals) s₄) E s₃) E s₂ := by
  refine wpAny_newObj_type (wpAny_newFunctionEnv hcell (by intro y hy; simp at hy) (fun h₁ hns₁ hsb₁ => ?_) hkind)
  dsimp only at hns₁ hsb₁ ⊢
  generalize hH2 : s₂.heap.push { cls := .type "list", dict := none, data := .seq ([] : List Value).toArray } = H2 at hns₁ hsb₁ ⊢
  have hC : H2.objs.size = s₂.heap.objs.size + 1 := by rw [← hH2, Heap.size_push]
  generalize hD : s₂.heap.objs.size = D at hC hH2
  generalize hCC : H2.objs.size = C at hC hns₁ hsb₁ ⊢
  have hDC : D ≠ C := by omega
  have below : ∀ b, b < D → b ≠ C ∧ b ≠ D := fun b hb => ⟨by omega, Nat.ne_of_lt hb⟩
  have lts : ∀ {b o}, s₂.heap.get? b = some o → b < D := fun e => hD ▸ Heap.lt_size e
  have hIlt : I < D := by obtain ⟨_, e, _⟩ := hit; exact lts e
  have old : ∀ b o, s₂.heap.get? b = some o → h₁.get? b = some o := fun b o e => hsb₁.extBut b o (below b (lts e)).1 (Heap.get?_push_of_some _ (hH2 ▸ Heap.get?_push_of_some _ e))
  have hacc : h₁.get? D = some (lst []) := hsb₁.extBut _ _ hDC (Heap.get?_push_of_some _ (hH2 ▸ hD ▸ Heap.get?_push_size _ rfl))
  have fresh₀ : ∀ a, D ≤ a → h₀.get? a = none := fun a ha => by
    cases e : h₀.get? a with
    | none => rfl
    | some o' => exact absurd (lts (F.keep a o' e)) (Nat.not_lt.mpr ha)
  have hD₀ : h₀.get? D = none := fresh₀ _ (Nat.le_refl _)
  have hC₀ : h₀.get? C = none := fresh₀ _ (by omega)
  have hLlt : L < D := hD ▸ F.ns.lt
  have hDL : D ≠ L := Ne.symm (below L hLlt).2
  have hCL : C ≠ L := Ne.symm (below L hLlt).1
  have hCI : I ≠ C := (below I hIlt).1
  have hDI : I ≠ D := (below I hIlt).2
  have offD : ∀ p ∈ news, p.1 ≠ D := fun p hp => (below _ (lts (N p hp).1)).2
  have offC : ∀ p ∈ news, p.1 ≠ C := fun p hp => (below _ (lts (N p hp).1)).1
  have W := Walks.list (prog := prog) (w := w) hh I ax hne its.toArray
  have hlen := hps.len
  have loop : ∀ s₃ : Shared, s₃ = { s₂ with heap := h₁, toks := s₂.toks + ([] : List (Str × Value)).length } →
      codeAny (model prog w) A (.compLoop (.ListComp (.Name b pe) [⟨.Tuple [.Name a pa, .Name b pb] kk tp, iter, [.Compare (.Name a pc) [.Eq] [.Name nv pn] pw], 0⟩] scope pos) 0 (.ref I) (.ref D) (compEnvC scope cl C env))
        (RR (.ref D) C) s₃ := by
    rintro s₃ rfl
    refine kct_loop
      (fun j s' => ∃ h' tk i m', s' = { s₂ with heap := h', toks := tk } ∧ i ≤ its.length ∧ j = its.length + 1 - i ∧ h'.IsListIter I ax i ∧ Fr h₀ L h' m ∧ h'.Ns C m' ∧ News h₀ L h' ((D, lst (picked nm (ps.take i))) :: news)) ?_ (its.length + 1)
      ⟨h₁, _, 0, _, rfl, Nat.zero_le _, rfl, hit.at fun o e => old _ o e, F.keeps old, hns₁, fun p hp => ?_⟩
    · rintro j s' ⟨h', tk, i, m', rfl, hi, rfl, hit', F', hn', N'⟩
      have hl' : h'.IsList ax its.toArray := ⟨_, (N' _ (.tail _ hax)).1, rfl, k, rfl⟩
      by_cases hlt : i < its.length
      · refine W.item i _ _ _ (by simpa using hlt) ⟨hit', hl'⟩ fun v h₂ tk₂ hPv hst₂ hk₂ => ?_
        obtain ⟨p, x, tx, u, n, rfl, hpi, hpm⟩ := hps.item i v (by simpa using hPv)
        have N₂ : News h₀ L h₂ ((D, lst (picked nm (ps.take i))) :: news) := news_but N' hk₂ fun q hq => by
          rcases List.mem_cons.mp hq with rfl | hq
          · exact Ne.symm hDI
          · exact off q hq
        have ht : IsTup h₂ p #[.str x tx, u] := ⟨_, (N₂ _ (.tail _ hpm)).1, rfl, n, rfl⟩
        refine wpAny_letOwnedTupleGo_listiter hst₂.1 ?_
        refine assign_Tuple_tuple hh ht rfl rfl fun h₅ he => ?_
        have he' : ∀ b o, h₂.get? b = some o → h₅.get? b = some o := fun b o e => he b o (Nat.ne_of_lt (Heap.lt_size e)) e
        refine assignInOrder_cons (wpAny_assign_Name (wpAny_storeName_local (lookup_relabel_local hxa) ((hn'.at' fun o e => hk₂ _ o (by simpa using Ne.symm hCI) e).at' fun o e => he' _ o e) (fun h₆ hn₆ hs₆ => ?_) (by simp [compEnvC, relabel, hkind])))
        refine assignInOrder_cons (wpAny_assign_Name (wpAny_storeName_local (lookup_relabel_local hxb) hn₆ (fun h₃ hn₃ hs₃ => ?_) (by simp [compEnvC, relabel, hkind])))
        refine assignInOrder_nil ?_
        have old3 : ∀ b o, b ≠ C → h₂.get? b = some o → h₃.get? b = some o := fun b o hb e => hs₃.extBut b o hb (hs₆.extBut b o hb (he' b o e))
        have hit₃ : h₃.IsListIter I ax (i + 1) := hst₂.1.at fun o e => old3 _ o hCI e
        have F₃ : Fr h₀ L h₃ m := (((fr_but F' hk₂ hIL hI₀).keeps he').change hs₆ hCL hC₀).change hs₃ hCL hC₀
        have N₃ : News h₀ L h₃ ((D, lst (picked nm (ps.take i))) :: news) := fun q hq => by
          have z := N₂ q hq
          refine ⟨old3 _ _ ?_ z.1, z.2⟩
          rcases List.mem_cons.mp hq with rfl | hq
          · exact hDC
          · exact offC q hq
        have hck : (compEnvC scope cl C env).scope.kind = .function := by simp [compEnvC, relabel, hkind]
        refine wpAny_isTrue_Compare1 ?_
        refine wpAny_Name (wpAny_loadName_local hck (lookup_relabel_local hxa) hn₃ (v := .str x tx) (by simp [hab]) ?_) hda
        refine wpAny_Name (wpAny_loadName_cell hck hkn hc ⟨ocell, (N₃ _ (.tail _ hcm)).1, hcd⟩ ?_) hdn
        refine PyProof.Rows.eq_str ?_
        refine wpAny_truthy_bool ?_
        have snoc := picked_snoc (nm := nm) hpi
        by_cases hx : (x == nm) = true
        · rw [if_pos hx]
          rw [if_pos hx] at snoc
          refine wpAny_Name (wpAny_loadName_local hck (lookup_relabel_local hxb) hn₃ (v := u) (by simp) ?_) hdb
          have hpl : (picked nm (ps.take i)).length ≤ sizeLine := Nat.le_trans (picked_len _ _) (Nat.le_trans (by rw [List.length_take]; omega) hsz)
          refine append_at (hsz := by rw [List.size_toArray]; exact hpl) (N₃ _ (.head _)).1 fun h₇ hs₇ hD₇ => ?_
          refine ⟨its.length + 1 - (i + 1), by omega, h₇, _, i + 1, _, rfl, hlt, rfl, hit₃.at fun o e => hs₇.extBut _ _ hDI e, F₃.change hs₇ hDL hD₀, hn₃.sameBut hs₇ (Ne.symm hDC), fun q hq => ?_⟩
          rcases List.mem_cons.mp hq with rfl | hq
          · rw [snoc]
            exact ⟨hD₇.trans (congrArg some (lst_snoc _ u)), hDL, hD₀⟩
          · exact ⟨hs₇.extBut _ _ (offD q hq) (N₃ q (.tail _ hq)).1, (N₃ q (.tail _ hq)).2⟩
        · rw [if_neg hx]
          rw [if_neg hx, List.append_nil] at snoc
          refine ⟨its.length + 1 - (i + 1), by omega, h₃, _, i + 1, _, rfl, hlt, rfl, hit₃, F₃, hn₃, fun q hq => ?_⟩
          rw [snoc] at hq
          exact N₃ q hq
      · obtain rfl : i = its.length := Nat.le_antisymm hi (Nat.not_lt.mp hlt)
        refine W.done _ _ _ ⟨by simpa using hit', hl'⟩ fun h₂ tk₂ hk₂ => ?_
        refine hRR D C h₂ tk₂ m' (fr_but F' hk₂ hIL hI₀) ?_ offD (hn'.at' fun o e => hk₂ _ o (by simpa using Ne.symm hCI) e) hC₀ hD₀ hCL hDL (Ne.symm hDC) offC
        have z : News h₀ L h₂ ((D, lst (picked nm (ps.take its.length))) :: news) := news_but N' hk₂ fun q hq => by
          rcases List.mem_cons.mp hq with rfl | hq
          · exact Ne.symm hDI
          · exact off q hq
        rwa [hlen, List.take_length] at z
    · rcases List.mem_cons.mp hp with rfl | hp
      · exact ⟨hacc, hDL, hD₀⟩
      · exact ⟨old _ _ (N p hp).1, (N p hp).2⟩
  have W0 := (hit.at fun o e => old _ o e : h₁.IsListIter I ax 0)
  have hl1 : h₁.IsList ax its.toArray := ⟨_, old _ _ (N _ hax).1, rfl, k, rfl⟩
  exact codeAny_compStart_list (loop _ rfl) (W.self 0 _ _ _ ⟨W0, hl1⟩ (loop _ rfl))
theorem assign_found {iter : PySem.Expr} {a b nv y : Str} {pa pb tp pe pc pn pw py : Pos} {kk : Nat} {scope : Scope} {cl : List (Str × Addr)} {pos spos : Pos} {ax c : Addr} {ocell : Obj} {its : List Value} {k : Nat} {nm : Str} {t : Tok} {ps : List (Str × Value)} {news : List (Addr × Obj)} {Q : Flow → Shared → Prop}
    (F : Fr h₀ L s.heap m) (N : News h₀ L s.heap news) (hax : (ax, listOf its.toArray k) ∈ news) (hps : PairsIn news its ps) (hsz : its.length ≤ 16)
    (hcm : (c, ocell) ∈ news) (hcd : ocell.data = .cell (some (.str nm t)))
    (hh : A.handled = none) (hLe : env.locals = L)
    (hsw : swapsWith (.ListComp (.Name b pe) [⟨.Tuple [.Name a pa, .Name b pb] kk tp, iter, [.Compare (.Name a pc) [.Eq] [.Name nv pn] pw], 0⟩] scope pos) (some (.Name y py)) spos.line env = pure true)
    (hclos : closureFor scope env = pure cl) (hcell : ∀ z ∈ scope.names, z.2 ≠ .cell) (hkind : scope.kind = .function)
    (hnames : ∀ z ∈ scope.names, z.2 = .local → scope.names.lookup z.1 = some .local) (hxa : scope.names.lookup a = some .local) (hxb : scope.names.lookup b = some .local) (hab : ¬ a = b)
    (hc : cl.lookup nv = some c) (hkn : (relabel scope env).names.lookup nv = some .cell)
    (hda : (a == ("__debug__" : Str)) = false) (hdb : (b == ("__debug__" : Str)) = false) (hdn : (nv == ("__debug__" : Str)) = false)
    (hy : env.kindOf y = some .local) (hp : (env.scope.kind == .class || (env.scope.kind == .module && env.locals != env.globals)) = false)
    (hi : ∀ Q' : Value → Shared → Prop, Q' (.ref ax) s → wpAny (model prog w) A (eval iter env) Q' E s)
    (hs : ∀ x, foldedSetIterable iter env x = pure x)
    (h : ∀ D h' tk, Fr h₀ L h' (fun z => if z = y then some (.ref D) else m z) → News h₀ L h' ((D, lst (picked nm ps)) :: news) → Off D news → Q .next { s with heap := h', toks := tk }) :
    wpAny (model prog w) A (exec (.Assign [.Name y py] (.ListComp (.Name b pe) [⟨.Tuple [.Name a pa, .Name b pb] kk tp, iter, [.Compare (.Name a pc) [.Eq] [.Name nv pn] pw], 0⟩] scope pos) spos) env) Q E s := by
  subst hLe
  rw [exec_Assign_Name_used _ _ _ _ hsw]
  refine wpAny_bind (wpAny_standAt (wpAny_bind ?_))
  show wpAny _ A (do let _ ← comprehension (.ListComp (.Name b pe) [⟨.Tuple [.Name a pa, .Name b pb] kk tp, iter, [.Compare (.Name a pc) [.Eq] [.Name nv pn] pw], 0⟩] scope pos) scope env _ (newList []) false (eval iter env) (some (assign (.Name y py) env))) _ _ s
  refine wpAny_bind (wpAny_mono (wpAny_comprehension_free (use := some (assign (.Name y py) env)) (Q := fun _ s' => Q .next s') rfl hs hclos hkind hnames
    (hi _ ?_)) (fun _ s' hq => wpAny_pure (wpAny_pure hq)) fun _ _ e => e)
  have hl : s.heap.IsList ax its.toArray := ⟨_, (N _ hax).1, rfl, k, rfl⟩
  have hlt : ax < s.heap.objs.size := Heap.lt_size (N _ hax).1
  have h16 : 16 ≤ sizeLine := by rw [sizeLine_eq]; decide
  refine wpAny_pyIter_list hl ?_
  have up : ∀ b o, s.heap.get? b = some o → (s.heap.push { cls := .type "list_iterator", data := .fields #[.ref ax, .int 0 0] }).get? b = some o := fun b o e => Heap.get?_push_of_some _ e
  refine found_block hh (Nat.ne_of_lt hlt) (Nat.le_trans hsz h16) hax hps hc hcm hcd hkn ⟨_, Heap.get?_push_size _ rfl, rfl, rfl⟩ hcell hkind hxa hxb hab hda hdb hdn
    (F.keeps up) (N.grown up) (Nat.ne_of_lt F.ns.lt) (next_is_new F) (fun p hp => Nat.ne_of_lt (Heap.lt_size (N p hp).1)) ?_
  intro D C h' tk m' F' N' o1 hn hC₀ hD₀ hCL hDL hCD offC
  show wpAny _ A (assign (.Name y py) env (.ref D)) _ _ _
  refine wpAny_assign_Name (wpAny_storeName_local hy F'.ns (fun h₂ hn₂ hs₂ => ?_) hp)
  have hL₀ : h₀.get? env.locals = none := Heap.get?_none_of_le F'.above
  have F₂ : Fr h₀ env.locals h₂ (fun z => if z = y then some (.ref D) else m z) := ⟨hn₂, fun b o e => hs₂.extBut b o (fun q => by rw [q, hL₀] at e; cases e) (F'.keep b o e), F'.above⟩
  refine ⟨m', hn.sameBut hs₂ hCL, fun h'' hs'' => h D h'' _ (F₂.change hs'' hCL hC₀) (fun p hp => ?_) o1⟩
  have z : h₂.get? p.1 = some p.2 := hs₂.extBut _ _ (N' p hp).2.1 (N' p hp).1
  refine ⟨hs''.extBut _ _ ?_ z, (N' p hp).2⟩
  rcases List.mem_cons.mp hp with rfl | hp
  · exact Ne.symm hCD
  · exact offC p hp
end
/-! found != [] -/
section
variable {prog : Program} {w : World} {A : Around} {E : Value → Shared → Prop} {s : Shared} {h₀ : Heap} {L : Addr} {news n₁ : List (Addr × Obj)} {d : Dat} {v : Value} {Q : Value → Shared → Prop} {k : Nat}
theorem found_ne1 {x y : Addr} {nx ny : Nat} (N : News h₀ L s.heap news) (hx : (x, listOf [v].toArray nx) ∈ news) (hy : (y, listOf ([] : List Value).toArray ny) ∈ news) (Da : Dt n₁ v d) (sa : ∀ p ∈ n₁, p ∈ news)
    (hd : tupD k d = true) (hk : k ≤ 63) (hu : A.units + 64 < cLine) (h : Q (.bool true) s) : wpAny (model prog w) A (compareOp .NotEq (.ref x) (.ref y)) Q E s := by
  obtain ⟨as, ra⟩ := td_all N k (Dts.cons (Da.mono sa) .nil) (by intro e he; rw [List.mem_singleton.mp he]; exact hd)
  have hd' : ∀ e ∈ [d], tupD k e = true := by intro e he; rw [List.mem_singleton.mp he]; exact hd
  exact ne_dataH (reads_list_at (N.get hx) rfl rfl (by simpa using ra)) (reads_list_at (N.get hy) rfl rfl (by simpa [kqdPs] using ReadsAll.nil)) (td_shapedL hd' hk) (td_shapedL (ds := []) (k := 0) (by simp) (by decide)) hu (by simpa [kqdPs, PyData.eqv, PyData.eqvAll] using h)
theorem found_ne0 {x y : Addr} {nx ny : Nat} (N : News h₀ L s.heap news) (hx : (x, listOf ([] : List Value).toArray nx) ∈ news) (hy : (y, listOf ([] : List Value).toArray ny) ∈ news)
    (hu : A.units + 64 < cLine) (h : Q (.bool false) s) : wpAny (model prog w) A (compareOp .NotEq (.ref x) (.ref y)) Q E s := by
  have hs := td_shapedL (ds := []) (k := 0) (by simp) (by decide)
  exact ne_dataH (reads_list_at (N.get hx) rfl rfl (by simpa [kqdPs] using ReadsAll.nil)) (reads_list_at (N.get hy) rfl rfl (by simpa [kqdPs] using ReadsAll.nil)) hs hs hu (by simpa [kqdPs, PyData.eqv, PyData.eqvAll] using h)
end
end Mine
namespace Mine
example : True := by
  w_top off
  k_with_none
  trivial

section
variable {w : World} {loose : List Str} {mean : ExcName → Option Value} {mg mb : Str → Option Value}
theorem reg_use {j : Addr} {x y : Int} {tx ty : Tok} {n : Nat} {news rest : List (Addr × Obj)} {dp un : Nat} {gd : Option (List Code)} {cn : Str} {cs : Scope} {a : Addr} {ccd : Value} {cl : List (Str × Addr)} {outer : List Env} {A₀ : Around} {base h₀ : Heap} {L : Addr} {m : Str → Option Value} {hS : Heap} {gS : Array GenState} {dS : Drawn} {tS : Nat} {oS : OsState} {Q E : Value → Shared → Prop}
  (P : Pull (j, jarO x tx y ty n) news rest) (ok : JarOk x y) (off : Off j rest) (B : Below A₀ base outer h₀) (F : Fr h₀ L hS m) (X : (hd.heap_1 w.params).In h₀) (N : News h₀ L hS news) (T : Top topProg loose mean mg mb h₀) (hk : cs.kind = .function) (hr : dp + 14 < recursionLimit) (hu : un + 8 * 14 < cLine)
  (ret : ∀ r tl rg h' tk' x' tx' y' ty', JarOk x' y' → Fr h₀ L h' m → News h₀ L h' ((j, jarO x' tx' y' ty' n) :: (rest ++ tl)) → Above rest tl → (∀ p ∈ tl, @LT.lt Nat _ j p.1) → Off j tl → Dt tl r (rgD rg) → Q (r) ⟨h', gS, dS, tk', oS⟩) : wpAny (model PySem.Challenge.rw_xm0591_01.row.prog w) (ktrTop dp un gd cn cs L a ccd cl outer) (call (.ref 189) [.ref j]) Q E ⟨hS, gS, dS, tS, oS⟩ :=
  jar_use B F X N T hk P (reg_ok ok off) hr hu fun r tl h' tk' x' tx' y' ty' d ok' hR F' N' ab hj ho dt => by
    obtain ⟨rg, rfl⟩ := hR
    exact ret r tl rg h' tk' x' tx' y' ty' ok' F' N' ab hj ho (by simpa using dt)

theorem cell_off {l : List (Addr × Obj)} {L : Addr} (h : ∀ p ∈ l, p.1 < L) : Off (L + 1) l := fun p hp => Nat.ne_of_lt (Nat.lt_succ_of_lt (h p hp))
theorem cell_empty {o : Obj} {v : Option Value} (h : o.data = .cell v) (e : v = none) : o.data = .cell none := by rw [h, e]

theorem name_of {r : Value} {t1 t2 t3 : Tok} (h : r = .str (Str.ofString "T") t1 ∨ r = .str (Str.ofString "T") t2 ∨ r = .str (Str.ofString "U") t3) : ∃ q u, r = .str (pmS q) u ∧ (q = Pm.T ∨ q = Pm.U) := by
  rcases h with rfl | rfl | rfl
  · exact ⟨.T, _, rfl, .inl rfl⟩
  · exact ⟨.T, _, rfl, .inl rfl⟩
  · exact ⟨.U, _, rfl, .inr rfl⟩
def DuesAt (ps : List (Str × Value)) (D : List (Addr × Obj)) (σ : Pm → Option Ty) : Prop :=
  ∀ q : Pm, (q = .T ∨ q = .U) → (picked (pmS q) ps = [] ∧ σ q = none) ∨ ∃ v d, picked (pmS q) ps = [v] ∧ σ q = some d ∧ Dt D v (tyD d) ∧ d.dp ≤ 4
theorem dues_at {ps : List (Str × Value)} {D : List (Addr × Obj)} {σ : Pm → Option Ty} {q : Pm} (h : DuesAt ps D σ) (hq : q = .T ∨ q = .U) : (picked (pmS q) ps = [] ∧ σ q = none) ∨ ∃ v d, picked (pmS q) ps = [v] ∧ σ q = some d ∧ Dt D v (tyD d) ∧ d.dp ≤ 4 := h q hq
def DuesIn (l D : List (Addr × Obj)) (a : Addr) (σ : Pm → Option Ty) : Prop :=
  ∃ k its ps, (a, listOf (List.toArray its) k) ∈ l ∧ PairsIn l its ps ∧ its.length ≤ 16 ∧ DuesAt ps D σ
theorem due_none {σ : Pm → Option Ty} {q : Pm} (h : σ q = none) : due σ (.par q) = .par q := by simp only [due, h]; rfl
theorem due_some {σ : Pm → Option Ty} {q : Pm} {d : Ty} (h : σ q = some d) : due σ (.par q) = d := by simp only [due, h]; rfl
def TypR (σ : Pm → Option Ty) (k : Nat) (d : Dat) : Prop := ∃ t, t.dp ≤ k ∧ d = .tuple [tyD t, tyD (due σ t)]
theorem typR_of {σ : Pm → Option Ty} {k : Nat} (t u : Ty) (hk : t.dp ≤ k) (hu : due σ t = u) : TypR σ k (.tuple [tyD t, tyD u]) := ⟨t, hk, by rw [hu]⟩

variable {σ : Pm → Option Ty}
example : True := by
  k_with_none
  k_with "subscriptTail" =>
   ((k_here; (with_reducible show wpAny _ _ (subscriptTail _ _ (Value.ref _) (Value.int _ _)) _ _ _); k_dflt (first
   | (refine' my_tup ?Z0 ?Z1 ?Z2 ?Z3 ?Z4 ?Z5 ?_; (case Z0 => k_asm); (case Z1 => k_mem); (case Z2 | Z3 => decide); (case Z4 | Z5 => rfl); k_whole)
   | (refine' my_lst ?Z0 ?Z1 ?Z2 ?Z3 ?Z5 ?_; (case Z0 => k_asm); (case Z1 => k_mem); (case Z2 | Z3 => decide); (case Z5 => rfl); k_whole))))
  k_with "eval Name" =>
   ((k_here; k_dflt (refine' nameX_L ?Z6 ?Z7 ?_; (case Z6 => k_asm); (case Z7 => exact rfl); k_whole)))
  k_with "w_k_all" =>
   (first | assumption | ((show Off _ _); kqd_all))
  k_with "w_k_room" =>
   (ktr_room)
  k_with "w_ktr_enter" =>
   ((refine' code_defC ?Z8 ?Z9 ?Za ?Zb ?Zc ?Zd ?Ze ?Zf ?Zg ?Zh ?Zi ?Zj ?Zk ?Zl ?_ ?Zm ?Zn ?Zo; (case Zd | Ze => exact rfl); (case Zf => first | exact rfl | assumption); (case Z8 | Z9 | Za | Zb | Zc => k_asm); (case Zg | Zh => k_is); (case Zi => ktr_room); (case Zj => exact BindsTo.of_eq rfl); (case Zk => exact rfl); (case Zl => decide +kernel); (case Zm | Zn | Zo => exact rfl); k_whole; intro g' L' h' tk' cells' FG' F' N' Y' B' X' T' l1; (have hoc9 := cell_off l1); (try k_lt l1); k_cells Y'; (with_reducible rename Obj.data _ = _ => dc9); (replace dc9 := cell_empty dc9 (by with_unfolding_all rfl)); (try simp only [List.cons_append, List.nil_append] at N'); (try dsimp only); (try k_fold)))
  k_with "call ref" =>
   ((k_here; (with_reducible show wpAny _ _ (call (Value.ref 182) _) _ _ _); k_dflt (refine' one_use ?Zp ?Zq ?Zr ?Zs ?Zt ?Zu ?Zv ?Zw ?Zx ?Zy ?Zz ?Z10 ?Z11 ?Z12 ?_; (case Zw | Zy => k_asm); (case Zp => (repeat (first | exact Pull.head | apply Pull.tail))); (case Zq => k_asm); (case Zr => kqd_all); (case Zs => k_mem); (case Zt | Zu => (simp only [List.length_cons, List.length_nil]; omega)); (case Zv | Zx | Zz => k_asm); (case Z10 => first | exact rfl | with_reducible assumption); (case Z11 => ktr_room); (case Z12 => ktr_units)); intro r9 h9 tk9' x9 tx9 y9 ty9 ok9 F9 N9 hv9; (try simp only [List.nil_append, List.cons_append, List.append_nil] at N9); (simp only [List.mem_cons, List.not_mem_nil, or_false] at hv9); (try (obtain ⟨q9, u9, e9, Z13⟩ := name_of hv9; subst e9; clear hv9)); (try dsimp only); (try k_fold)))
  k_with "call ref" =>
   ((k_here; (with_reducible show wpAny _ _ (call (Value.ref 175) _) _ _ _); k_dflt (refine' dip_use ?Z14 ?Z15 ?Z16 ?Z17 ?Z18 ?Z19 ?Z1a ?Z1b ?Z1c ?Z1d ?Z1e ?Z1f ?Z1g ?_; (case Z1a | Z1c => k_asm); (case Z14 => (repeat (first | exact Pull.head | apply Pull.tail))); (case Z15 => k_asm); (case Z16 => kqd_all); (case Z17 | Z18 => omega); (case Z19 | Z1b | Z1d => k_asm); (case Z1e => first | exact rfl | with_reducible assumption); (case Z1f => ktr_room); (case Z1g => ktr_units)); intro k9 tk9 h9 tk9' x9 tx9 y9 ty9 ok9 F9 N9 lo9 hi9; (try simp only [List.nil_append, List.cons_append, List.append_nil] at N9); (try dsimp only); (try k_fold)))
  k_with "exec Assign cons ListComp" =>
   ((k_here; k_dflt (refine' assign_found ?Z1h ?Z1i ?Z1j ?Z1k ?Z1l ?Z1m ?Z1n ?Z1o ?Z1p ?Z1q ?Z1r ?Z1s ?Z1t ?Z1u ?Z1v ?Z1w ?Z1x ?Z1y ?Z1z ?Z20 ?Z21 ?Z22 ?Z23 ?Z24 ?Z25 ?Z26 ?_; (case Z1h => k_asm); (case Z1r => with_unfolding_all rfl); (case Z1y | Z1p => rfl); (case Z1q => with_unfolding_all rfl); (case Z1i => k_asm); (case Z25 => intro Q9 Z13; refine' nameX_L ?Z27 ?Z28 ?_; (case Z27 => k_asm); (case Z28 => exact rfl); exact Z13); (case Z1j => k_mem); (case Z1k => refine PairsIn.mono (by with_reducible assumption) ?_; tb_start); (case Z1l => k_asm); (case Z1m => k_mem); (case Z1n => k_asm); (case Z1o => rfl); (case Z1s => decide); (case Z1t => rfl); (case Z1u => decide); (case Z1v | Z1w => rfl); (case Z1x => decide); (case Z1z => rfl); (case Z20 | Z21 | Z22 => decide); (case Z23 | Z24 => rfl); (case Z26 => exact fun _ => rfl)); intro D9 h9 tk9 F9 N9 o9; (rcases dues_at (by with_reducible assumption) (by with_reducible assumption) with ⟨e9, s9⟩ | ⟨v9, d9, e9, s9, D9', b9⟩) <;> ((rw [e9] at N9); (try dsimp only); (try k_fold))))
  k_with "compareOp NotEq ref ref" =>
   ((k_here; k_dflt (first
   | (refine' found_ne0 ?Z29 ?Z2a ?Z2b ?Z2c ?_; (case Z29 => k_asm); (case Z2a | Z2b => k_mem); (case Z2c => ktr_units))
   | (refine' found_ne1 (k := 9) ?Z29 ?Z2a ?Z2b ?Z2d ?Z2e ?Z2f ?Z2g ?Z2c ?_; (case Z29 => k_asm); (case Z2a | Z2b => k_mem); (case Z2d => with_reducible assumption); (case Z2e => tb_start); (case Z2f => (refine ty_ok _ ?_; omega)); (case Z2g => decide); (case Z2c => ktr_units)))))
  k_with "execs cons" =>
   (k_here; (try k_gentoks); (first | ((fail_if_success (fail_if_success k_fold)); (with_reducible refine' ec_let2 ?_); intro q0 e0 K0) | ((with_reducible refine' ec_let ?_); intro K0)); (all_goals (try ((with_reducible rename Fr _ _ _ (fun _ => ite _ _ _) => f9); refine fr_let f9 ?_; clear f9; intro m0 F0))); (try dsimp only))
  k_with "eval Constant str" =>
   (with_reducible refine' con_str ?_)
  k_with "eval Constant int" =>
   (with_reducible refine' con_int ?_)
  k_with "subscriptTail Name Constant ref int" =>
   (k_extra "subscriptTail")
  k_with "callWith ref" =>
   (k_here; (with_reducible show wpAny _ _ (callWith _ (Value.ref _) _ (backTo _ (starEach (_ :: _) _)) []) _ _ _); k_dflt (refine' callWith_K ?zc1 ?zc2 ?_; (case zc1 => with_reducible assumption); (case zc2 => k_is); k_whole))
  k_with "callWith ref" =>
   (k_here; (with_reducible show wpAny _ _ (callWith _ (Value.ref _) _ (backTo _ (starEach [] _)) []) _ _ _); k_dflt (refine' callWith_K0 ?zc1 ?zc2 ?_; (case zc1 => exact Frag.In.keeps (by with_reducible assumption) (Fr.keep (by k_asm))); (case zc2 => k_is); k_whole))
  k_with "eval Name" =>
   (k_here; k_dflt (first
   | (refine' nameX_L ?zn1 ?zn2 ?_ ?zn3 ?zn4; (case zn3 | zn4 => rfl); (case zn1 => k_asm); (case zn2 => rfl); k_whole)
   | (refine' nameX_K ?zn1 ?zn2 ?zn3 ?zn4 ?_ ?zn5 ?zn6; (case zn5 | zn6 => rfl); (case zn1 | zn2 | zn3 => k_asm); (case zn4 => k_is); k_whole)
   | (refine' nameX_B ?zn1 ?zn2 ?zn3 ?zn4 ?zn5 ?zn6 ?_ ?zn7 ?zn8; (case zn7 | zn8 => rfl); (case zn1 | zn2 | zn3 => k_asm); (case zn4 => k_is); (case zn5 => boot_fast); (case zn6 => decide); k_whole)
   | fail))
  k_with "newTuple" =>
   (k_here; k_dflt (refine' tup_let ?z30 ?z4 ?z0 ?_; (case z30 | z4 => k_asm); (case z0 => kmk_size)); intro D' h' e' Y' F' N' l1; (try k_sweep))
  k_with "newList" =>
   (k_here; k_dflt (refine' lst_let ?z30 ?z4 ?z0 ?_; (case z30 | z4 => k_asm); (case z0 => kmk_size)); intro D' h' e' Y' F' N' l1; (try k_sweep))
  k_with "binaryOp Add ref ref" =>
   (k_here; (with_reducible show wpAny _ _ (binaryOp Operator.Add (Value.ref _) (Value.ref _)) _ _ _); k_dflt (refine' kde_addT ?z1 ?z27 ?z25 ?z2 ?z18 ?z23 ?z21 ?z24 ?_; (case z1 | z27 => k_asm); (case z25 | z2 => exact News.isTup (by k_asm) (by k_mem)); (case z18 | z23 => exact List.cons_ne_nil _ _); (case z21 => exact Nat.le_of_ble_eq_true rfl); (case z24 => kun_lit)); intro D' h' F' N' l1; (replace l1 := allLt_of l1); (try k_sweep))
  k_with "k_up" =>
   (first
   | with_reducible exact hp
   | ((with_reducible refine List.mem_cons_of_mem _ ?_); k_extra "k_up")
   | ((with_reducible refine List.mem_append_left _ ?_); k_extra "k_up")
   | ((with_reducible refine List.mem_append_right _ ?_); k_extra "k_up")
   | fail)
  k_with "w_tb_start" =>
   (first
   | exact sub_nil
   | (intro p hp; k_extra "k_up")
   | (refine' sub_trans ?z28 ?z13; (case z28 => with_reducible assumption); (case z13 => (intro p hp; k_extra "k_up")))
   | ((with_reducible refine sub_app ?_ ?_) <;> tb_start)
   | ((with_reducible refine sub_cons ?_ ?_); k_mem; tb_start)
   | fail)
  k_with "w_k_mem" =>
   (focus ((repeat (with_reducible first | exact List.mem_cons_self | refine List.mem_cons_of_mem _ ?_ | refine List.mem_append_left _ ?_)); done))
  k_with "w_kqd_sub" =>
   (with_reducible first
   | exact gdJ_nil
   | (refine' gdJ_app ?_ ?_ <;> kqd_sub)
   | (refine' gd_app ?_ ?_ <;> kqd_sub)
   | (refine' gdJ_new ?z32 ?z12 ?z22 ?z9; (case z12 | z22 => assumption); (case z32 | z9 => k_dflt tb_start))
   | (refine' gd_new ?z32 ?z12 ?z9; (case z12 => assumption); (case z32 | z9 => k_dflt tb_start))
   | (refine' gd_cons0 ?z15 ?z10; (case z15 => first | (refine' gd_had ?z31 ?z38; (case z38 => assumption); (case z31 => k_dflt k_mem)) | (refine' gd_one ?z31 ?z38 ?z37; (case z38 => assumption); (case z31 => k_dflt k_mem); (case z37 => k_dflt tb_start))); (case z10 => kqd_sub))
   | (refine' gdJ_old ?z32 ?z9; (case z9 | z32 => k_dflt tb_start))
   | (refine' gd_old ?z32 ?z9; (case z9 | z32 => k_dflt tb_start))
   | fail)
  k_with "w_tb_rel" =>
   (with_reducible first
   | exact DatP.none
   | exact DatP.bool _
   | exact DatP.int _ _
   | exact DatP.str _ _
   | exact DatPs.nil
   | (refine' DatPs.cons ?_ ?_ <;> first | ((with_reducible show DatP _ _ _); tb_rel) | ((with_reducible show DatPs _ _ _); tb_rel) | ((with_reducible show Dat); skip) | ((with_reducible show List Dat); skip))
   | (refine' datP_in ?z5 ?z37; (case z5 => assumption); (case z37 => k_dflt kqd_sub))
   | (refine' datP_gdJ ?z31 ?z34 ?z35; (case z31 => k_dflt k_mem); (case z34 => first | (refine' gdJ_had ?z31 ?z38; (case z38 => assumption); (case z31 => k_dflt k_mem)) | (refine' gdJ_one ?z31 ?z38 ?z37 ?z19; (case z38 => assumption); (case z31 => k_dflt k_mem); (case z37 => k_dflt tb_start); (case z19 => k_dflt (k_extra "k_ltA")))); (case z35 => tb_rel))
   | (refine' datP_gd ?z31 ?z34 ?z35; (case z31 => k_dflt k_mem); (case z34 => first | (refine' gd_had ?z31 ?z38; (case z38 => assumption); (case z31 => k_dflt k_mem)) | (refine' gd_one ?z31 ?z38 ?z37; (case z38 => assumption); (case z31 => k_dflt k_mem); (case z37 => k_dflt tb_start))); (case z35 => tb_rel))
   | fail)
  k_with "w_lcg_off" =>
   (with_reducible first
   | assumption
   | exact off3_nil
   | (refine' off3_app ?_ ?_ <;> lcg_off)
   | (refine' off3_any ?z40 ?z14 ?z3; (case z40 => assumption); (case z14 => k_dflt k_mem); (case z3 => lcg_off))
   | (refine' off3_cons ⟨?z42, ?z16, ?z17⟩ ?z3; (case z42 | z16 | z17 => k_dflt k_ne); (case z3 => lcg_off))
   | (refine' off3_above ?z40 ?z42 ?z16 ?z17; (case z40 => assumption); (case z42 | z16 | z17 => k_dflt k_mem))
   | (refine' off3_sub ?z40 ?z3; (case z40 => assumption); (case z3 => k_dflt tb_start))
   | fail)
  k_with "w_ktr_room" =>
   ((try simp only [depth_under_make, depth_under_kw, depth_in1, depth_deeper, depth_caller]); (try dsimp only [ktrTop]); with_reducible first
   | (refine' room2 ?z11 ?z20; (case z11 => assumption); (case z20 => k_dflt (first | exact Nat.le_of_ble_eq_true rfl | omega)))
   | (refine' room1 ?z11 ?z20; (case z11 => assumption); (case z20 => k_dflt (first | exact Nat.le_of_ble_eq_true rfl | omega)))
   | (refine' room0 ?z11; (case z11 => assumption))
   | fail)
  k_with "w_ktr_units" =>
   ((try simp only [units_in1, units_deeper, Around.mark_units, units_caller]); (try dsimp only [ktrTop]); with_reducible first
   | (refine' unit2 ?z11 ?z20; (case z11 => assumption); (case z20 => k_dflt (first | exact Nat.le_of_ble_eq_true rfl | omega)))
   | (refine' unit1 ?z11 ?z20; (case z11 => assumption); (case z20 => k_dflt (first | exact Nat.le_of_ble_eq_true rfl | omega)))
   | fail)
  k_with "k_ltA" =>
   (first
   | (refine' lt_all ?z6 ?z36; (case z6 => with_reducible assumption); (case z36 => k_mem))
   | (refine ltN ?_; omega))
  k_with "w_kqd_all" =>
   (with_reducible first
   | assumption
   | exact off_nil
   | (refine' off_cons ?z29 ?z39; (case z29 => k_dflt k_ne); (case z39 => kqd_all))
   | (refine' off_app ?_ ?_ <;> kqd_all)
   | (refine' off_sub ?z8 ?z7; (case z8 => assumption); (case z7 => k_dflt tb_start))
   | (refine' off_above ?z8 ?z7; (case z8 => assumption); (case z7 => k_dflt k_mem))
   | (refine' off_lt ?z8 ?z33 ?z7; (case z8 => assumption); (case z33 => k_dflt ((show (_ : Nat) ≤ _); omega)); (case z7 => k_dflt tb_start))
   | (refine' off_o3a ?z8 ?z7; (case z8 => assumption); (case z7 => k_dflt tb_start))
   | (refine' off_o3b ?z8 ?z7; (case z8 => assumption); (case z7 => k_dflt tb_start))
   | (refine' off_o3c ?z8 ?z7; (case z8 => assumption); (case z7 => k_dflt tb_start))
   | (refine' off_o1 ?z8 ?z7; (case z8 => assumption); (case z7 => k_dflt tb_start))
   | fail)
  k_with "w_k_ne" =>
   (first
   | with_reducible assumption
   | (refine' ne_all ?z6 ?z36; (case z6 => with_reducible assumption); (case z36 => k_mem))
   | (refine' ne_all2 ?z6 ?z36; (case z6 => with_reducible assumption); (case z36 => k_mem))
   | (refine' Ne.symm ?z6; (case z6 => with_reducible assumption))
   | (refine' ne_o3a ?z6 ?z36; (case z6 => with_reducible assumption); (case z36 => k_mem))
   | (refine' ne_o3b ?z6 ?z36; (case z6 => with_reducible assumption); (case z36 => k_mem))
   | (refine' ne_o3c ?z6 ?z36; (case z6 => with_reducible assumption); (case z36 => k_mem))
   | (refine' ne_o3a' ?z6 ?z36; (case z6 => with_reducible assumption); (case z36 => k_mem))
   | (refine' ne_o3b' ?z6 ?z36; (case z6 => with_reducible assumption); (case z36 => k_mem))
   | (refine' ne_o3c' ?z6 ?z36; (case z6 => with_reducible assumption); (case z36 => k_mem))
   | (refine' ne_o1 ?z6 ?z36; (case z6 => with_reducible assumption); (case z36 => k_mem))
   | (refine' ne_o1' ?z6 ?z36; (case z6 => with_reducible assumption); (case z36 => k_mem))
   | (refine' ne_of_lt' ?z6; (case z6 => with_reducible assumption))
   | (refine' ne_of_gt' ?z6; (case z6 => with_reducible assumption))
   | (refine' ne_tr ?z41 ?z6 ?z36; (case z41 | z6 => with_reducible assumption); (case z36 => k_mem))
   | (refine' ne_trs ?z41 ?z6 ?z36; (case z41 | z6 => with_reducible assumption); (case z36 => k_mem))
   | (refine' ne_tr2 ?z41 ?z26 ?z6 ?z36; (case z41 | z26 | z6 => with_reducible assumption); (case z36 => k_mem))
   | (refine' ne_tr2s ?z41 ?z26 ?z6 ?z36; (case z41 | z26 | z6 => with_reducible assumption); (case z36 => k_mem))
   | (with_reducible refine' ne_up1 ?z6 ?z36; (case z6 => assumption); (case z36 => k_dflt k_mem))
   | (with_reducible refine' ne_up2 ?z6 ?z36; (case z6 => assumption); (case z36 => k_dflt k_mem))
   | (with_reducible refine' ne_up3 ?z6 ?z36; (case z6 => assumption); (case z36 => k_dflt k_mem))
   | (with_reducible refine' ne_dn1 ?z6 ?z36; (case z6 => assumption); (case z36 => k_dflt k_mem))
   | (with_reducible refine' ne_dn2 ?z6 ?z36; (case z6 => assumption); (case z36 => k_dflt k_mem))
   | (with_reducible refine' ne_dn3 ?z6 ?z36; (case z6 => assumption); (case z36 => k_dflt k_mem))
   | fail)
  k_with "pack" =>
   skip
  trivial
theorem type0 {j a : Addr} {x y i : Int} {tx ty t : Tok} {n : Nat} {rest D : List (Addr × Obj)} (hi : i = 0) (ok : JarOk x y) (off : Off j rest) (hV : σ .V = none) (hds : DuesIn rest D a σ) (hs1 : ∀ p ∈ D, p ∈ rest) : CallOk PySem.Challenge.rw_xm0591_01.row.prog w (hd.heap_1 w.params) topProg loose mean mg mb 24 194 [.ref j, .int i t, .ref a] ((j, jarO x tx y ty n) :: rest) (JPost j n D rest (TypR σ 0)) := by
  obtain ⟨k1, its, ps, hm1, hps, hlen, hda⟩ := hds
  unfold CallOk
  intro dp un gd cn cs a' ccd cl outer A₀ base h₀ L m s Q E B F X N T hk hdp hun hret
  replace N := News.add N (.tail _ hm1)
  have haj : @Ne Nat a j := off _ hm1
  refine wpAny_call ?_
  k_dflt ktr_enter
  all_goals (try (with_reducible rename News _ _ _ _ => nL9; refine led_let nL9 ?_; clear nL9; intro Y0 N9))
  k_steps
  all_goals (refine hret _ _ _ _ (by k_asm) (by k_asm) ?_)
  all_goals (repeat (with_reducible rename _ ∧ _ => hc; (have hcl := hc.1); (have hcr := hc.2); clear hc))
  · rename _ ∨ _ => hv
    rcases hv with rfl | rfl | rfl | rfl
    · exact ⟨_, _, _, _, _, by assumption, by k_mem, by tb_start, typR_of .int .int (Nat.le_refl _) rfl, by dsimp only [tyD, pmS]; tb_rel⟩
    · exact ⟨_, _, _, _, _, by assumption, by k_mem, by tb_start, typR_of .bool .bool (Nat.le_refl _) rfl, by dsimp only [tyD, pmS]; tb_rel⟩
    · exact ⟨_, _, _, _, _, by assumption, by k_mem, by tb_start, typR_of .never .never (Nat.le_refl _) rfl, by dsimp only [tyD, pmS]; tb_rel⟩
    · exact ⟨_, _, _, _, _, by assumption, by k_mem, by tb_start, typR_of (.par .V) (.par .V) (Nat.le_refl _) (due_none hV), by dsimp only [tyD, pmS]; tb_rel⟩
  · exact ⟨_, _, _, _, _, by assumption, by k_mem, by tb_start, typR_of (.par _) _ (Nat.le_refl _) (due_none (by with_reducible assumption)), by dsimp only [tyD]; tb_rel⟩
  · exact ⟨_, _, _, _, _, by assumption, by k_mem, by tb_start, typR_of (.par _) _ (Nat.le_refl _) (due_some (by with_reducible assumption)), by dsimp only [tyD]; tb_rel⟩
end
end Mine
namespace Mine
example : True := by
  w_top off
  k_with_none
  trivial

section
variable {w : World} {loose : List Str} {mean : ExcName → Option Value} {mg mb : Str → Option Value} {σ : Pm → Option Ty}
theorem typR_int {k : Nat} : TypR σ k (.tuple [.tuple [.str (Str.ofString "int"), .str (Str.ofString "u8")], .tuple [.str (Str.ofString "int"), .str (Str.ofString "u8")]]) := ⟨.int, Nat.zero_le _, rfl⟩
theorem typR_bool {k : Nat} : TypR σ k (.tuple [.tuple [.str (Str.ofString "bool")], .tuple [.str (Str.ofString "bool")]]) := ⟨.bool, Nat.zero_le _, rfl⟩
theorem typR_never {k : Nat} : TypR σ k (.tuple [.tuple [.str (Str.ofString "never")], .tuple [.str (Str.ofString "never")]]) := ⟨.never, Nat.zero_le _, rfl⟩
theorem typR_V {k : Nat} (h : σ .V = none) : TypR σ k (.tuple [.tuple [.str (Str.ofString "param"), .str (Str.ofString "V")], .tuple [.str (Str.ofString "param"), .str (Str.ofString "V")]]) := ⟨.par .V, Nat.zero_le _, by rw [due_none h]; rfl⟩
theorem typR_none {k : Nat} {q : Pm} (h : σ q = none) : TypR σ k (.tuple [.tuple [.str (Str.ofString "param"), .str (pmS q)], .tuple [.str (Str.ofString "param"), .str (pmS q)]]) := ⟨.par q, Nat.zero_le _, by rw [due_none h]; rfl⟩
theorem typR_some {k : Nat} {q : Pm} {d : Ty} (h : σ q = some d) : TypR σ k (.tuple [.tuple [.str (Str.ofString "param"), .str (pmS q)], tyD d]) := ⟨.par q, Nat.zero_le _, by rw [due_some h]; rfl⟩
theorem typR_ref {k : Nat} {r : Rg} {b : Bool} {t : Ty} (h : t.dp ≤ k) : TypR σ (k + 1) (.tuple [.tuple [.str (Str.ofString "ref"), rgD r, .bool b, tyD t], .tuple [.str (Str.ofString "ref"), .none, .bool b, tyD (due σ t)]]) := ⟨.ref r b t, Nat.succ_le_succ h, rfl⟩
theorem typR_box {k : Nat} {t : Ty} (h : t.dp ≤ k) : TypR σ (k + 1) (.tuple [.tuple [.str (Str.ofString "box"), tyD t], .tuple [.str (Str.ofString "box"), tyD (due σ t)]]) := ⟨.box t, Nat.succ_le_succ h, rfl⟩
theorem typR_arr {k : Nat} {t : Ty} (h : t.dp ≤ k) : TypR σ (k + 1) (.tuple [.tuple [.str (Str.ofString "array"), tyD t, .int 3], .tuple [.str (Str.ofString "array"), tyD (due σ t), .int 3]]) := ⟨.arr t, Nat.succ_le_succ h, rfl⟩
theorem typR_adt {k : Nat} {r : Rg} {t : Ty} (h : t.dp ≤ k) : TypR σ (k + 1) (.tuple [.tuple [.str (Str.ofString "adt"), .str (Str.ofString "m::E"), .tuple [rgD r], .tuple [tyD t]], .tuple [.str (Str.ofString "adt"), .str (Str.ofString "m::E"), .tuple [.none], .tuple [tyD (due σ t)]]]) := ⟨.adt r t, Nat.succ_le_succ h, rfl⟩
theorem typR_tup {k : Nat} {t u : Ty} (h : t.dp ≤ k) (g : u.dp ≤ 0) : TypR σ (k + 1) (.tuple [.tuple [.str (Str.ofString "tuple"), .tuple [tyD t, tyD u]], .tuple [.str (Str.ofString "tuple"), .tuple [tyD (due σ t), tyD (due σ u)]]]) := ⟨.tup t u, by simp only [Ty.dp]; omega, rfl⟩
def TypeOk (w : World) (loose : List Str) (mean : ExcName → Option Value) (mg mb : Str → Option Value) (σ : Pm → Option Ty) (k rk : Nat) : Prop :=
  ∀ {j a : Addr} {x y i : Int} {tx ty t : Tok} {n : Nat} {rest D : List (Addr × Obj)} (hi : i = (k : Int)) (ok : JarOk x y) (off : Off j rest) (hV : σ .V = none) (hds : DuesIn rest D a σ) (hs1 : ∀ p ∈ D, p ∈ rest), CallOk PySem.Challenge.rw_xm0591_01.row.prog w (hd.heap_1 w.params) topProg loose mean mg mb rk 194 [.ref j, .int i t, .ref a] ((j, jarO x tx y ty n) :: rest) (JPost j n D rest (TypR σ k))
theorem type_use {dp un : Nat} {gd : Option (List Code)} {cn : Str} {cs : Scope} {a : Addr} {ccd : Value} {cl : List (Str × Addr)} {outer : List Env} {A₀ : Around} {base h₀ : Heap} {L : Addr} {m : Str → Option Value} {hS : Heap} {gS : Array GenState} {dS : Drawn} {tS : Nat} {oS : OsState} {Q E : Value → Shared → Prop} {kk rk : Nat} {i : Int} {t : Tok} {D : List (Addr × Obj)} {b : Addr} {j : Addr} {x y : Int} {tx ty : Tok} {n : Nat} {news rest : List (Addr × Obj)}
  (P : Pull (j, jarO x tx y ty n) news rest) (ok : JarOk x y) (off : Off j rest) (hC : TypeOk w loose mean mg mb σ kk rk) (hi : i = (kk : Int)) (hV : σ .V = none) (hds : DuesIn rest D b σ) (hs1 : ∀ p ∈ D, p ∈ rest) (B : Below A₀ base outer h₀) (F : Fr h₀ L hS m) (X : (hd.heap_1 w.params).In h₀) (N : News h₀ L hS news) (T : Top topProg loose mean mg mb h₀) (hk : cs.kind = .function) (hr : dp + rk < recursionLimit) (hu : un + 8 * rk < cLine)
  (ret : ∀ p v1 v2 n2 tl tt h' tk' x' tx' y' ty', JarOk x' y' → Fr h₀ L h' m → News h₀ L h' ((p, tupO [v1, v2] n2) :: (j, jarO x' tx' y' ty' n) :: (rest ++ tl)) → Above rest tl → (∀ p ∈ tl, @LT.lt Nat _ j p.1) → Off j tl → @Ne Nat p j → tt.dp ≤ kk → Dt (D ++ tl) v1 (tyD tt) → Dt (D ++ tl) v2 (tyD (due σ tt)) → Q (.ref p) ⟨h', gS, dS, tk', oS⟩) : wpAny (model PySem.Challenge.rw_xm0591_01.row.prog w) (ktrTop dp un gd cn cs L a ccd cl outer) (call (.ref 194) [.ref j, .int i t, .ref b]) Q E ⟨hS, gS, dS, tS, oS⟩ :=
  jar_use B F X N T hk P (hC hi ok off hV hds hs1) hr hu fun r tl h' tk' x' tx' y' ty' d ok' hR F' N' ab hj ho dt => by
    obtain ⟨tt, hdp, rfl⟩ := hR
    obtain ⟨p, v1, v2, n2, rfl, hm, d1, d2⟩ := in_tup2 dt
    have hp : (p, tupO [v1, v2] n2) ∈ rest ++ tl := (List.mem_append.mp hm).elim (fun h => List.mem_append.mpr (.inl (hs1 _ h))) (fun h => List.mem_append.mpr (.inr h))
    exact ret p v1 v2 n2 tl tt h' tk' x' tx' y' ty' ok' F' (News.add N' (.tail _ hp)) ab hj ho (off_app off ho _ hp) hdp d1 d2

theorem jpost_of {j : Addr} {n : Nat} {D rest : List (Addr × Obj)} {R : Dat → Prop} {r : Value} {l : List (Addr × Obj)} {x y : Int} {tx ty : Tok} (d : Dat) (ok : JarOk x y) (hj : (j, jarO x tx y ty n) ∈ l) (hs : ∀ p ∈ rest, p ∈ l) (hd : DatP (GdJ j D rest l) r d) (hR : R d) : JPost j n D rest R r l := ⟨x, tx, y, ty, d, ok, hj, hs, hR, hd⟩
theorem int_pred {i : Int} {k : Nat} (h : i = ((k + 1 : Nat) : Int)) : i - 1 = (k : Int) := by omega
theorem DuesIn.mono {l l' D : List (Addr × Obj)} {a : Addr} (h : DuesIn l D a σ) (hs : ∀ p ∈ l, p ∈ l') : DuesIn l' D a σ := by
  obtain ⟨k, its, ps, hm, hp, r⟩ := h
  exact ⟨k, its, ps, hs _ hm, hp.mono hs, r⟩

example : True := by
  k_with_none
  k_with "subscriptTail" =>
   ((k_here; (with_reducible show wpAny _ _ (subscriptTail _ _ (Value.ref _) (Value.int _ _)) _ _ _); k_dflt (first
   | (refine' my_tup ?Z0 ?Z1 ?Z2 ?Z3 ?Z4 ?Z5 ?_; (case Z0 => k_asm); (case Z1 => k_mem); (case Z2 | Z3 => decide); (case Z4 | Z5 => rfl); k_whole)
   | (refine' my_lst ?Z0 ?Z1 ?Z2 ?Z3 ?Z5 ?_; (case Z0 => k_asm); (case Z1 => k_mem); (case Z2 | Z3 => decide); (case Z5 => rfl); k_whole))))
  k_with "eval Name" =>
   ((k_here; k_dflt (refine' nameX_L ?Z6 ?Z7 ?_; (case Z6 => k_asm); (case Z7 => exact rfl); k_whole)))
  k_with "w_k_all" =>
   (first | assumption | ((show Off _ _); kqd_all))
  k_with "w_k_room" =>
   (ktr_room)
  k_with "w_ktr_enter" =>
   ((refine' code_defC ?Z8 ?Z9 ?Za ?Zb ?Zc ?Zd ?Ze ?Zf ?Zg ?Zh ?Zi ?Zj ?Zk ?Zl ?_ ?Zm ?Zn ?Zo; (case Zd | Ze => exact rfl); (case Zf => first | exact rfl | assumption); (case Z8 | Z9 | Za | Zb | Zc => k_asm); (case Zg | Zh => k_is); (case Zi => ktr_room); (case Zj => exact BindsTo.of_eq rfl); (case Zk => exact rfl); (case Zl => decide +kernel); (case Zm | Zn | Zo => exact rfl); k_whole; intro g' L' h' tk' cells' FG' F' N' Y' B' X' T' l1; (have hoc9 := cell_off l1); (try k_lt l1); k_cells Y'; (with_reducible rename Obj.data _ = _ => dc9); (replace dc9 := cell_empty dc9 (by with_unfolding_all rfl)); (try simp only [List.cons_append, List.nil_append] at N'); (try dsimp only); (try k_fold)))
  k_with "call ref" =>
   ((k_here; (with_reducible show wpAny _ _ (call (Value.ref 182) _) _ _ _); k_dflt (refine' one_use ?Zp ?Zq ?Zr ?Zs ?Zt ?Zu ?Zv ?Zw ?Zx ?Zy ?Zz ?Z10 ?Z11 ?Z12 ?_; (case Zw | Zy => k_asm); (case Zp => (repeat (first | exact Pull.head | apply Pull.tail))); (case Zq => k_asm); (case Zr => kqd_all); (case Zs => k_mem); (case Zt | Zu => (simp only [List.length_cons, List.length_nil]; omega)); (case Zv | Zx | Zz => k_asm); (case Z10 => first | exact rfl | with_reducible assumption); (case Z11 => ktr_room); (case Z12 => ktr_units)); intro r9 h9 tk9' x9 tx9 y9 ty9 ok9 F9 N9 hv9; (try simp only [List.nil_append, List.cons_append, List.append_nil] at N9); (simp only [List.mem_cons, List.not_mem_nil, or_false] at hv9); (try (obtain ⟨q9, u9, e9, Z13⟩ := name_of hv9; subst e9; clear hv9)); (try dsimp only); (try k_fold)))
  k_with "call ref" =>
   ((k_here; (with_reducible show wpAny _ _ (call (Value.ref 175) _) _ _ _); k_dflt (refine' dip_use ?Z14 ?Z15 ?Z16 ?Z17 ?Z18 ?Z19 ?Z1a ?Z1b ?Z1c ?Z1d ?Z1e ?Z1f ?Z1g ?_; (case Z1a | Z1c => k_asm); (case Z14 => (repeat (first | exact Pull.head | apply Pull.tail))); (case Z15 => k_asm); (case Z16 => kqd_all); (case Z17 | Z18 => omega); (case Z19 | Z1b | Z1d => k_asm); (case Z1e => first | exact rfl | with_reducible assumption); (case Z1f => ktr_room); (case Z1g => ktr_units)); intro k9 tk9 h9 tk9' x9 tx9 y9 ty9 ok9 F9 N9 lo9 hi9; (try simp only [List.nil_append, List.cons_append, List.append_nil] at N9); (try dsimp only); (try k_fold)))
  k_with "call ref" =>
   ((k_here; (with_reducible show wpAny _ _ (call (Value.ref 189) _) _ _ _); k_dflt (refine' reg_use ?Z1h ?Z1i ?Z1j ?Z1k ?Z1l ?Z1m ?Z1n ?Z1o ?Z1p ?Z1q ?Z1r ?_; (case Z1l | Z1n => k_asm); (case Z1h => (repeat (first | exact Pull.head | apply Pull.tail))); (case Z1i => k_asm); (case Z1j => kqd_all); (case Z1k | Z1m | Z1o => k_asm); (case Z1p => first | exact rfl | with_reducible assumption); (case Z1q => ktr_room); (case Z1r => ktr_units)); intro r9 tl9 rg9 h9 tk9' x9 tx9 y9 ty9 ok9 F9 N9 ab9 hj9 ho9 dt9; (try simp only [List.nil_append, List.cons_append, List.append_nil] at N9); (try dsimp only); (try k_fold)))
  k_with "call ref" =>
   ((k_here; (with_reducible show wpAny _ _ (call (Value.ref 194) _) _ _ _); k_dflt (refine' type_use ?Z1s ?Z1t ?Z1u ?Z1v ?Z1w ?Z1x ?Z1y ?Z1z ?Z20 ?Z21 ?Z22 ?Z23 ?Z24 ?Z25 ?Z26 ?Z27 ?_; (case Z21 | Z23 => k_asm); (case Z1s => (repeat (first | exact Pull.head | apply Pull.tail))); (case Z1w => first | (with_reducible exact Int.ofNat_zero.symm) | exact int_pred (by with_reducible assumption)); (case Z1v => with_reducible assumption); (case Z1t => k_asm); (case Z1u => kqd_all); (case Z1x => k_asm); (case Z1y => first | with_reducible assumption | (refine DuesIn.mono (by with_reducible assumption) ?_ ; tb_start)); (case Z1z => tb_start); (case Z20 | Z22 | Z24 => k_asm); (case Z25 => first | exact rfl | with_reducible assumption); (case Z26 => ktr_room); (case Z27 => ktr_units)); intro p9 v9 u9 n9 tl9 tt9 h9 tk9' x9 tx9 y9 ty9 ok9 F9 N9 ab9 hj9 ho9 ne9 dp9 dt9 du9; (try simp only [List.nil_append, List.cons_append, List.append_nil] at N9); (try dsimp only); (try k_fold)))
  k_with "exec Assign cons ListComp" =>
   ((k_here; k_dflt (refine' assign_found ?Z28 ?Z29 ?Z2a ?Z2b ?Z2c ?Z2d ?Z2e ?Z2f ?Z2g ?Z2h ?Z2i ?Z2j ?Z2k ?Z2l ?Z2m ?Z2n ?Z2o ?Z2p ?Z2q ?Z2r ?Z2s ?Z2t ?Z2u ?Z2v ?Z2w ?Z2x ?_; (case Z28 => k_asm); (case Z2i => with_unfolding_all rfl); (case Z2p | Z2g => rfl); (case Z2h => with_unfolding_all rfl); (case Z29 => k_asm); (case Z2w => intro Q9 Z13; refine' nameX_L ?Z2y ?Z2z ?_; (case Z2y => k_asm); (case Z2z => exact rfl); exact Z13); (case Z2a => k_mem); (case Z2b => refine PairsIn.mono (by with_reducible assumption) ?_; tb_start); (case Z2c => k_asm); (case Z2d => k_mem); (case Z2e => k_asm); (case Z2f => rfl); (case Z2j => decide); (case Z2k => rfl); (case Z2l => decide); (case Z2m | Z2n => rfl); (case Z2o => decide); (case Z2q => rfl); (case Z2r | Z2s | Z2t => decide); (case Z2u | Z2v => rfl); (case Z2x => exact fun _ => rfl)); intro D9 h9 tk9 F9 N9 o9; (rcases dues_at (by with_reducible assumption) (by with_reducible assumption) with ⟨e9, s9⟩ | ⟨v9, d9, e9, s9, D9', b9⟩) <;> ((rw [e9] at N9); (try dsimp only); (try k_fold))))
  k_with "compareOp NotEq ref ref" =>
   ((k_here; k_dflt (first
   | (refine' found_ne0 ?Z30 ?Z31 ?Z32 ?Z33 ?_; (case Z30 => k_asm); (case Z31 | Z32 => k_mem); (case Z33 => ktr_units))
   | (refine' found_ne1 (k := 9) ?Z30 ?Z31 ?Z32 ?Z34 ?Z35 ?Z36 ?Z37 ?Z33 ?_; (case Z30 => k_asm); (case Z31 | Z32 => k_mem); (case Z34 => with_reducible assumption); (case Z35 => tb_start); (case Z36 => (refine ty_ok _ ?_; omega)); (case Z37 => decide); (case Z33 => ktr_units)))))
  k_with "execs cons" =>
   (k_here; (try k_gentoks); (first | ((fail_if_success (fail_if_success k_fold)); (with_reducible refine' ec_let2 ?_); intro q0 e0 K0) | ((with_reducible refine' ec_let ?_); intro K0)); (all_goals (try ((with_reducible rename Fr _ _ _ (fun _ => ite _ _ _) => f9); refine fr_let f9 ?_; clear f9; intro m0 F0))); (try dsimp only))
  k_with "eval Constant str" =>
   (with_reducible refine' con_str ?_)
  k_with "eval Constant int" =>
   (with_reducible refine' con_int ?_)
  k_with "subscriptTail Name Constant ref int" =>
   (k_extra "subscriptTail")
  k_with "callWith ref" =>
   (k_here; (with_reducible show wpAny _ _ (callWith _ (Value.ref _) _ (backTo _ (starEach (_ :: _) _)) []) _ _ _); k_dflt (refine' callWith_K ?zc1 ?zc2 ?_; (case zc1 => with_reducible assumption); (case zc2 => k_is); k_whole))
  k_with "callWith ref" =>
   (k_here; (with_reducible show wpAny _ _ (callWith _ (Value.ref _) _ (backTo _ (starEach [] _)) []) _ _ _); k_dflt (refine' callWith_K0 ?zc1 ?zc2 ?_; (case zc1 => exact Frag.In.keeps (by with_reducible assumption) (Fr.keep (by k_asm))); (case zc2 => k_is); k_whole))
  k_with "eval Name" =>
   (k_here; k_dflt (first
   | (refine' nameX_L ?zn1 ?zn2 ?_ ?zn3 ?zn4; (case zn3 | zn4 => rfl); (case zn1 => k_asm); (case zn2 => rfl); k_whole)
   | (refine' nameX_K ?zn1 ?zn2 ?zn3 ?zn4 ?_ ?zn5 ?zn6; (case zn5 | zn6 => rfl); (case zn1 | zn2 | zn3 => k_asm); (case zn4 => k_is); k_whole)
   | (refine' nameX_B ?zn1 ?zn2 ?zn3 ?zn4 ?zn5 ?zn6 ?_ ?zn7 ?zn8; (case zn7 | zn8 => rfl); (case zn1 | zn2 | zn3 => k_asm); (case zn4 => k_is); (case zn5 => boot_fast); (case zn6 => decide); k_whole)
   | fail))
  k_with "newTuple" =>
   (k_here; k_dflt (refine' tup_let ?z30 ?z4 ?z0 ?_; (case z30 | z4 => k_asm); (case z0 => kmk_size)); intro D' h' e' Y' F' N' l1; (try k_sweep))
  k_with "newList" =>
   (k_here; k_dflt (refine' lst_let ?z30 ?z4 ?z0 ?_; (case z30 | z4 => k_asm); (case z0 => kmk_size)); intro D' h' e' Y' F' N' l1; (try k_sweep))
  k_with "binaryOp Add ref ref" =>
   (k_here; (with_reducible show wpAny _ _ (binaryOp Operator.Add (Value.ref _) (Value.ref _)) _ _ _); k_dflt (refine' kde_addT ?z1 ?z27 ?z25 ?z2 ?z18 ?z23 ?z21 ?z24 ?_; (case z1 | z27 => k_asm); (case z25 | z2 => exact News.isTup (by k_asm) (by k_mem)); (case z18 | z23 => exact List.cons_ne_nil _ _); (case z21 => exact Nat.le_of_ble_eq_true rfl); (case z24 => kun_lit)); intro D' h' F' N' l1; (replace l1 := allLt_of l1); (try k_sweep))
  k_with "k_up" =>
   (first
   | with_reducible exact hp
   | ((with_reducible refine List.mem_cons_of_mem _ ?_); k_extra "k_up")
   | ((with_reducible refine List.mem_append_left _ ?_); k_extra "k_up")
   | ((with_reducible refine List.mem_append_right _ ?_); k_extra "k_up")
   | fail)
  k_with "w_tb_start" =>
   (first
   | exact sub_nil
   | (intro p hp; k_extra "k_up")
   | (refine' sub_trans ?z28 ?z13; (case z28 => with_reducible assumption); (case z13 => (intro p hp; k_extra "k_up")))
   | ((with_reducible refine sub_app ?_ ?_) <;> tb_start)
   | ((with_reducible refine sub_cons ?_ ?_); k_mem; tb_start)
   | fail)
  k_with "w_k_mem" =>
   (focus ((repeat (with_reducible first | exact List.mem_cons_self | refine List.mem_cons_of_mem _ ?_ | refine List.mem_append_left _ ?_)); done))
  k_with "w_kqd_sub" =>
   (with_reducible first
   | exact gdJ_nil
   | (refine' gdJ_app ?_ ?_ <;> kqd_sub)
   | (refine' gd_app ?_ ?_ <;> kqd_sub)
   | (refine' gdJ_new ?z32 ?z12 ?z22 ?z9; (case z12 | z22 => assumption); (case z32 | z9 => k_dflt tb_start))
   | (refine' gd_new ?z32 ?z12 ?z9; (case z12 => assumption); (case z32 | z9 => k_dflt tb_start))
   | (refine' gd_cons0 ?z15 ?z10; (case z15 => first | (refine' gd_had ?z31 ?z38; (case z38 => assumption); (case z31 => k_dflt k_mem)) | (refine' gd_one ?z31 ?z38 ?z37; (case z38 => assumption); (case z31 => k_dflt k_mem); (case z37 => k_dflt tb_start))); (case z10 => kqd_sub))
   | (refine' gdJ_old ?z32 ?z9; (case z9 | z32 => k_dflt tb_start))
   | (refine' gd_old ?z32 ?z9; (case z9 | z32 => k_dflt tb_start))
   | fail)
  k_with "w_tb_rel" =>
   (with_reducible first
   | exact DatP.none
   | exact DatP.bool _
   | exact DatP.int _ _
   | exact DatP.str _ _
   | exact DatPs.nil
   | (refine' DatPs.cons ?_ ?_ <;> first | ((with_reducible show DatP _ _ _); tb_rel) | ((with_reducible show DatPs _ _ _); tb_rel) | ((with_reducible show Dat); skip) | ((with_reducible show List Dat); skip))
   | (refine' datP_in ?z5 ?z37; (case z5 => assumption); (case z37 => k_dflt kqd_sub))
   | (refine' datP_gdJ ?z31 ?z34 ?z35; (case z31 => k_dflt k_mem); (case z34 => first | (refine' gdJ_had ?z31 ?z38; (case z38 => assumption); (case z31 => k_dflt k_mem)) | (refine' gdJ_one ?z31 ?z38 ?z37 ?z19; (case z38 => assumption); (case z31 => k_dflt k_mem); (case z37 => k_dflt tb_start); (case z19 => k_dflt (k_extra "k_ltA")))); (case z35 => tb_rel))
   | (refine' datP_gd ?z31 ?z34 ?z35; (case z31 => k_dflt k_mem); (case z34 => first | (refine' gd_had ?z31 ?z38; (case z38 => assumption); (case z31 => k_dflt k_mem)) | (refine' gd_one ?z31 ?z38 ?z37; (case z38 => assumption); (case z31 => k_dflt k_mem); (case z37 => k_dflt tb_start))); (case z35 => tb_rel))
   | fail)
  k_with "w_lcg_off" =>
   (with_reducible first
   | assumption
   | exact off3_nil
   | (refine' off3_app ?_ ?_ <;> lcg_off)
   | (refine' off3_any ?z40 ?z14 ?z3; (case z40 => assumption); (case z14 => k_dflt k_mem); (case z3 => lcg_off))
   | (refine' off3_cons ⟨?z42, ?z16, ?z17⟩ ?z3; (case z42 | z16 | z17 => k_dflt k_ne); (case z3 => lcg_off))
   | (refine' off3_above ?z40 ?z42 ?z16 ?z17; (case z40 => assumption); (case z42 | z16 | z17 => k_dflt k_mem))
   | (refine' off3_sub ?z40 ?z3; (case z40 => assumption); (case z3 => k_dflt tb_start))
   | fail)
  k_with "w_ktr_room" =>
   ((try simp only [depth_under_make, depth_under_kw, depth_in1, depth_deeper, depth_caller]); (try dsimp only [ktrTop]); with_reducible first
   | (refine' room2 ?z11 ?z20; (case z11 => assumption); (case z20 => k_dflt (first | exact Nat.le_of_ble_eq_true rfl | omega)))
   | (refine' room1 ?z11 ?z20; (case z11 => assumption); (case z20 => k_dflt (first | exact Nat.le_of_ble_eq_true rfl | omega)))
   | (refine' room0 ?z11; (case z11 => assumption))
   | fail)
  k_with "w_ktr_units" =>
   ((try simp only [units_in1, units_deeper, Around.mark_units, units_caller]); (try dsimp only [ktrTop]); with_reducible first
   | (refine' unit2 ?z11 ?z20; (case z11 => assumption); (case z20 => k_dflt (first | exact Nat.le_of_ble_eq_true rfl | omega)))
   | (refine' unit1 ?z11 ?z20; (case z11 => assumption); (case z20 => k_dflt (first | exact Nat.le_of_ble_eq_true rfl | omega)))
   | fail)
  k_with "k_ltA" =>
   (first
   | (refine' lt_all ?z6 ?z36; (case z6 => with_reducible assumption); (case z36 => k_mem))
   | (refine ltN ?_; omega))
  k_with "w_kqd_all" =>
   (with_reducible first
   | assumption
   | exact off_nil
   | (refine' off_cons ?z29 ?z39; (case z29 => k_dflt k_ne); (case z39 => kqd_all))
   | (refine' off_app ?_ ?_ <;> kqd_all)
   | (refine' off_sub ?z8 ?z7; (case z8 => assumption); (case z7 => k_dflt tb_start))
   | (refine' off_above ?z8 ?z7; (case z8 => assumption); (case z7 => k_dflt k_mem))
   | (refine' off_lt ?z8 ?z33 ?z7; (case z8 => assumption); (case z33 => k_dflt ((show (_ : Nat) ≤ _); omega)); (case z7 => k_dflt tb_start))
   | (refine' off_o3a ?z8 ?z7; (case z8 => assumption); (case z7 => k_dflt tb_start))
   | (refine' off_o3b ?z8 ?z7; (case z8 => assumption); (case z7 => k_dflt tb_start))
   | (refine' off_o3c ?z8 ?z7; (case z8 => assumption); (case z7 => k_dflt tb_start))
   | (refine' off_o1 ?z8 ?z7; (case z8 => assumption); (case z7 => k_dflt tb_start))
   | fail)
  k_with "w_k_ne" =>
   (first
   | with_reducible assumption
   | (refine' ne_all ?z6 ?z36; (case z6 => with_reducible assumption); (case z36 => k_mem))
   | (refine' ne_all2 ?z6 ?z36; (case z6 => with_reducible assumption); (case z36 => k_mem))
   | (refine' Ne.symm ?z6; (case z6 => with_reducible assumption))
   | (refine' ne_o3a ?z6 ?z36; (case z6 => with_reducible assumption); (case z36 => k_mem))
   | (refine' ne_o3b ?z6 ?z36; (case z6 => with_reducible assumption); (case z36 => k_mem))
   | (refine' ne_o3c ?z6 ?z36; (case z6 => with_reducible assumption); (case z36 => k_mem))
   | (refine' ne_o3a' ?z6 ?z36; (case z6 => with_reducible assumption); (case z36 => k_mem))
   | (refine' ne_o3b' ?z6 ?z36; (case z6 => with_reducible assumption); (case z36 => k_mem))
   | (refine' ne_o3c' ?z6 ?z36; (case z6 => with_reducible assumption); (case z36 => k_mem))
   | (refine' ne_o1 ?z6 ?z36; (case z6 => with_reducible assumption); (case z36 => k_mem))
   | (refine' ne_o1' ?z6 ?z36; (case z6 => with_reducible assumption); (case z36 => k_mem))
   | (refine' ne_of_lt' ?z6; (case z6 => with_reducible assumption))
   | (refine' ne_of_gt' ?z6; (case z6 => with_reducible assumption))
   | (refine' ne_tr ?z41 ?z6 ?z36; (case z41 | z6 => with_reducible assumption); (case z36 => k_mem))
   | (refine' ne_trs ?z41 ?z6 ?z36; (case z41 | z6 => with_reducible assumption); (case z36 => k_mem))
   | (refine' ne_tr2 ?z41 ?z26 ?z6 ?z36; (case z41 | z26 | z6 => with_reducible assumption); (case z36 => k_mem))
   | (refine' ne_tr2s ?z41 ?z26 ?z6 ?z36; (case z41 | z26 | z6 => with_reducible assumption); (case z36 => k_mem))
   | (with_reducible refine' ne_up1 ?z6 ?z36; (case z6 => assumption); (case z36 => k_dflt k_mem))
   | (with_reducible refine' ne_up2 ?z6 ?z36; (case z6 => assumption); (case z36 => k_dflt k_mem))
   | (with_reducible refine' ne_up3 ?z6 ?z36; (case z6 => assumption); (case z36 => k_dflt k_mem))
   | (with_reducible refine' ne_dn1 ?z6 ?z36; (case z6 => assumption); (case z36 => k_dflt k_mem))
   | (with_reducible refine' ne_dn2 ?z6 ?z36; (case z6 => assumption); (case z36 => k_dflt k_mem))
   | (with_reducible refine' ne_dn3 ?z6 ?z36; (case z6 => assumption); (case z36 => k_dflt k_mem))
   | fail)
  k_with "pack" =>
   skip
  trivial
theorem typeS {k rk : Nat} (hrk : 24 ≤ rk) (hC0 : TypeOk w loose mean mg mb σ 0 24) (hCk : TypeOk w loose mean mg mb σ k rk) : TypeOk w loose mean mg mb σ (k + 1) (rk + 5) := by
  intro j a x y i tx ty t n rest D hi ok off hV hds hs1
  have hds0 := hds
  have hpos : 0 < i := by omega
  obtain ⟨k1, its, ps, hm1, hps, hlen, hda⟩ := hds
  unfold CallOk
  intro dp un gd cn cs a' ccd cl outer A₀ base h₀ L m s Q E B F X N T hk hdp hun hret
  replace N := News.add N (.tail _ hm1)
  have haj : @Ne Nat a j := off _ hm1
  refine wpAny_call ?_
  k_dflt ktr_enter
  all_goals (try (with_reducible rename News _ _ _ _ => nL9; refine led_let nL9 ?_; clear nL9; intro Y0 N9))
  k_steps
  all_goals (refine hret _ _ _ _ (by k_asm) (by k_asm) ?_)
  all_goals (repeat (with_reducible rename _ ∧ _ => hc; (have hcl := hc.1); (have hcr := hc.2); clear hc))
  all_goals (try (rename _ = Value.ref _ ∨ _ => hv; rcases hv with rfl | rfl | rfl | rfl))
  all_goals (refine jpost_of ?_ (by with_reducible assumption) (by k_mem) (by tb_start) ?_ ?_; rotate_left; tb_rel; with_reducible first
    | exact typR_int
    | exact typR_bool
    | exact typR_never
    | exact typR_V hV
    | exact typR_none (by assumption)
    | exact typR_some (by assumption)
    | exact typR_ref (by assumption)
    | exact typR_box (by assumption)
    | exact typR_arr (by assumption)
    | exact typR_adt (by assumption)
    | exact typR_tup (by assumption) (by assumption))
end
end Mine
namespace Mine
example : True := by
  w_top off
  k_with_none
  trivial

section
variable {w : World} {loose : List Str} {mean : ExcName → Option Value} {mg mb : Str → Option Value}
def OpR (f : Ty → Ty) (d : Dat) : Prop := ∃ q : Opd, q.dp ≤ 4 ∧ d = .tuple [opD q, opD (q.map f)]
example : True := by
  k_with_none
  k_with "subscriptTail" =>
   ((k_here; (with_reducible show wpAny _ _ (subscriptTail _ _ (Value.ref _) (Value.int _ _)) _ _ _); k_dflt (first
   | (refine' my_tup ?Z0 ?Z1 ?Z2 ?Z3 ?Z4 ?Z5 ?_; (case Z0 => k_asm); (case Z1 => k_mem); (case Z2 | Z3 => decide); (case Z4 | Z5 => rfl); k_whole)
   | (refine' my_lst ?Z0 ?Z1 ?Z2 ?Z3 ?Z5 ?_; (case Z0 => k_asm); (case Z1 => k_mem); (case Z2 | Z3 => decide); (case Z5 => rfl); k_whole))))
  k_with "eval Name" =>
   ((k_here; k_dflt (refine' nameX_L ?Z6 ?Z7 ?_; (case Z6 => k_asm); (case Z7 => exact rfl); k_whole)))
  k_with "w_k_all" =>
   (first | assumption | ((show Off _ _); kqd_all))
  k_with "w_k_room" =>
   (ktr_room)
  k_with "call ref" =>
   ((k_here; (with_reducible show wpAny _ _ (call (Value.ref 182) _) _ _ _); k_dflt (refine' one_use ?Z8 ?Z9 ?Za ?Zb ?Zc ?Zd ?Ze ?Zf ?Zg ?Zh ?Zi ?Zj ?Zk ?Zl ?_; (case Zf | Zh => k_asm); (case Z8 => (repeat (first | exact Pull.head | apply Pull.tail))); (case Z9 => k_asm); (case Za => kqd_all); (case Zb => k_mem); (case Zc | Zd => (simp only [List.length_cons, List.length_nil]; omega)); (case Ze | Zg | Zi => k_asm); (case Zj => first | exact rfl | with_reducible assumption); (case Zk => ktr_room); (case Zl => ktr_units)); intro r9 h9 tk9' x9 tx9 y9 ty9 ok9 F9 N9 hv9; (try simp only [List.nil_append, List.cons_append, List.append_nil] at N9); (simp only [List.mem_cons, List.not_mem_nil, or_false] at hv9); (try dsimp only); (try k_fold)))
  k_with "call ref" =>
   ((k_here; (with_reducible show wpAny _ _ (call (Value.ref 175) _) _ _ _); k_dflt (refine' dip_use ?Zm ?Zn ?Zo ?Zp ?Zq ?Zr ?Zs ?Zt ?Zu ?Zv ?Zw ?Zx ?Zy ?_; (case Zs | Zu => k_asm); (case Zm => (repeat (first | exact Pull.head | apply Pull.tail))); (case Zn => k_asm); (case Zo => kqd_all); (case Zp | Zq => omega); (case Zr | Zt | Zv => k_asm); (case Zw => first | exact rfl | with_reducible assumption); (case Zx => ktr_room); (case Zy => ktr_units)); intro k9 tk9 h9 tk9' x9 tx9 y9 ty9 ok9 F9 N9 lo9 hi9; (try simp only [List.nil_append, List.cons_append, List.append_nil] at N9); (try dsimp only); (try k_fold)))
  k_with "execs cons" =>
   (k_here; (try k_gentoks); (first | ((fail_if_success (fail_if_success k_fold)); (with_reducible refine' ec_let2 ?_); intro q0 e0 K0) | ((with_reducible refine' ec_let ?_); intro K0)); (all_goals (try ((with_reducible rename Fr _ _ _ (fun _ => ite _ _ _) => f9); refine fr_let f9 ?_; clear f9; intro m0 F0))); (try dsimp only))
  k_with "eval Constant str" =>
   (with_reducible refine' con_str ?_)
  k_with "eval Constant int" =>
   (with_reducible refine' con_int ?_)
  k_with "subscriptTail Name Constant ref int" =>
   (k_extra "subscriptTail")
  k_with "callWith ref" =>
   (k_here; (with_reducible show wpAny _ _ (callWith _ (Value.ref _) _ (backTo _ (starEach (_ :: _) _)) []) _ _ _); k_dflt (refine' callWith_K ?zc1 ?zc2 ?_; (case zc1 => with_reducible assumption); (case zc2 => k_is); k_whole))
  k_with "callWith ref" =>
   (k_here; (with_reducible show wpAny _ _ (callWith _ (Value.ref _) _ (backTo _ (starEach [] _)) []) _ _ _); k_dflt (refine' callWith_K0 ?zc1 ?zc2 ?_; (case zc1 => exact Frag.In.keeps (by with_reducible assumption) (Fr.keep (by k_asm))); (case zc2 => k_is); k_whole))
  k_with "eval Name" =>
   (k_here; k_dflt (first
   | (refine' nameX_L ?zn1 ?zn2 ?_ ?zn3 ?zn4; (case zn3 | zn4 => rfl); (case zn1 => k_asm); (case zn2 => rfl); k_whole)
   | (refine' nameX_K ?zn1 ?zn2 ?zn3 ?zn4 ?_ ?zn5 ?zn6; (case zn5 | zn6 => rfl); (case zn1 | zn2 | zn3 => k_asm); (case zn4 => k_is); k_whole)
   | (refine' nameX_B ?zn1 ?zn2 ?zn3 ?zn4 ?zn5 ?zn6 ?_ ?zn7 ?zn8; (case zn7 | zn8 => rfl); (case zn1 | zn2 | zn3 => k_asm); (case zn4 => k_is); (case zn5 => boot_fast); (case zn6 => decide); k_whole)
   | fail))
  k_with "newTuple" =>
   (k_here; k_dflt (refine' tup_let ?z30 ?z4 ?z0 ?_; (case z30 | z4 => k_asm); (case z0 => kmk_size)); intro D' h' e' Y' F' N' l1; (try k_sweep))
  k_with "newList" =>
   (k_here; k_dflt (refine' lst_let ?z30 ?z4 ?z0 ?_; (case z30 | z4 => k_asm); (case z0 => kmk_size)); intro D' h' e' Y' F' N' l1; (try k_sweep))
  k_with "binaryOp Add ref ref" =>
   (k_here; (with_reducible show wpAny _ _ (binaryOp Operator.Add (Value.ref _) (Value.ref _)) _ _ _); k_dflt (refine' kde_addT ?z1 ?z27 ?z25 ?z2 ?z18 ?z23 ?z21 ?z24 ?_; (case z1 | z27 => k_asm); (case z25 | z2 => exact News.isTup (by k_asm) (by k_mem)); (case z18 | z23 => exact List.cons_ne_nil _ _); (case z21 => exact Nat.le_of_ble_eq_true rfl); (case z24 => kun_lit)); intro D' h' F' N' l1; (replace l1 := allLt_of l1); (try k_sweep))
  k_with "k_up" =>
   (first
   | with_reducible exact hp
   | ((with_reducible refine List.mem_cons_of_mem _ ?_); k_extra "k_up")
   | ((with_reducible refine List.mem_append_left _ ?_); k_extra "k_up")
   | ((with_reducible refine List.mem_append_right _ ?_); k_extra "k_up")
   | fail)
  k_with "w_tb_start" =>
   (first
   | exact sub_nil
   | (intro p hp; k_extra "k_up")
   | (refine' sub_trans ?z28 ?z13; (case z28 => with_reducible assumption); (case z13 => (intro p hp; k_extra "k_up")))
   | ((with_reducible refine sub_app ?_ ?_) <;> tb_start)
   | ((with_reducible refine sub_cons ?_ ?_); k_mem; tb_start)
   | fail)
  k_with "w_k_mem" =>
   (focus ((repeat (with_reducible first | exact List.mem_cons_self | refine List.mem_cons_of_mem _ ?_ | refine List.mem_append_left _ ?_)); done))
  k_with "w_kqd_sub" =>
   (with_reducible first
   | exact gdJ_nil
   | (refine' gdJ_app ?_ ?_ <;> kqd_sub)
   | (refine' gd_app ?_ ?_ <;> kqd_sub)
   | (refine' gdJ_new ?z32 ?z12 ?z22 ?z9; (case z12 | z22 => assumption); (case z32 | z9 => k_dflt tb_start))
   | (refine' gd_new ?z32 ?z12 ?z9; (case z12 => assumption); (case z32 | z9 => k_dflt tb_start))
   | (refine' gd_cons0 ?z15 ?z10; (case z15 => first | (refine' gd_had ?z31 ?z38; (case z38 => assumption); (case z31 => k_dflt k_mem)) | (refine' gd_one ?z31 ?z38 ?z37; (case z38 => assumption); (case z31 => k_dflt k_mem); (case z37 => k_dflt tb_start))); (case z10 => kqd_sub))
   | (refine' gdJ_old ?z32 ?z9; (case z9 | z32 => k_dflt tb_start))
   | (refine' gd_old ?z32 ?z9; (case z9 | z32 => k_dflt tb_start))
   | fail)
  k_with "w_tb_rel" =>
   (with_reducible first
   | exact DatP.none
   | exact DatP.bool _
   | exact DatP.int _ _
   | exact DatP.str _ _
   | exact DatPs.nil
   | (refine' DatPs.cons ?_ ?_ <;> first | ((with_reducible show DatP _ _ _); tb_rel) | ((with_reducible show DatPs _ _ _); tb_rel) | ((with_reducible show Dat); skip) | ((with_reducible show List Dat); skip))
   | (refine' datP_in ?z5 ?z37; (case z5 => assumption); (case z37 => k_dflt kqd_sub))
   | (refine' datP_gdJ ?z31 ?z34 ?z35; (case z31 => k_dflt k_mem); (case z34 => first | (refine' gdJ_had ?z31 ?z38; (case z38 => assumption); (case z31 => k_dflt k_mem)) | (refine' gdJ_one ?z31 ?z38 ?z37 ?z19; (case z38 => assumption); (case z31 => k_dflt k_mem); (case z37 => k_dflt tb_start); (case z19 => k_dflt (k_extra "k_ltA")))); (case z35 => tb_rel))
   | (refine' datP_gd ?z31 ?z34 ?z35; (case z31 => k_dflt k_mem); (case z34 => first | (refine' gd_had ?z31 ?z38; (case z38 => assumption); (case z31 => k_dflt k_mem)) | (refine' gd_one ?z31 ?z38 ?z37; (case z38 => assumption); (case z31 => k_dflt k_mem); (case z37 => k_dflt tb_start))); (case z35 => tb_rel))
   | fail)
  k_with "w_lcg_off" =>
   (with_reducible first
   | assumption
   | exact off3_nil
   | (refine' off3_app ?_ ?_ <;> lcg_off)
   | (refine' off3_any ?z40 ?z14 ?z3; (case z40 => assumption); (case z14 => k_dflt k_mem); (case z3 => lcg_off))
   | (refine' off3_cons ⟨?z42, ?z16, ?z17⟩ ?z3; (case z42 | z16 | z17 => k_dflt k_ne); (case z3 => lcg_off))
   | (refine' off3_above ?z40 ?z42 ?z16 ?z17; (case z40 => assumption); (case z42 | z16 | z17 => k_dflt k_mem))
   | (refine' off3_sub ?z40 ?z3; (case z40 => assumption); (case z3 => k_dflt tb_start))
   | fail)
  k_with "w_ktr_room" =>
   ((try simp only [depth_under_make, depth_under_kw, depth_in1, depth_deeper, depth_caller]); (try dsimp only [ktrTop]); with_reducible first
   | (refine' room2 ?z11 ?z20; (case z11 => assumption); (case z20 => k_dflt (first | exact Nat.le_of_ble_eq_true rfl | omega)))
   | (refine' room1 ?z11 ?z20; (case z11 => assumption); (case z20 => k_dflt (first | exact Nat.le_of_ble_eq_true rfl | omega)))
   | (refine' room0 ?z11; (case z11 => assumption))
   | fail)
  k_with "w_ktr_units" =>
   ((try simp only [units_in1, units_deeper, Around.mark_units, units_caller]); (try dsimp only [ktrTop]); with_reducible first
   | (refine' unit2 ?z11 ?z20; (case z11 => assumption); (case z20 => k_dflt (first | exact Nat.le_of_ble_eq_true rfl | omega)))
   | (refine' unit1 ?z11 ?z20; (case z11 => assumption); (case z20 => k_dflt (first | exact Nat.le_of_ble_eq_true rfl | omega)))
   | fail)
  k_with "k_ltA" =>
   (first
   | (refine' lt_all ?z6 ?z36; (case z6 => with_reducible assumption); (case z36 => k_mem))
   | (refine ltN ?_; omega))
  k_with "w_kqd_all" =>
   (with_reducible first
   | assumption
   | exact off_nil
   | (refine' off_cons ?z29 ?z39; (case z29 => k_dflt k_ne); (case z39 => kqd_all))
   | (refine' off_app ?_ ?_ <;> kqd_all)
   | (refine' off_sub ?z8 ?z7; (case z8 => assumption); (case z7 => k_dflt tb_start))
   | (refine' off_above ?z8 ?z7; (case z8 => assumption); (case z7 => k_dflt k_mem))
   | (refine' off_lt ?z8 ?z33 ?z7; (case z8 => assumption); (case z33 => k_dflt ((show (_ : Nat) ≤ _); omega)); (case z7 => k_dflt tb_start))
   | (refine' off_o3a ?z8 ?z7; (case z8 => assumption); (case z7 => k_dflt tb_start))
   | (refine' off_o3b ?z8 ?z7; (case z8 => assumption); (case z7 => k_dflt tb_start))
   | (refine' off_o3c ?z8 ?z7; (case z8 => assumption); (case z7 => k_dflt tb_start))
   | (refine' off_o1 ?z8 ?z7; (case z8 => assumption); (case z7 => k_dflt tb_start))
   | fail)
  k_with "w_k_ne" =>
   (first
   | with_reducible assumption
   | (refine' ne_all ?z6 ?z36; (case z6 => with_reducible assumption); (case z36 => k_mem))
   | (refine' ne_all2 ?z6 ?z36; (case z6 => with_reducible assumption); (case z36 => k_mem))
   | (refine' Ne.symm ?z6; (case z6 => with_reducible assumption))
   | (refine' ne_o3a ?z6 ?z36; (case z6 => with_reducible assumption); (case z36 => k_mem))
   | (refine' ne_o3b ?z6 ?z36; (case z6 => with_reducible assumption); (case z36 => k_mem))
   | (refine' ne_o3c ?z6 ?z36; (case z6 => with_reducible assumption); (case z36 => k_mem))
   | (refine' ne_o3a' ?z6 ?z36; (case z6 => with_reducible assumption); (case z36 => k_mem))
   | (refine' ne_o3b' ?z6 ?z36; (case z6 => with_reducible assumption); (case z36 => k_mem))
   | (refine' ne_o3c' ?z6 ?z36; (case z6 => with_reducible assumption); (case z36 => k_mem))
   | (refine' ne_o1 ?z6 ?z36; (case z6 => with_reducible assumption); (case z36 => k_mem))
   | (refine' ne_o1' ?z6 ?z36; (case z6 => with_reducible assumption); (case z36 => k_mem))
   | (refine' ne_of_lt' ?z6; (case z6 => with_reducible assumption))
   | (refine' ne_of_gt' ?z6; (case z6 => with_reducible assumption))
   | (refine' ne_tr ?z41 ?z6 ?z36; (case z41 | z6 => with_reducible assumption); (case z36 => k_mem))
   | (refine' ne_trs ?z41 ?z6 ?z36; (case z41 | z6 => with_reducible assumption); (case z36 => k_mem))
   | (refine' ne_tr2 ?z41 ?z26 ?z6 ?z36; (case z41 | z26 | z6 => with_reducible assumption); (case z36 => k_mem))
   | (refine' ne_tr2s ?z41 ?z26 ?z6 ?z36; (case z41 | z26 | z6 => with_reducible assumption); (case z36 => k_mem))
   | (with_reducible refine' ne_up1 ?z6 ?z36; (case z6 => assumption); (case z36 => k_dflt k_mem))
   | (with_reducible refine' ne_up2 ?z6 ?z36; (case z6 => assumption); (case z36 => k_dflt k_mem))
   | (with_reducible refine' ne_up3 ?z6 ?z36; (case z6 => assumption); (case z36 => k_dflt k_mem))
   | (with_reducible refine' ne_dn1 ?z6 ?z36; (case z6 => assumption); (case z36 => k_dflt k_mem))
   | (with_reducible refine' ne_dn2 ?z6 ?z36; (case z6 => assumption); (case z36 => k_dflt k_mem))
   | (with_reducible refine' ne_dn3 ?z6 ?z36; (case z6 => assumption); (case z36 => k_dflt k_mem))
   | fail)
  k_with "pack" =>
   skip
  trivial
theorem opR_cp {f : Ty → Ty} {k : Int} : OpR f (.tuple [.tuple [.str (Str.ofString "copy"), .tuple [.int k, .tuple [.tuple [.str (Str.ofString "field"), .int 1], .tuple [.str (Str.ofString "deref")]]]], .tuple [.str (Str.ofString "copy"), .tuple [.int k, .tuple [.tuple [.str (Str.ofString "field"), .int 1], .tuple [.str (Str.ofString "deref")]]]]]) := ⟨.cp k, Nat.zero_le _, rfl⟩
theorem opR_mv {f : Ty → Ty} {k : Int} : OpR f (.tuple [.tuple [.str (Str.ofString "move"), .tuple [.int k, .tuple [.tuple [.str (Str.ofString "field"), .int 1], .tuple [.str (Str.ofString "deref")]]]], .tuple [.str (Str.ofString "move"), .tuple [.int k, .tuple [.tuple [.str (Str.ofString "field"), .int 1], .tuple [.str (Str.ofString "deref")]]]]]) := ⟨.mv k, Nat.zero_le _, rfl⟩
theorem opR_co {f : Ty → Ty} {t : Ty} (h : t.dp ≤ 4) : OpR f (.tuple [.tuple [.str (Str.ofString "const"), tyD t, .int 7], .tuple [.str (Str.ofString "const"), tyD (f t), .int 7]]) := ⟨.co t, h, rfl⟩
theorem operand_ok {f : Ty → Ty} {t : Ty} (ht : t.dp ≤ 4) {j p : Addr} {x y : Int} {tx ty : Tok} {n pn : Nat} {v1 v2 : Value} {rest D : List (Addr × Obj)} (ok : JarOk x y) (off : Off j rest) (hp : (p, tupO [v1, v2] pn) ∈ rest) (hv1 : Dt D v1 (tyD t)) (hv2 : Dt D v2 (tyD (f t))) (hs1 : ∀ p ∈ D, p ∈ rest) : CallOk PySem.Challenge.rw_xm0591_01.row.prog w (hd.heap_1 w.params) topProg loose mean mg mb 14 201 [.ref j, .ref p] ((j, jarO x tx y ty n) :: rest) (JPost j n D rest (OpR f)) := by
  unfold CallOk
  intro dp un gd cn cs a' ccd cl outer A₀ base h₀ L m s Q E B F X N T hk hdp hun hret
  replace N := News.add N (.tail _ hp)
  have hpj : @Ne Nat p j := off _ hp
  refine wpAny_call ?_
  k_dflt ktr_enter
  all_goals (try (with_reducible rename News _ _ _ _ => nL9; refine led_let nL9 ?_; clear nL9; intro Y0 N9))
  k_steps
  all_goals (refine hret _ _ _ _ (by k_asm) (by k_asm) ?_)
  all_goals (repeat (with_reducible rename _ ∧ _ => hc; (have hcl := hc.1); (have hcr := hc.2); clear hc))
  all_goals (try (rename _ = Value.ref _ ∨ _ => hv; rcases hv with rfl | rfl | rfl))
  all_goals (refine jpost_of ?_ (by with_reducible assumption) (by k_mem) (by tb_start) ?_ ?_; rotate_left; tb_rel; with_reducible first
    | exact opR_cp
    | exact opR_mv
    | exact opR_co ht)
theorem operand_use {f : Ty → Ty} {t : Ty} {p : Addr} {pn : Nat} {v1 v2 : Value} {D : List (Addr × Obj)} {j : Addr} {x y : Int} {tx ty : Tok} {n : Nat} {news rest : List (Addr × Obj)} {dp un : Nat} {gd : Option (List Code)} {cn : Str} {cs : Scope} {a : Addr} {ccd : Value} {cl : List (Str × Addr)} {outer : List Env} {A₀ : Around} {base h₀ : Heap} {L : Addr} {m : Str → Option Value} {hS : Heap} {gS : Array GenState} {dS : Drawn} {tS : Nat} {oS : OsState} {Q E : Value → Shared → Prop}
  (P : Pull (j, jarO x tx y ty n) news rest) (ok : JarOk x y) (off : Off j rest) (ht : t.dp ≤ 4) (hp : (p, tupO [v1, v2] pn) ∈ rest) (hv1 : Dt D v1 (tyD t)) (hv2 : Dt D v2 (tyD (f t))) (hs1 : ∀ p ∈ D, p ∈ rest) (B : Below A₀ base outer h₀) (F : Fr h₀ L hS m) (X : (hd.heap_1 w.params).In h₀) (N : News h₀ L hS news) (T : Top topProg loose mean mg mb h₀) (hk : cs.kind = .function) (hr : dp + 14 < recursionLimit) (hu : un + 8 * 14 < cLine)
  (ret : ∀ p' w1 w2 n2 tl q h' tk' x' tx' y' ty', JarOk x' y' → Fr h₀ L h' m → News h₀ L h' ((p', tupO [w1, w2] n2) :: (j, jarO x' tx' y' ty' n) :: (rest ++ tl)) → Above rest tl → (∀ p ∈ tl, @LT.lt Nat _ j p.1) → Off j tl → @Ne Nat p' j → (p', tupO [w1, w2] n2) ∈ D ++ tl → q.dp ≤ 4 → Dt (D ++ tl) w1 (opD q) → Dt (D ++ tl) w2 (opD (q.map f)) → Q (.ref p') ⟨h', gS, dS, tk', oS⟩) : wpAny (model PySem.Challenge.rw_xm0591_01.row.prog w) (ktrTop dp un gd cn cs L a ccd cl outer) (call (.ref 201) [.ref j, .ref p]) Q E ⟨hS, gS, dS, tS, oS⟩ :=
  jar_use B F X N T hk P (operand_ok ht ok off hp hv1 hv2 hs1) hr hu fun r tl h' tk' x' tx' y' ty' d ok' hR F' N' ab hj ho dt => by
    obtain ⟨q, hq, rfl⟩ := hR
    obtain ⟨p', w1, w2, n2, rfl, hm, d1, d2⟩ := in_tup2 dt
    have hp' : (p', tupO [w1, w2] n2) ∈ rest ++ tl := (List.mem_append.mp hm).elim (fun h => List.mem_append.mpr (.inl (hs1 _ h))) (fun h => List.mem_append.mpr (.inr h))
    exact ret p' w1 w2 n2 tl q h' tk' x' tx' y' ty' ok' F' (News.add N' (.tail _ hp')) ab hj ho (off_app off ho _ hp') hm hq d1 d2
end
end Mine
namespace Mine
example : True := by
  w_top off
  k_with_none
  trivial

section
variable {w : World} {loose : List Str} {mean : ExcName → Option Value} {mg mb : Str → Option Value}
def OpsR (f : Ty → Ty) (d : Dat) : Prop := ∃ os : List Opd, os.length ≤ 2 ∧ (∀ q ∈ os, q.dp ≤ 4) ∧ d = .tuple [.tuple (os.map opD), .tuple ((os.map (Opd.map f)).map opD)]
theorem opsR0 {f : Ty → Ty} : OpsR f (.tuple [.tuple [], .tuple []]) := ⟨[], Nat.zero_le _, (fun _ h => nomatch h), rfl⟩
theorem opsR1 {f : Ty → Ty} {q : Opd} (h : q.dp ≤ 4) : OpsR f (.tuple [.tuple [opD q], .tuple [opD (q.map f)]]) := ⟨[q], by simp, fun _ hq => by rw [List.mem_singleton.mp hq]; exact h, rfl⟩
theorem opsR2 {f : Ty → Ty} {q q' : Opd} (h : q.dp ≤ 4) (h' : q'.dp ≤ 4) : OpsR f (.tuple [.tuple [opD q, opD q'], .tuple [opD (q.map f), opD (q'.map f)]]) := ⟨[q, q'], by simp, fits2 h h', rfl⟩
theorem off3_old {I C D a : Addr} {o o' : Obj} {l r : List (Addr × Obj)} (h : LCg.Off3 I C D l) (hm : (a, o) ∈ l) (k : LCg.Off3 I C D r) : LCg.Off3 I C D ((a, o') :: r) := ⟨h.mem (a, o) hm, k⟩
theorem off3_in {I C D a : Addr} {o : Obj} {l r : List (Addr × Obj)} (h : LCg.Off3 I C D l) (hm : (a, o) ∈ l) (k : LCg.Off3 I C D r) : LCg.Off3 I C D ((a, o) :: r) := ⟨h.mem _ hm, k⟩
theorem cell_is {o : Obj} {v v' : Option Value} (h : o.data = .cell v) (e : v = v') : o.data = .cell v' := by rw [h, e]
theorem cell_off2 {l : List (Addr × Obj)} {L : Addr} (h : ∀ p ∈ l, p.1 < L) : Off (L + 1 + 1) l := fun p hp => Nat.ne_of_lt (Nat.lt_succ_of_lt (Nat.lt_succ_of_lt (h p hp)))

example : True := by
  k_with_none
  k_with "w_tb_start" =>
   (first
   | (intro p hp; simp only [List.mem_append, List.mem_cons, hp, true_or, or_true]; done)
   | (refine sub_trans (by with_reducible assumption) ?_; intro p hp; simp only [List.mem_append, List.mem_cons, hp, true_or, or_true]; done)
   | exact sub_nil
   | (refine sub_app ?_ ?_ <;> tb_start)
   | (refine sub_cons (by k_mem) ?_; tb_start)
   | exact fun _ h => h
   | fail "tb_start: no part")
  k_with "w_kqd_sub" =>
   (first
   | (refine gd_app ?_ ?_ <;> kqd_sub)
   | exact gd_old (by tb_start) (by tb_start)
   | exact gd_new (by tb_start) (by with_reducible assumption) (by tb_start)
   | fail "kqd_sub: neither old nor new")
  k_with "w_tb_rel" =>
   (first
   | exact DatP.none
   | exact DatP.bool _
   | exact DatP.int _ _
   | exact DatP.str _ _
   | exact DatPs.nil
   | (refine DatPs.cons ?_ ?_ <;> tb_rel)
   | (refine datP_in (by with_reducible assumption) ?_; kqd_sub)
   | (refine datP_gd (by k_mem) (by first | exact gd_had (by k_mem) (by with_reducible assumption) | exact gd_one (by k_mem) (by with_reducible assumption) (by tb_start)) ?_; tb_rel)
   | fail "tb_rel: no datum")
  k_with "subscriptTail" =>
   ((k_here; (with_reducible show wpAny _ _ (subscriptTail _ _ (Value.ref _) (Value.int _ _)) _ _ _); k_dflt (first
   | (refine' my_tup ?Z0 ?Z1 ?Z2 ?Z3 ?Z4 ?Z5 ?_; (case Z0 => k_asm); (case Z1 => k_mem); (case Z2 | Z3 => decide); (case Z4 | Z5 => rfl); k_whole)
   | (refine' my_lst ?Z0 ?Z1 ?Z2 ?Z3 ?Z5 ?_; (case Z0 => k_asm); (case Z1 => k_mem); (case Z2 | Z3 => decide); (case Z5 => rfl); k_whole))))
  k_with "eval Name" =>
   ((k_here; k_dflt (refine' nameX_L ?Z6 ?Z7 ?_; (case Z6 => k_asm); (case Z7 => exact rfl); k_whole)))
  k_with "w_k_mem" =>
   ((focus ((repeat (with_reducible first | exact List.mem_cons_self | refine List.mem_cons_of_mem _ ?_ | refine List.mem_append_left _ ?_)); done)))
  k_with "w_kqd_all" =>
   (first
   | with_reducible assumption
   | ((with_reducible refine off_cons ?_ ?_); k_ne; kqd_all)
   | ((with_reducible refine off_app ?_ ?_); kqd_all; kqd_all)
   | exact off_sub (by with_reducible assumption) (by tb_start)
   | exact off_above (by with_reducible assumption) (by k_mem)
   | exact off_lt (by with_reducible assumption) (by (show (_ : Nat) ≤ _); omega) (by tb_start)
   | exact off_nil
   | fail "kqd_all: not off")
  k_with "w_k_all" =>
   (first | assumption | ((show Off _ _); kqd_all))
  k_with "w_kqd_sub" =>
   (first
   | exact gdJ_nil
   | (refine gdJ_app ?_ ?_ <;> kqd_sub)
   | exact gdJ_old (by tb_start) (by tb_start)
   | exact gdJ_new (by tb_start) (by with_reducible assumption) (by with_reducible assumption) (by tb_start)
   | fail "kqd_sub: neither old nor new")
  k_with "w_tb_rel" =>
   (with_reducible first
   | exact DatP.none
   | exact DatP.bool _
   | exact DatP.int _ _
   | exact DatP.str _ _
   | exact DatPs.nil
   | (refine' DatPs.cons ?_ ?_ <;> first | ((with_reducible show DatP _ _ _); tb_rel) | ((with_reducible show DatPs _ _ _); tb_rel) | ((with_reducible show Dat); skip) | ((with_reducible show List Dat); skip))
   | (refine datP_in (by assumption) ?_; kqd_sub)
   | (refine' datP_gdJ ?Z8 ?Z9 ?Za; (case Z8 => k_dflt k_mem); (case Z9 => first | exact gdJ_had (by k_dflt k_mem) (by assumption) | exact gdJ_one (by k_dflt k_mem) (by assumption) (by k_dflt tb_start) (by k_extra "k_ltA")); (case Za => tb_rel))
   | fail "tb_rel: no datum")
  k_with "w_k_room" =>
   (ktr_room)
  k_with "call ref" =>
   (((k_here; (with_reducible show wpAny _ _ (call (Value.ref 201) _) _ _ _); k_dflt (refine' operand_use ?Zb ?Zc ?Zd ?Ze ?Zf ?Zg ?Zh ?Zi ?Zj ?Zk ?Zl ?Zm ?Zn ?Zo ?Zp ?Zq ?_; (case Zk | Zm => k_asm); (case Zb => (repeat (first | exact Pull.head | apply Pull.tail))); (case Zc => k_asm); (case Zd => kqd_all); (case Zf => k_mem); (case Zg | Zh | Ze => with_reducible assumption); (case Zi => tb_start); (case Zj | Zl | Zn => k_asm); (case Zo => first | exact rfl | with_reducible assumption); (case Zp => ktr_room); (case Zq => ktr_units)); intro p9 v9 u9 n9 tl9 q9 h9 tk9' x9 tx9 y9 ty9 ok9 F9 N9 ab9 hj9 ho9 ne9 dm9 dp9 dt9 du9; (try simp only [List.nil_append, List.cons_append, List.append_nil] at N9); (try dsimp only); (try k_fold))); all_goals (try (with_reducible rename News _ _ _ _ => nL9; refine led_let nL9 ?_; clear nL9; intro Y9 N9)))
  k_with "call ref" =>
   (((k_here; (with_reducible show wpAny _ _ (call (Value.ref 175) _) _ _ _); k_dflt (refine' dip_use ?Zr ?Zs ?Zt ?Zu ?Zv ?Zw ?Zx ?Zy ?Zz ?Z10 ?Z11 ?Z12 ?Z13 ?_; (case Zx | Zz => k_asm); (case Zr => (repeat (first | exact Pull.head | apply Pull.tail))); (case Zs => k_asm); (case Zt => kqd_all); (case Zu | Zv => omega); (case Zw | Zy | Z10 => k_asm); (case Z11 => first | exact rfl | with_reducible assumption); (case Z12 => ktr_room); (case Z13 => ktr_units)); intro k9 tk9 h9 tk9' x9 tx9 y9 ty9 ok9 F9 N9 lo9 hi9; (try simp only [List.nil_append, List.cons_append, List.append_nil] at N9); (rcases (show k9 = 0 ∨ k9 = 1 ∨ k9 = 2 by omega) with h9 | h9 | h9 <;> subst h9); all_goals ((try dsimp only); (try k_fold)))); all_goals (try (with_reducible rename News _ _ _ _ => nL9; refine led_let nL9 ?_; clear nL9; intro Y9 N9)))
  k_with "CompSrc" =>
   ((k_here; k_dflt (refine LCg.CompSrc.range (by rfl) (by k_asm) (by k_asm) (by assumption) (by first | decide | rfl) (by first | rfl | decide) (by first | size_fits | exact Nat.le_of_ble_eq_true rfl) ?_; intro g'; lcg_lit)))
  k_with "CompRest" =>
   ((with_unfolding_all first
   | (refine LCg.CompRest.succ ?_; intro v' I' oI' C' oC' D' m' h' tk' E' hv' hC' hx' F' N' off' ne'; (obtain ⟨t9', hv9'⟩ := hv'; subst hv9'); (have off0' := off'); (try simp only [LCg.Off3, and_true] at off'))
   | refine LCg.CompRest.zero ?_))
  k_with "CompRestP" =>
   ((with_unfolding_all first
   | (refine LCp.CompRestP.succ ?_; intro v' hv'; lcg_open hv'; refine ⟨_, _, _, _, _, rfl, by k_mem, rfl, rfl, ?_⟩; intro I' oI' C' oC' D' m' h' tk' E' hC' hx' hy' F' N' off' ne'; (have off0' := off'); (try simp only [LCg.Off3, and_true] at off'))
   | refine LCp.CompRestP.zero ?_))
  k_with "SrcLP" =>
   ((k_here; k_dflt (refine LCp.SrcLP.ledger (by rfl) (by k_asm) (by k_asm) (by k_mem) (by first | size_fits | exact Nat.le_of_ble_eq_true rfl) ?_; intro g'; lcp_lit)))
  k_with "w_lcg_off" =>
   (first
   | (with_reducible assumption)
   | (with_reducible exact off3_nil)
   | ((with_reducible refine off3_app ?_ ?_); lcg_off; lcg_off)
   | ((with_reducible refine off3_in (l := _ ++ _) ?_ (by assumption) ?_); lcg_off; lcg_off)
   | ((with_reducible refine' off3_old ?Z14 ?Z15 ?Z16); (case Z14 => with_reducible assumption); (case Z15 => k_mem); (case Z16 => lcg_off))
   | exact off3_above (by with_reducible assumption) (by k_mem) (by k_mem) (by k_mem)
   | exact off3_sub (by with_reducible assumption) (by tb_start)
   | fail "lcg_off: no part")
  k_with "w_lcg_src" =>
   (first | exact True.intro | exact Or.inr ⟨_, by k_mem, rfl, _, rfl⟩)
  k_with "CompEnd" =>
   ((refine' comp_end ?Z17 ?Z18 ?Z19 ?Z1a ?Z1b ?Z1c ?Z1d ?_; (case Z17 | Z18 => k_asm); (case Z19 | Z1a | Z1b => (repeat (first | exact Pull.head | apply Pull.tail))); (case Z1c => lcg_off); (case Z1d => lcg_src)))
  k_with "execs cons" =>
   (k_here; (try k_gentoks); (first | ((fail_if_success (fail_if_success k_fold)); (with_reducible refine' ec_let2 ?_); intro q0 e0 K0) | ((with_reducible refine' ec_let ?_); intro K0)); (all_goals (try ((with_reducible rename Fr _ _ _ (fun _ => ite _ _ _) => f9); refine fr_let f9 ?_; clear f9; intro m0 F0))); (try dsimp only))
  k_with "eval Constant str" =>
   (with_reducible refine' con_str ?_)
  k_with "eval Constant int" =>
   (with_reducible refine' con_int ?_)
  k_with "subscriptTail Name Constant ref int" =>
   (k_extra "subscriptTail")
  k_with "callWith ref" =>
   (k_here; (with_reducible show wpAny _ _ (callWith _ (Value.ref _) _ (backTo _ (starEach (_ :: _) _)) []) _ _ _); k_dflt (refine' callWith_K ?zc1 ?zc2 ?_; (case zc1 => with_reducible assumption); (case zc2 => k_is); k_whole))
  k_with "callWith ref" =>
   (k_here; (with_reducible show wpAny _ _ (callWith _ (Value.ref _) _ (backTo _ (starEach [] _)) []) _ _ _); k_dflt (refine' callWith_K0 ?zc1 ?zc2 ?_; (case zc1 => exact Frag.In.keeps (by with_reducible assumption) (Fr.keep (by k_asm))); (case zc2 => k_is); k_whole))
  k_with "eval Name" =>
   (k_here; k_dflt (first
   | (refine' nameX_L ?zn1 ?zn2 ?_ ?zn3 ?zn4; (case zn3 | zn4 => rfl); (case zn1 => k_asm); (case zn2 => rfl); k_whole)
   | (refine' nameX_K ?zn1 ?zn2 ?zn3 ?zn4 ?_ ?zn5 ?zn6; (case zn5 | zn6 => rfl); (case zn1 | zn2 | zn3 => k_asm); (case zn4 => k_is); k_whole)
   | (refine' nameX_B ?zn1 ?zn2 ?zn3 ?zn4 ?zn5 ?zn6 ?_ ?zn7 ?zn8; (case zn7 | zn8 => rfl); (case zn1 | zn2 | zn3 => k_asm); (case zn4 => k_is); (case zn5 => boot_fast); (case zn6 => decide); k_whole)
   | fail))
  k_with "newTuple" =>
   (k_here; k_dflt (refine' tup_let ?z30 ?z4 ?z0 ?_; (case z30 | z4 => k_asm); (case z0 => kmk_size)); intro D' h' e' Y' F' N' l1; (try k_sweep))
  k_with "newList" =>
   (k_here; k_dflt (refine' lst_let ?z30 ?z4 ?z0 ?_; (case z30 | z4 => k_asm); (case z0 => kmk_size)); intro D' h' e' Y' F' N' l1; (try k_sweep))
  k_with "binaryOp Add ref ref" =>
   (k_here; (with_reducible show wpAny _ _ (binaryOp Operator.Add (Value.ref _) (Value.ref _)) _ _ _); k_dflt (refine' kde_addT ?z1 ?z27 ?z25 ?z2 ?z18 ?z23 ?z21 ?z24 ?_; (case z1 | z27 => k_asm); (case z25 | z2 => exact News.isTup (by k_asm) (by k_mem)); (case z18 | z23 => exact List.cons_ne_nil _ _); (case z21 => exact Nat.le_of_ble_eq_true rfl); (case z24 => kun_lit)); intro D' h' F' N' l1; (replace l1 := allLt_of l1); (try k_sweep))
  k_with "k_up" =>
   (first
   | with_reducible exact hp
   | ((with_reducible refine List.mem_cons_of_mem _ ?_); k_extra "k_up")
   | ((with_reducible refine List.mem_append_left _ ?_); k_extra "k_up")
   | ((with_reducible refine List.mem_append_right _ ?_); k_extra "k_up")
   | fail)
  k_with "w_tb_start" =>
   (first
   | exact sub_nil
   | (intro p hp; k_extra "k_up")
   | (refine' sub_trans ?z28 ?z13; (case z28 => with_reducible assumption); (case z13 => (intro p hp; k_extra "k_up")))
   | ((with_reducible refine sub_app ?_ ?_) <;> tb_start)
   | ((with_reducible refine sub_cons ?_ ?_); k_mem; tb_start)
   | fail)
  k_with "w_k_mem" =>
   (focus ((repeat (with_reducible first | exact List.mem_cons_self | refine List.mem_cons_of_mem _ ?_ | refine List.mem_append_left _ ?_)); done))
  k_with "w_kqd_sub" =>
   (with_reducible first
   | exact gdJ_nil
   | (refine' gdJ_app ?_ ?_ <;> kqd_sub)
   | (refine' gd_app ?_ ?_ <;> kqd_sub)
   | (refine' gdJ_new ?z32 ?z12 ?z22 ?z9; (case z12 | z22 => assumption); (case z32 | z9 => k_dflt tb_start))
   | (refine' gd_new ?z32 ?z12 ?z9; (case z12 => assumption); (case z32 | z9 => k_dflt tb_start))
   | (refine' gd_cons0 ?z15 ?z10; (case z15 => first | (refine' gd_had ?z31 ?z38; (case z38 => assumption); (case z31 => k_dflt k_mem)) | (refine' gd_one ?z31 ?z38 ?z37; (case z38 => assumption); (case z31 => k_dflt k_mem); (case z37 => k_dflt tb_start))); (case z10 => kqd_sub))
   | (refine' gdJ_old ?z32 ?z9; (case z9 | z32 => k_dflt tb_start))
   | (refine' gd_old ?z32 ?z9; (case z9 | z32 => k_dflt tb_start))
   | fail)
  k_with "w_tb_rel" =>
   (with_reducible first
   | exact DatP.none
   | exact DatP.bool _
   | exact DatP.int _ _
   | exact DatP.str _ _
   | exact DatPs.nil
   | (refine' DatPs.cons ?_ ?_ <;> first | ((with_reducible show DatP _ _ _); tb_rel) | ((with_reducible show DatPs _ _ _); tb_rel) | ((with_reducible show Dat); skip) | ((with_reducible show List Dat); skip))
   | (refine' datP_in ?z5 ?z37; (case z5 => assumption); (case z37 => k_dflt kqd_sub))
   | (refine' datP_gdJ ?z31 ?z34 ?z35; (case z31 => k_dflt k_mem); (case z34 => first | (refine' gdJ_had ?z31 ?z38; (case z38 => assumption); (case z31 => k_dflt k_mem)) | (refine' gdJ_one ?z31 ?z38 ?z37 ?z19; (case z38 => assumption); (case z31 => k_dflt k_mem); (case z37 => k_dflt tb_start); (case z19 => k_dflt (k_extra "k_ltA")))); (case z35 => tb_rel))
   | (refine' datP_gd ?z31 ?z34 ?z35; (case z31 => k_dflt k_mem); (case z34 => first | (refine' gd_had ?z31 ?z38; (case z38 => assumption); (case z31 => k_dflt k_mem)) | (refine' gd_one ?z31 ?z38 ?z37; (case z38 => assumption); (case z31 => k_dflt k_mem); (case z37 => k_dflt tb_start))); (case z35 => tb_rel))
   | fail)
  k_with "w_lcg_off" =>
   (with_reducible first
   | assumption
   | exact off3_nil
   | (refine' off3_app ?_ ?_ <;> lcg_off)
   | (refine' off3_any ?z40 ?z14 ?z3; (case z40 => assumption); (case z14 => k_dflt k_mem); (case z3 => lcg_off))
   | (refine' off3_cons ⟨?z42, ?z16, ?z17⟩ ?z3; (case z42 | z16 | z17 => k_dflt k_ne); (case z3 => lcg_off))
   | (refine' off3_above ?z40 ?z42 ?z16 ?z17; (case z40 => assumption); (case z42 | z16 | z17 => k_dflt k_mem))
   | (refine' off3_sub ?z40 ?z3; (case z40 => assumption); (case z3 => k_dflt tb_start))
   | fail)
  k_with "w_ktr_room" =>
   ((try simp only [depth_under_make, depth_under_kw, depth_in1, depth_deeper, depth_caller]); (try dsimp only [ktrTop]); with_reducible first
   | (refine' room2 ?z11 ?z20; (case z11 => assumption); (case z20 => k_dflt (first | exact Nat.le_of_ble_eq_true rfl | omega)))
   | (refine' room1 ?z11 ?z20; (case z11 => assumption); (case z20 => k_dflt (first | exact Nat.le_of_ble_eq_true rfl | omega)))
   | (refine' room0 ?z11; (case z11 => assumption))
   | fail)
  k_with "w_ktr_units" =>
   ((try simp only [units_in1, units_deeper, Around.mark_units, units_caller]); (try dsimp only [ktrTop]); with_reducible first
   | (refine' unit2 ?z11 ?z20; (case z11 => assumption); (case z20 => k_dflt (first | exact Nat.le_of_ble_eq_true rfl | omega)))
   | (refine' unit1 ?z11 ?z20; (case z11 => assumption); (case z20 => k_dflt (first | exact Nat.le_of_ble_eq_true rfl | omega)))
   | fail)
  k_with "k_ltA" =>
   (first
   | (refine' lt_all ?z6 ?z36; (case z6 => with_reducible assumption); (case z36 => k_mem))
   | (refine ltN ?_; omega))
  k_with "w_kqd_all" =>
   (with_reducible first
   | assumption
   | exact off_nil
   | (refine' off_cons ?z29 ?z39; (case z29 => k_dflt k_ne); (case z39 => kqd_all))
   | (refine' off_app ?_ ?_ <;> kqd_all)
   | (refine' off_sub ?z8 ?z7; (case z8 => assumption); (case z7 => k_dflt tb_start))
   | (refine' off_above ?z8 ?z7; (case z8 => assumption); (case z7 => k_dflt k_mem))
   | (refine' off_lt ?z8 ?z33 ?z7; (case z8 => assumption); (case z33 => k_dflt ((show (_ : Nat) ≤ _); omega)); (case z7 => k_dflt tb_start))
   | (refine' off_o3a ?z8 ?z7; (case z8 => assumption); (case z7 => k_dflt tb_start))
   | (refine' off_o3b ?z8 ?z7; (case z8 => assumption); (case z7 => k_dflt tb_start))
   | (refine' off_o3c ?z8 ?z7; (case z8 => assumption); (case z7 => k_dflt tb_start))
   | (refine' off_o1 ?z8 ?z7; (case z8 => assumption); (case z7 => k_dflt tb_start))
   | fail)
  k_with "w_k_ne" =>
   (first
   | with_reducible assumption
   | (refine' ne_all ?z6 ?z36; (case z6 => with_reducible assumption); (case z36 => k_mem))
   | (refine' ne_all2 ?z6 ?z36; (case z6 => with_reducible assumption); (case z36 => k_mem))
   | (refine' Ne.symm ?z6; (case z6 => with_reducible assumption))
   | (refine' ne_o3a ?z6 ?z36; (case z6 => with_reducible assumption); (case z36 => k_mem))
   | (refine' ne_o3b ?z6 ?z36; (case z6 => with_reducible assumption); (case z36 => k_mem))
   | (refine' ne_o3c ?z6 ?z36; (case z6 => with_reducible assumption); (case z36 => k_mem))
   | (refine' ne_o3a' ?z6 ?z36; (case z6 => with_reducible assumption); (case z36 => k_mem))
   | (refine' ne_o3b' ?z6 ?z36; (case z6 => with_reducible assumption); (case z36 => k_mem))
   | (refine' ne_o3c' ?z6 ?z36; (case z6 => with_reducible assumption); (case z36 => k_mem))
   | (refine' ne_o1 ?z6 ?z36; (case z6 => with_reducible assumption); (case z36 => k_mem))
   | (refine' ne_o1' ?z6 ?z36; (case z6 => with_reducible assumption); (case z36 => k_mem))
   | (refine' ne_of_lt' ?z6; (case z6 => with_reducible assumption))
   | (refine' ne_of_gt' ?z6; (case z6 => with_reducible assumption))
   | (refine' ne_tr ?z41 ?z6 ?z36; (case z41 | z6 => with_reducible assumption); (case z36 => k_mem))
   | (refine' ne_trs ?z41 ?z6 ?z36; (case z41 | z6 => with_reducible assumption); (case z36 => k_mem))
   | (refine' ne_tr2 ?z41 ?z26 ?z6 ?z36; (case z41 | z26 | z6 => with_reducible assumption); (case z36 => k_mem))
   | (refine' ne_tr2s ?z41 ?z26 ?z6 ?z36; (case z41 | z26 | z6 => with_reducible assumption); (case z36 => k_mem))
   | (with_reducible refine' ne_up1 ?z6 ?z36; (case z6 => assumption); (case z36 => k_dflt k_mem))
   | (with_reducible refine' ne_up2 ?z6 ?z36; (case z6 => assumption); (case z36 => k_dflt k_mem))
   | (with_reducible refine' ne_up3 ?z6 ?z36; (case z6 => assumption); (case z36 => k_dflt k_mem))
   | (with_reducible refine' ne_dn1 ?z6 ?z36; (case z6 => assumption); (case z36 => k_dflt k_mem))
   | (with_reducible refine' ne_dn2 ?z6 ?z36; (case z6 => assumption); (case z36 => k_dflt k_mem))
   | (with_reducible refine' ne_dn3 ?z6 ?z36; (case z6 => assumption); (case z36 => k_dflt k_mem))
   | fail)
  k_with "pack" =>
   skip
  trivial
theorem operands_ok {f : Ty → Ty} {t : Ty} (ht : t.dp ≤ 4) {j p : Addr} {x y : Int} {tx ty : Tok} {n pn : Nat} {v1 v2 : Value} {rest D : List (Addr × Obj)} (ok : JarOk x y) (off : Off j rest) (hp : (p, tupO [v1, v2] pn) ∈ rest) (hv1 : Dt D v1 (tyD t)) (hv2 : Dt D v2 (tyD (f t))) (hs1 : ∀ p ∈ D, p ∈ rest) : CallOk PySem.Challenge.rw_xm0591_01.row.prog w (hd.heap_1 w.params) topProg loose mean mg mb 20 206 [.ref j, .ref p] ((j, jarO x tx y ty n) :: rest) (JPost j n D rest (OpsR f)) := by
  unfold CallOk
  intro dp un gd cn cs a' ccd cl outer A₀ base h₀ L m s Q E B F X N T hk hdp hun hret
  replace N := News.add N (.tail _ hp)
  have hpj : @Ne Nat p j := off _ hp
  refine wpAny_call ?_
  refine' code_defC ?k1 ?k2 ?k3 ?k4 ?k5 ?kA ?kF ?kK ?k6 ?k7 ?k8 ?k9 ?kB ?kD ?_ ?c2 ?c3 ?c4; (case kA => exact rfl); (case kF => exact rfl); (case kK => first | exact rfl | assumption); (case k1 => k_asm); (case k2 => k_asm); (case k3 => k_asm); (case k4 => k_asm); (case k5 => k_asm); (case k6 => k_is); (case k7 => k_is); (case k8 => ktr_room); (case k9 => exact BindsTo.of_eq rfl); (case kB => exact rfl); (case kD => decide +kernel); (case c2 => exact rfl); (case c3 => exact rfl); (case c4 => exact rfl)
  k_whole
  intro g' L' h' tk' cells' FG' F' N' Y' B' X' T' l1
  have hoc1 := cell_off l1
  have hoc2 := cell_off2 l1
  replace l1 := allLt_of l1
  have hY := CellsAre.two Y'
  obtain ⟨o1', o2', hE', d1', d2'⟩ := hY
  subst hE'
  clear Y'
  replace d1' := cell_is (v' := some (.ref p)) d1' (by with_unfolding_all rfl)
  replace d2' := cell_is (v' := some (.ref j)) d2' (by with_unfolding_all rfl)
  simp only [List.cons_append, List.nil_append] at N'
  dsimp only
  try k_fold
  all_goals (try (with_reducible rename News _ _ _ _ => nL9; refine led_let nL9 ?_; clear nL9; intro Y0 N9))
  k_steps
  all_goals (refine hret _ _ _ _ (by k_asm) (by k_asm) ?_)
  all_goals (repeat (with_reducible rename _ ∧ _ => hc; (have hcl := hc.1); (have hcr := hc.2); clear hc))
  all_goals (refine jpost_of ?_ (by with_reducible assumption) (by k_mem) (by tb_start) ?_ ?_; rotate_left; tb_rel; with_reducible first
    | exact opsR0
    | exact opsR1 (by assumption)
    | exact opsR2 (by assumption) (by assumption))
theorem operands_use {f : Ty → Ty} {t : Ty} {p : Addr} {pn : Nat} {v1 v2 : Value} {D : List (Addr × Obj)} {j : Addr} {x y : Int} {tx ty : Tok} {n : Nat} {news rest : List (Addr × Obj)} {dp un : Nat} {gd : Option (List Code)} {cn : Str} {cs : Scope} {a : Addr} {ccd : Value} {cl : List (Str × Addr)} {outer : List Env} {A₀ : Around} {base h₀ : Heap} {L : Addr} {m : Str → Option Value} {hS : Heap} {gS : Array GenState} {dS : Drawn} {tS : Nat} {oS : OsState} {Q E : Value → Shared → Prop}
  (P : Pull (j, jarO x tx y ty n) news rest) (ok : JarOk x y) (off : Off j rest) (ht : t.dp ≤ 4) (hp : (p, tupO [v1, v2] pn) ∈ rest) (hv1 : Dt D v1 (tyD t)) (hv2 : Dt D v2 (tyD (f t))) (hs1 : ∀ p ∈ D, p ∈ rest) (B : Below A₀ base outer h₀) (F : Fr h₀ L hS m) (X : (hd.heap_1 w.params).In h₀) (N : News h₀ L hS news) (T : Top topProg loose mean mg mb h₀) (hk : cs.kind = .function) (hr : dp + 20 < recursionLimit) (hu : un + 8 * 20 < cLine)
  (ret : ∀ p' w1 w2 n2 tl (os : List Opd) h' tk' x' tx' y' ty', JarOk x' y' → Fr h₀ L h' m → News h₀ L h' ((p', tupO [w1, w2] n2) :: (j, jarO x' tx' y' ty' n) :: (rest ++ tl)) → Above rest tl → (∀ p ∈ tl, @LT.lt Nat _ j p.1) → Off j tl → @Ne Nat p' j → (p', tupO [w1, w2] n2) ∈ D ++ tl → os.length ≤ 2 → (∀ q ∈ os, q.dp ≤ 4) → Dt (D ++ tl) w1 (.tuple (os.map opD)) → Dt (D ++ tl) w2 (.tuple ((os.map (Opd.map f)).map opD)) → Q (.ref p') ⟨h', gS, dS, tk', oS⟩) : wpAny (model PySem.Challenge.rw_xm0591_01.row.prog w) (ktrTop dp un gd cn cs L a ccd cl outer) (call (.ref 206) [.ref j, .ref p]) Q E ⟨hS, gS, dS, tS, oS⟩ :=
  jar_use B F X N T hk P (operands_ok ht ok off hp hv1 hv2 hs1) hr hu fun r tl h' tk' x' tx' y' ty' d ok' hR F' N' ab hj ho dt => by
    obtain ⟨os, hq1, hq2, rfl⟩ := hR
    obtain ⟨p', w1, w2, n2, rfl, hm, d1, d2⟩ := in_tup2 dt
    have hp' : (p', tupO [w1, w2] n2) ∈ rest ++ tl := (List.mem_append.mp hm).elim (fun h => List.mem_append.mpr (.inl (hs1 _ h))) (fun h => List.mem_append.mpr (.inr h))
    exact ret p' w1 w2 n2 tl os h' tk' x' tx' y' ty' ok' F' (News.add N' (.tail _ hp')) ab hj ho (off_app off ho _ hp') hm hq1 hq2 d1 d2
end
end Mine
namespace Mine
example : True := by
  w_top off
  k_with_none
  trivial

section
variable {w : World} {loose : List Str} {mean : ExcName → Option Value} {mg mb : Str → Option Value}
def RvR (f : Ty → Ty) (d : Dat) : Prop := ∃ rv : Rv, rv.fits ∧ d = .tuple [rvD rv, rvD (rv.map f)]
section
variable {f : Ty → Ty} {t : Ty} {q q' : Opd} {os : List Opd} {r : Rg}
theorem rvR_use (h : q.dp ≤ 4) : RvR f (.tuple [.tuple [.str (Str.ofString "use"), opD q], .tuple [.str (Str.ofString "use"), opD (q.map f)]]) := ⟨.use q, h, rfl⟩
theorem rvR_box (h : q.dp ≤ 4) : RvR f (.tuple [.tuple [.str (Str.ofString "box"), opD q], .tuple [.str (Str.ofString "box"), opD (q.map f)]]) := ⟨.box q, h, rfl⟩
theorem rvR_bin (h : q.dp ≤ 4) (h' : q'.dp ≤ 4) : RvR f (.tuple [.tuple [.str (Str.ofString "binary"), .str (Str.ofString "+"), opD q, opD q'], .tuple [.str (Str.ofString "binary"), .str (Str.ofString "+"), opD (q.map f), opD (q'.map f)]]) := ⟨.bin q q', ⟨h, h'⟩, rfl⟩
theorem rvR_chk (h : q.dp ≤ 4) (h' : q'.dp ≤ 4) : RvR f (.tuple [.tuple [.str (Str.ofString "checked"), .str (Str.ofString "+"), opD q, opD q'], .tuple [.str (Str.ofString "checked"), .str (Str.ofString "+"), opD (q.map f), opD (q'.map f)]]) := ⟨.chk q q', ⟨h, h'⟩, rfl⟩
theorem rvR_un (h : q.dp ≤ 4) : RvR f (.tuple [.tuple [.str (Str.ofString "unary"), .str (Str.ofString "-"), opD q], .tuple [.str (Str.ofString "unary"), .str (Str.ofString "-"), opD (q.map f)]]) := ⟨.un q, h, rfl⟩
theorem rvR_cast (h : q.dp ≤ 4) (ht : t.dp ≤ 4) : RvR f (.tuple [.tuple [.str (Str.ofString "cast"), opD q, tyD t], .tuple [.str (Str.ofString "cast"), opD (q.map f), tyD (f t)]]) := ⟨.cast q t, ⟨h, ht⟩, rfl⟩
theorem rvR_tup (h : os.length ≤ 2) (h' : ∀ q ∈ os, q.dp ≤ 4) : RvR f (.tuple [.tuple [.str (Str.ofString "tuple"), .tuple (os.map opD)], .tuple [.str (Str.ofString "tuple"), .tuple ((os.map (Opd.map f)).map opD)]]) := ⟨.tup os, ⟨h, h'⟩, rfl⟩
theorem rvR_arr (h : os.length ≤ 2) (h' : ∀ q ∈ os, q.dp ≤ 4) : RvR f (.tuple [.tuple [.str (Str.ofString "array"), .tuple (os.map opD)], .tuple [.str (Str.ofString "array"), .tuple ((os.map (Opd.map f)).map opD)]]) := ⟨.arr os, ⟨h, h'⟩, rfl⟩
theorem rvR_adt (ht : t.dp ≤ 4) (h : os.length ≤ 2) (h' : ∀ q ∈ os, q.dp ≤ 4) : RvR f (.tuple [.tuple [.str (Str.ofString "adt"), tyD t, .int 2, .tuple (os.map opD)], .tuple [.str (Str.ofString "adt"), tyD (f t), .int 2, .tuple ((os.map (Opd.map f)).map opD)]]) := ⟨.adt t os, ⟨ht, h, h'⟩, rfl⟩
theorem rvR_ref : RvR f (.tuple [.tuple [.str (Str.ofString "ref"), rgD r, .str (Str.ofString "mut"), .tuple [.int 3, .tuple []]], .tuple [.str (Str.ofString "ref"), .none, .str (Str.ofString "mut"), .tuple [.int 3, .tuple []]]]) := ⟨.ref r, trivial, rfl⟩
theorem rvR_disc : RvR f (.tuple [.tuple [.str (Str.ofString "discriminant"), .tuple [.int 4, .tuple [.tuple [.str (Str.ofString "deref")]]]], .tuple [.str (Str.ofString "discriminant"), .tuple [.int 4, .tuple [.tuple [.str (Str.ofString "deref")]]]]]) := ⟨.disc, trivial, rfl⟩
end

example : True := by
  k_with_none
  k_with "subscriptTail" =>
   ((k_here; (with_reducible show wpAny _ _ (subscriptTail _ _ (Value.ref _) (Value.int _ _)) _ _ _); k_dflt (first
   | (refine' my_tup ?Z0 ?Z1 ?Z2 ?Z3 ?Z4 ?Z5 ?_; (case Z0 => k_asm); (case Z1 => k_mem); (case Z2 | Z3 => decide); (case Z4 | Z5 => rfl); k_whole)
   | (refine' my_lst ?Z0 ?Z1 ?Z2 ?Z3 ?Z5 ?_; (case Z0 => k_asm); (case Z1 => k_mem); (case Z2 | Z3 => decide); (case Z5 => rfl); k_whole))))
  k_with "eval Name" =>
   ((k_here; k_dflt (refine' nameX_L ?Z6 ?Z7 ?_; (case Z6 => k_asm); (case Z7 => exact rfl); k_whole)))
  k_with "w_k_all" =>
   (first | assumption | ((show Off _ _); kqd_all))
  k_with "w_k_room" =>
   (ktr_room)
  k_with "call ref" =>
   ((k_here; (with_reducible show wpAny _ _ (call (Value.ref 201) _) _ _ _); k_dflt (refine' operand_use ?Z8 ?Z9 ?Za ?Zb ?Zc ?Zd ?Ze ?Zf ?Zg ?Zh ?Zi ?Zj ?Zk ?Zl ?Zm ?Zn ?_; (case Zh | Zj => k_asm); (case Z8 => (repeat (first | exact Pull.head | apply Pull.tail))); (case Z9 => k_asm); (case Za => kqd_all); (case Zb => with_reducible assumption); (case Zc => k_mem); (case Zd | Ze => with_reducible assumption); (case Zf => tb_start); (case Zg | Zi | Zk => k_asm); (case Zl => first | exact rfl | with_reducible assumption); (case Zm => ktr_room); (case Zn => ktr_units)); intro p9 v9 u9 n9 tl9 q9 h9 tk9' x9 tx9 y9 ty9 ok9 F9 N9 ab9 hj9 ho9 ne9 dm9 dp9 dt9 du9; (try simp only [List.nil_append, List.cons_append, List.append_nil] at N9); (try dsimp only); (try k_fold)))
  k_with "call ref" =>
   ((k_here; (with_reducible show wpAny _ _ (call (Value.ref 206) _) _ _ _); k_dflt (refine' operands_use ?Zo ?Zp ?Zq ?Zr ?Zs ?Zt ?Zu ?Zv ?Zw ?Zx ?Zy ?Zz ?Z10 ?Z11 ?Z12 ?Z13 ?_; (case Zx | Zz => k_asm); (case Zo => (repeat (first | exact Pull.head | apply Pull.tail))); (case Zp => k_asm); (case Zq => kqd_all); (case Zr => with_reducible assumption); (case Zs => k_mem); (case Zt | Zu => with_reducible assumption); (case Zv => tb_start); (case Zw | Zy | Z10 => k_asm); (case Z11 => first | exact rfl | with_reducible assumption); (case Z12 => ktr_room); (case Z13 => ktr_units)); intro p9 v9 u9 n9 tl9 os9 h9 tk9' x9 tx9 y9 ty9 ok9 F9 N9 ab9 hj9 ho9 ne9 dm9 ol9 dp9 dt9 du9; (try simp only [List.nil_append, List.cons_append, List.append_nil] at N9); (try dsimp only); (try k_fold)))
  k_with "call ref" =>
   ((k_here; (with_reducible show wpAny _ _ (call (Value.ref 189) _) _ _ _); k_dflt (refine' reg_use ?Z14 ?Z15 ?Z16 ?Z17 ?Z18 ?Z19 ?Z1a ?Z1b ?Z1c ?Z1d ?Z1e ?_; (case Z18 | Z1a => k_asm); (case Z14 => (repeat (first | exact Pull.head | apply Pull.tail))); (case Z15 => k_asm); (case Z16 => kqd_all); (case Z17 | Z19 | Z1b => k_asm); (case Z1c => first | exact rfl | with_reducible assumption); (case Z1d => ktr_room); (case Z1e => ktr_units)); intro r9 tl9 rg9 h9 tk9' x9 tx9 y9 ty9 ok9 F9 N9 ab9 hj9 ho9 dt9; (try simp only [List.nil_append, List.cons_append, List.append_nil] at N9); (try dsimp only); (try k_fold)))
  k_with "subscriptTail List cons Name ref int" =>
   ((k_here; k_dflt (refine' my_lst_at ?Z1f ?Z1g ?Z1h ?Z1i ?Z1j ?_; (case Z1f => k_asm); (case Z1g => k_mem); (case Z1h => omega); (case Z1i | Z1j => (simp only [List.length_cons, List.length_nil]; omega))); intro v9 hv9; (simp only [List.mem_cons, List.not_mem_nil, or_false] at hv9)))
  k_with "subscriptTail List cons BinOp ref int" =>
   ((k_here; k_dflt (refine' my_lst_at ?Z1k ?Z1l ?Z1m ?Z1n ?Z1o ?_; (case Z1k => k_asm); (case Z1l => k_mem); (case Z1m => omega); (case Z1n | Z1o => (simp only [List.length_cons, List.length_nil]; omega))); intro v9 hv9; (simp only [List.mem_cons, List.not_mem_nil, or_false] at hv9)))
  k_with "execs cons" =>
   (k_here; (try k_gentoks); (first | ((fail_if_success (fail_if_success k_fold)); (with_reducible refine' ec_let2 ?_); intro q0 e0 K0) | ((with_reducible refine' ec_let ?_); intro K0)); (all_goals (try ((with_reducible rename Fr _ _ _ (fun _ => ite _ _ _) => f9); refine fr_let f9 ?_; clear f9; intro m0 F0))); (try dsimp only))
  k_with "eval Constant str" =>
   (with_reducible refine' con_str ?_)
  k_with "eval Constant int" =>
   (with_reducible refine' con_int ?_)
  k_with "subscriptTail Name Constant ref int" =>
   (k_extra "subscriptTail")
  k_with "callWith ref" =>
   (k_here; (with_reducible show wpAny _ _ (callWith _ (Value.ref _) _ (backTo _ (starEach (_ :: _) _)) []) _ _ _); k_dflt (refine' callWith_K ?zc1 ?zc2 ?_; (case zc1 => with_reducible assumption); (case zc2 => k_is); k_whole))
  k_with "callWith ref" =>
   (k_here; (with_reducible show wpAny _ _ (callWith _ (Value.ref _) _ (backTo _ (starEach [] _)) []) _ _ _); k_dflt (refine' callWith_K0 ?zc1 ?zc2 ?_; (case zc1 => exact Frag.In.keeps (by with_reducible assumption) (Fr.keep (by k_asm))); (case zc2 => k_is); k_whole))
  k_with "eval Name" =>
   (k_here; k_dflt (first
   | (refine' nameX_L ?zn1 ?zn2 ?_ ?zn3 ?zn4; (case zn3 | zn4 => rfl); (case zn1 => k_asm); (case zn2 => rfl); k_whole)
   | (refine' nameX_K ?zn1 ?zn2 ?zn3 ?zn4 ?_ ?zn5 ?zn6; (case zn5 | zn6 => rfl); (case zn1 | zn2 | zn3 => k_asm); (case zn4 => k_is); k_whole)
   | (refine' nameX_B ?zn1 ?zn2 ?zn3 ?zn4 ?zn5 ?zn6 ?_ ?zn7 ?zn8; (case zn7 | zn8 => rfl); (case zn1 | zn2 | zn3 => k_asm); (case zn4 => k_is); (case zn5 => boot_fast); (case zn6 => decide); k_whole)
   | fail))
  k_with "newTuple" =>
   (k_here; k_dflt (refine' tup_let ?z30 ?z4 ?z0 ?_; (case z30 | z4 => k_asm); (case z0 => kmk_size)); intro D' h' e' Y' F' N' l1; (try k_sweep))
  k_with "newList" =>
   (k_here; k_dflt (refine' lst_let ?z30 ?z4 ?z0 ?_; (case z30 | z4 => k_asm); (case z0 => kmk_size)); intro D' h' e' Y' F' N' l1; (try k_sweep))
  k_with "binaryOp Add ref ref" =>
   (k_here; (with_reducible show wpAny _ _ (binaryOp Operator.Add (Value.ref _) (Value.ref _)) _ _ _); k_dflt (refine' kde_addT ?z1 ?z27 ?z25 ?z2 ?z18 ?z23 ?z21 ?z24 ?_; (case z1 | z27 => k_asm); (case z25 | z2 => exact News.isTup (by k_asm) (by k_mem)); (case z18 | z23 => exact List.cons_ne_nil _ _); (case z21 => exact Nat.le_of_ble_eq_true rfl); (case z24 => kun_lit)); intro D' h' F' N' l1; (replace l1 := allLt_of l1); (try k_sweep))
  k_with "k_up" =>
   (first
   | with_reducible exact hp
   | ((with_reducible refine List.mem_cons_of_mem _ ?_); k_extra "k_up")
   | ((with_reducible refine List.mem_append_left _ ?_); k_extra "k_up")
   | ((with_reducible refine List.mem_append_right _ ?_); k_extra "k_up")
   | fail)
  k_with "w_tb_start" =>
   (first
   | exact sub_nil
   | (intro p hp; k_extra "k_up")
   | (refine' sub_trans ?z28 ?z13; (case z28 => with_reducible assumption); (case z13 => (intro p hp; k_extra "k_up")))
   | ((with_reducible refine sub_app ?_ ?_) <;> tb_start)
   | ((with_reducible refine sub_cons ?_ ?_); k_mem; tb_start)
   | fail)
  k_with "w_k_mem" =>
   (focus ((repeat (with_reducible first | exact List.mem_cons_self | refine List.mem_cons_of_mem _ ?_ | refine List.mem_append_left _ ?_)); done))
  k_with "w_kqd_sub" =>
   (with_reducible first
   | exact gdJ_nil
   | (refine' gdJ_app ?_ ?_ <;> kqd_sub)
   | (refine' gd_app ?_ ?_ <;> kqd_sub)
   | (refine' gdJ_new ?z32 ?z12 ?z22 ?z9; (case z12 | z22 => assumption); (case z32 | z9 => k_dflt tb_start))
   | (refine' gd_new ?z32 ?z12 ?z9; (case z12 => assumption); (case z32 | z9 => k_dflt tb_start))
   | (refine' gd_cons0 ?z15 ?z10; (case z15 => first | (refine' gd_had ?z31 ?z38; (case z38 => assumption); (case z31 => k_dflt k_mem)) | (refine' gd_one ?z31 ?z38 ?z37; (case z38 => assumption); (case z31 => k_dflt k_mem); (case z37 => k_dflt tb_start))); (case z10 => kqd_sub))
   | (refine' gdJ_old ?z32 ?z9; (case z9 | z32 => k_dflt tb_start))
   | (refine' gd_old ?z32 ?z9; (case z9 | z32 => k_dflt tb_start))
   | fail)
  k_with "w_tb_rel" =>
   (with_reducible first
   | exact DatP.none
   | exact DatP.bool _
   | exact DatP.int _ _
   | exact DatP.str _ _
   | exact DatPs.nil
   | (refine' DatPs.cons ?_ ?_ <;> first | ((with_reducible show DatP _ _ _); tb_rel) | ((with_reducible show DatPs _ _ _); tb_rel) | ((with_reducible show Dat); skip) | ((with_reducible show List Dat); skip))
   | (refine' datP_in ?z5 ?z37; (case z5 => assumption); (case z37 => k_dflt kqd_sub))
   | (refine' datP_gdJ ?z31 ?z34 ?z35; (case z31 => k_dflt k_mem); (case z34 => first | (refine' gdJ_had ?z31 ?z38; (case z38 => assumption); (case z31 => k_dflt k_mem)) | (refine' gdJ_one ?z31 ?z38 ?z37 ?z19; (case z38 => assumption); (case z31 => k_dflt k_mem); (case z37 => k_dflt tb_start); (case z19 => k_dflt (k_extra "k_ltA")))); (case z35 => tb_rel))
   | (refine' datP_gd ?z31 ?z34 ?z35; (case z31 => k_dflt k_mem); (case z34 => first | (refine' gd_had ?z31 ?z38; (case z38 => assumption); (case z31 => k_dflt k_mem)) | (refine' gd_one ?z31 ?z38 ?z37; (case z38 => assumption); (case z31 => k_dflt k_mem); (case z37 => k_dflt tb_start))); (case z35 => tb_rel))
   | fail)
  k_with "w_lcg_off" =>
   (with_reducible first
   | assumption
   | exact off3_nil
   | (refine' off3_app ?_ ?_ <;> lcg_off)
   | (refine' off3_any ?z40 ?z14 ?z3; (case z40 => assumption); (case z14 => k_dflt k_mem); (case z3 => lcg_off))
   | (refine' off3_cons ⟨?z42, ?z16, ?z17⟩ ?z3; (case z42 | z16 | z17 => k_dflt k_ne); (case z3 => lcg_off))
   | (refine' off3_above ?z40 ?z42 ?z16 ?z17; (case z40 => assumption); (case z42 | z16 | z17 => k_dflt k_mem))
   | (refine' off3_sub ?z40 ?z3; (case z40 => assumption); (case z3 => k_dflt tb_start))
   | fail)
  k_with "w_ktr_room" =>
   ((try simp only [depth_under_make, depth_under_kw, depth_in1, depth_deeper, depth_caller]); (try dsimp only [ktrTop]); with_reducible first
   | (refine' room2 ?z11 ?z20; (case z11 => assumption); (case z20 => k_dflt (first | exact Nat.le_of_ble_eq_true rfl | omega)))
   | (refine' room1 ?z11 ?z20; (case z11 => assumption); (case z20 => k_dflt (first | exact Nat.le_of_ble_eq_true rfl | omega)))
   | (refine' room0 ?z11; (case z11 => assumption))
   | fail)
  k_with "w_ktr_units" =>
   ((try simp only [units_in1, units_deeper, Around.mark_units, units_caller]); (try dsimp only [ktrTop]); with_reducible first
   | (refine' unit2 ?z11 ?z20; (case z11 => assumption); (case z20 => k_dflt (first | exact Nat.le_of_ble_eq_true rfl | omega)))
   | (refine' unit1 ?z11 ?z20; (case z11 => assumption); (case z20 => k_dflt (first | exact Nat.le_of_ble_eq_true rfl | omega)))
   | fail)
  k_with "k_ltA" =>
   (first
   | (refine' lt_all ?z6 ?z36; (case z6 => with_reducible assumption); (case z36 => k_mem))
   | (refine ltN ?_; omega))
  k_with "w_kqd_all" =>
   (with_reducible first
   | assumption
   | exact off_nil
   | (refine' off_cons ?z29 ?z39; (case z29 => k_dflt k_ne); (case z39 => kqd_all))
   | (refine' off_app ?_ ?_ <;> kqd_all)
   | (refine' off_sub ?z8 ?z7; (case z8 => assumption); (case z7 => k_dflt tb_start))
   | (refine' off_above ?z8 ?z7; (case z8 => assumption); (case z7 => k_dflt k_mem))
   | (refine' off_lt ?z8 ?z33 ?z7; (case z8 => assumption); (case z33 => k_dflt ((show (_ : Nat) ≤ _); omega)); (case z7 => k_dflt tb_start))
   | (refine' off_o3a ?z8 ?z7; (case z8 => assumption); (case z7 => k_dflt tb_start))
   | (refine' off_o3b ?z8 ?z7; (case z8 => assumption); (case z7 => k_dflt tb_start))
   | (refine' off_o3c ?z8 ?z7; (case z8 => assumption); (case z7 => k_dflt tb_start))
   | (refine' off_o1 ?z8 ?z7; (case z8 => assumption); (case z7 => k_dflt tb_start))
   | fail)
  k_with "w_k_ne" =>
   (first
   | with_reducible assumption
   | (refine' ne_all ?z6 ?z36; (case z6 => with_reducible assumption); (case z36 => k_mem))
   | (refine' ne_all2 ?z6 ?z36; (case z6 => with_reducible assumption); (case z36 => k_mem))
   | (refine' Ne.symm ?z6; (case z6 => with_reducible assumption))
   | (refine' ne_o3a ?z6 ?z36; (case z6 => with_reducible assumption); (case z36 => k_mem))
   | (refine' ne_o3b ?z6 ?z36; (case z6 => with_reducible assumption); (case z36 => k_mem))
   | (refine' ne_o3c ?z6 ?z36; (case z6 => with_reducible assumption); (case z36 => k_mem))
   | (refine' ne_o3a' ?z6 ?z36; (case z6 => with_reducible assumption); (case z36 => k_mem))
   | (refine' ne_o3b' ?z6 ?z36; (case z6 => with_reducible assumption); (case z36 => k_mem))
   | (refine' ne_o3c' ?z6 ?z36; (case z6 => with_reducible assumption); (case z36 => k_mem))
   | (refine' ne_o1 ?z6 ?z36; (case z6 => with_reducible assumption); (case z36 => k_mem))
   | (refine' ne_o1' ?z6 ?z36; (case z6 => with_reducible assumption); (case z36 => k_mem))
   | (refine' ne_of_lt' ?z6; (case z6 => with_reducible assumption))
   | (refine' ne_of_gt' ?z6; (case z6 => with_reducible assumption))
   | (refine' ne_tr ?z41 ?z6 ?z36; (case z41 | z6 => with_reducible assumption); (case z36 => k_mem))
   | (refine' ne_trs ?z41 ?z6 ?z36; (case z41 | z6 => with_reducible assumption); (case z36 => k_mem))
   | (refine' ne_tr2 ?z41 ?z26 ?z6 ?z36; (case z41 | z26 | z6 => with_reducible assumption); (case z36 => k_mem))
   | (refine' ne_tr2s ?z41 ?z26 ?z6 ?z36; (case z41 | z26 | z6 => with_reducible assumption); (case z36 => k_mem))
   | (with_reducible refine' ne_up1 ?z6 ?z36; (case z6 => assumption); (case z36 => k_dflt k_mem))
   | (with_reducible refine' ne_up2 ?z6 ?z36; (case z6 => assumption); (case z36 => k_dflt k_mem))
   | (with_reducible refine' ne_up3 ?z6 ?z36; (case z6 => assumption); (case z36 => k_dflt k_mem))
   | (with_reducible refine' ne_dn1 ?z6 ?z36; (case z6 => assumption); (case z36 => k_dflt k_mem))
   | (with_reducible refine' ne_dn2 ?z6 ?z36; (case z6 => assumption); (case z36 => k_dflt k_mem))
   | (with_reducible refine' ne_dn3 ?z6 ?z36; (case z6 => assumption); (case z36 => k_dflt k_mem))
   | fail)
  k_with "pack" =>
   skip
  trivial
theorem rvalue_ok {f : Ty → Ty} {t : Ty} (ht : t.dp ≤ 4) {j p : Addr} {x y i : Int} {tx ty ti : Tok} {n pn : Nat} {v1 v2 : Value} {rest D : List (Addr × Obj)} (ok : JarOk x y) (off : Off j rest) (hp : (p, tupO [v1, v2] pn) ∈ rest) (hv1 : Dt D v1 (tyD t)) (hv2 : Dt D v2 (tyD (f t))) (hs1 : ∀ p ∈ D, p ∈ rest) (hi0 : 0 ≤ i) (hi1 : i ≤ 10) : CallOk PySem.Challenge.rw_xm0591_01.row.prog w (hd.heap_1 w.params) topProg loose mean mg mb 26 213 [.ref j, .int i ti, .ref p] ((j, jarO x tx y ty n) :: rest) (JPost j n D rest (RvR f)) := by
  unfold CallOk
  intro dp un gd cn cs a' ccd cl outer A₀ base h₀ L m s Q E B F X N T hk hdp hun hret
  replace N := News.add N (.tail _ hp)
  have hpj : @Ne Nat p j := off _ hp
  refine wpAny_call ?_
  k_dflt ktr_enter
  all_goals (try (with_reducible rename News _ _ _ _ => nL9; refine led_let nL9 ?_; clear nL9; intro Y0 N9))
  k_steps
  all_goals (refine hret _ _ _ _ (by k_asm) (by k_asm) ?_)
  all_goals (repeat (with_reducible rename _ ∧ _ => hc; (have hcl := hc.1); (have hcr := hc.2); clear hc))
  all_goals (try (rename _ = Value.str _ _ ∨ _ => hv; rcases hv with rfl | rfl))
  all_goals (refine jpost_of ?_ (by with_reducible assumption) (by k_mem) (by tb_start) ?_ ?_; rotate_left; tb_rel; with_reducible first
    | exact rvR_use (by assumption)
    | exact rvR_box (by assumption)
    | exact rvR_bin (by assumption) (by assumption)
    | exact rvR_chk (by assumption) (by assumption)
    | exact rvR_un (by assumption)
    | exact rvR_cast (by assumption) (by assumption)
    | exact rvR_tup (by assumption) (by assumption)
    | exact rvR_arr (by assumption) (by assumption)
    | exact rvR_adt (by assumption) (by assumption) (by assumption)
    | exact rvR_ref
    | exact rvR_disc)
theorem rvalue_use {f : Ty → Ty} {t : Ty} {p : Addr} {pn : Nat} {v1 v2 : Value} {i : Int} {ti : Tok} {D : List (Addr × Obj)} {j : Addr} {x y : Int} {tx ty : Tok} {n : Nat} {news rest : List (Addr × Obj)} {dp un : Nat} {gd : Option (List Code)} {cn : Str} {cs : Scope} {a : Addr} {ccd : Value} {cl : List (Str × Addr)} {outer : List Env} {A₀ : Around} {base h₀ : Heap} {L : Addr} {m : Str → Option Value} {hS : Heap} {gS : Array GenState} {dS : Drawn} {tS : Nat} {oS : OsState} {Q E : Value → Shared → Prop}
  (P : Pull (j, jarO x tx y ty n) news rest) (ok : JarOk x y) (off : Off j rest) (ht : t.dp ≤ 4) (hp : (p, tupO [v1, v2] pn) ∈ rest) (hv1 : Dt D v1 (tyD t)) (hv2 : Dt D v2 (tyD (f t))) (hs1 : ∀ p ∈ D, p ∈ rest) (hi0 : 0 ≤ i) (hi1 : i ≤ 10) (B : Below A₀ base outer h₀) (F : Fr h₀ L hS m) (X : (hd.heap_1 w.params).In h₀) (N : News h₀ L hS news) (T : Top topProg loose mean mg mb h₀) (hk : cs.kind = .function) (hr : dp + 26 < recursionLimit) (hu : un + 8 * 26 < cLine)
  (ret : ∀ p' w1 w2 n2 tl (rv : Rv) h' tk' x' tx' y' ty', JarOk x' y' → Fr h₀ L h' m → News h₀ L h' ((p', tupO [w1, w2] n2) :: (j, jarO x' tx' y' ty' n) :: (rest ++ tl)) → Above rest tl → (∀ p ∈ tl, @LT.lt Nat _ j p.1) → Off j tl → @Ne Nat p' j → (p', tupO [w1, w2] n2) ∈ D ++ tl → rv.fits → Dt (D ++ tl) w1 (rvD rv) → Dt (D ++ tl) w2 (rvD (rv.map f)) → Q (.ref p') ⟨h', gS, dS, tk', oS⟩) : wpAny (model PySem.Challenge.rw_xm0591_01.row.prog w) (ktrTop dp un gd cn cs L a ccd cl outer) (call (.ref 213) [.ref j, .int i ti, .ref p]) Q E ⟨hS, gS, dS, tS, oS⟩ :=
  jar_use B F X N T hk P (rvalue_ok ht ok off hp hv1 hv2 hs1 hi0 hi1) hr hu fun r tl h' tk' x' tx' y' ty' d ok' hR F' N' ab hj ho dt => by
    obtain ⟨rv, hq, rfl⟩ := hR
    obtain ⟨p', w1, w2, n2, rfl, hm, d1, d2⟩ := in_tup2 dt
    have hp' : (p', tupO [w1, w2] n2) ∈ rest ++ tl := (List.mem_append.mp hm).elim (fun h => List.mem_append.mpr (.inl (hs1 _ h))) (fun h => List.mem_append.mpr (.inr h))
    exact ret p' w1 w2 n2 tl rv h' tk' x' tx' y' ty' ok' F' (News.add N' (.tail _ hp')) ab hj ho (off_app off ho _ hp') hm hq d1 d2
end
end Mine
namespace Mine
example : True := by
  w_top off
  k_with_none
  trivial

/-! a loop over a range whose turns draw from the jar alone -/
def mapKv (u : Str → Option Value) : List (Str × Value) → Str → Option Value
  | [], z => u z
  | (a, v) :: r, z => if z = a then some v else mapKv u r z
def KvIn (m : Str → Option Value) : List (Str × Value) → Prop
  | [] => True
  | (a, v) :: r => m a = some v ∧ KvIn m r
theorem mapKv_is {m : Str → Option Value} {kv : List (Str × Value)} (h : KvIn m kv) : (fun z => mapKv m kv z) = m := by
  funext z
  induction kv with
  | nil => rfl
  | cons p r ih =>
    obtain ⟨a, v⟩ := p
    show (if z = a then some v else mapKv m r z) = m z
    by_cases e : z = a
    · subst e; rw [if_pos rfl]; exact h.1.symm
    · rw [if_neg e]; exact ih h.2
theorem mapKv_after {m : Str → Option Value} {kv : List (Str × Value)} {x : Str} {v : Value} (h : KvIn m kv) : (fun z => if z = x then some v else mapKv m kv z) = fun z => if z = x then some v else m z := by
  have e := mapKv_is h
  funext z
  by_cases hz : z = x
  · simp [hz]
  · simp only [if_neg hz]; exact congrFun e z
def JarEnd (h₀ : Heap) (L j : Addr) (n : Nat) (rest own : List (Addr × Obj)) (kv : List (Str × Value)) (s₁ s₂ : Shared) : Prop :=
  ∃ h' tk m' news' x tx y ty, s₂ = { s₁ with heap := h', toks := tk } ∧ JarOk x y ∧ Fr h₀ L h' m' ∧ News h₀ L h' news' ∧ (j, jarO x tx y ty n) ∈ news' ∧ (∀ p ∈ rest, p ∈ news') ∧ (∀ p ∈ own, p ∈ news') ∧ KvIn m' kv
theorem jar_end {h₀ : Heap} {L j : Addr} {n : Nat} {rest own news' : List (Addr × Obj)} {kv : List (Str × Value)} {s₁ : Shared} {h' : Heap} {tk : Nat} {m' : Str → Option Value} {x : Int} {tx : Tok} {y : Int} {ty : Tok}
    (ok : JarOk x y) (F : Fr h₀ L h' m') (N : News h₀ L h' news') (hj : (j, jarO x tx y ty n) ∈ news') (hr : ∀ p ∈ rest, p ∈ news') (ho : ∀ p ∈ own, p ∈ news') (hk : KvIn m' kv) : JarEnd h₀ L j n rest own kv s₁ { s₁ with heap := h', toks := tk } :=
  ⟨h', tk, m', news', x, tx, y, ty, rfl, ok, F, N, hj, hr, ho, hk⟩
def JarPost (h₀ : Heap) (L j : Addr) (n : Nat) (rest own : List (Addr × Obj)) (kv : List (Str × Value)) (s₁ : Shared) (Q : Flow → Shared → Prop) (f : Flow) (s₂ : Shared) : Prop :=
  match f with
  | .ret v => Q (.ret v) s₂
  | .brk => Q .next s₂
  | _ => JarEnd h₀ L j n rest own kv s₁ s₂
theorem loop_jar {prog : Program} {w : World} {A : Around} {E : Value → Shared → Prop} {s : Shared} {env : Env} {h₀ : Heap} {xn : Str} {body : List Stmt} {Q : Flow → Shared → Prop}
    {r : Addr} {a₀ b₀ : Int} {t₀ u₀ v₀ : Tok} {c : Nat} {m₀ : Str → Option Value} {j : Addr} {x y : Int} {tx ty : Tok} {n : Nat} {news rest : List (Addr × Obj)} (kv : List (Str × Value))
    (P : Pull (j, jarO x tx y ty n) news rest) (hkv : KvIn m₀ kv)
    (hh : A.handled = none) (hr : IsRange s.heap r a₀ b₀ 1 t₀ u₀ v₀) (hsmall : Builtin.Range.small a₀ b₀ 1 = true) (hc : Builtin.Range.rangeSize a₀ b₀ 1 = (c : Int)) (F : Fr h₀ env.locals s.heap m₀) (N : News h₀ env.locals s.heap news) (ok : JarOk x y)
    (turn : ∀ k t u h tk own x' tx' y' ty', a₀ ≤ k → k < a₀ + (c : Int) → Off j own → JarOk x' y' → Fr h₀ env.locals h (fun z => if z = xn then some (.int k t) else mapKv u kv z) → News h₀ env.locals h ((j, jarO x' tx' y' ty' n) :: (rest ++ own)) →
      wpAny (model prog w) A (execs body env) (JarPost h₀ env.locals j n rest own kv { s with heap := h, toks := tk } Q) E { s with heap := h, toks := tk })
    (done : ∀ u h tk x' tx' y' ty', JarOk x' y' → Fr h₀ env.locals h (fun z => mapKv u kv z) → News h₀ env.locals h ((j, jarO x' tx' y' ty' n) :: rest) → Q .next { s with heap := h, toks := tk }) :
    wpAny (model prog w) A (pyIter (.ref r)) (fun it s₂ => LoopAtV prog w A h₀ env xn body Q E it s₂) E s := by
  have N' := News.sub N P.mem
  refine iter_rangeS (σ := Unit) (fun _ m nx => KvIn m kv ∧ ∃ x' tx' y' ty', JarOk x' y' ∧ nx = (j, jarO x' tx' y' ty' n) :: rest) (fun _ _ => ()) () hh hr hsmall hc F N' ⟨hkv, _, _, _, _, ok, rfl⟩ ?_ ?_
  · rintro k t ⟨⟩ m₁ nx h tk own hk hoff ⟨hm, x', tx', y', ty', ok', rfl⟩ F₁ N₁
    have hb := mem_rangeKs hk
    have ho : Off j own := fun p hp => hoff p hp j (by simp)
    refine wpAny_mono (turn k t m₁ h tk own x' tx' y' ty' hb.1 hb.2 ho ok' ?_ N₁) (fun f s₂ h₂ => ?_) fun _ _ e => e
    · rw [mapKv_after hm]; exact F₁
    · cases f with
      | ret v => exact h₂
      | brk => exact h₂
      | next | cont =>
        obtain ⟨h', tk', m', news', x₂, tx₂, y₂, ty₂, rfl, ok₂, F₂, N₂, hj, hr₂, ho₂, hk₂⟩ := h₂
        exact ⟨h', tk', m', news', (j, jarO x₂ tx₂ y₂ ty₂ n) :: rest, rfl, F₂, N₂, sub_cons hj hr₂, ho₂, rfl, hk₂, _, _, _, _, ok₂, rfl⟩
  · rintro m₁ nx h tk ⟨hm, x', tx', y', ty', ok', rfl⟩ F₁ N₁
    exact done m₁ h tk x' tx' y' ty' ok' (by rw [mapKv_is hm]; exact F₁) N₁

theorem op_tup {q : Opd} {k : Nat} (h : 2 * q.dp + 3 ≤ k) (h4 : 4 ≤ k) : tupD k (opD q) = true := by
  obtain ⟨k, rfl⟩ : ∃ m, k = m + 1 := ⟨k - 1, by omega⟩
  have pk : ∀ i : Int, tupD k (placeD i) = true := fun i => tupD_le (n := 3) (tuple_ok fun d hd => by
    simp only [List.mem_cons, List.not_mem_nil, or_false] at hd
    rcases hd with rfl | rfl
    · exact int_ok _
    · decide +kernel) (by omega)
  cases q with
  | cp i =>
    refine tuple_ok fun d hd => ?_
    simp only [List.mem_cons, List.not_mem_nil, or_false] at hd
    rcases hd with rfl | rfl
    · exact str_ok _ (by decide +kernel)
    · exact pk i
  | mv i =>
    refine tuple_ok fun d hd => ?_
    simp only [List.mem_cons, List.not_mem_nil, or_false] at hd
    rcases hd with rfl | rfl
    · exact str_ok _ (by decide +kernel)
    · exact pk i
  | co t =>
    refine tuple_ok fun d hd => ?_
    simp only [List.mem_cons, List.not_mem_nil, or_false] at hd
    rcases hd with rfl | rfl | rfl
    · exact str_ok _ (by decide +kernel)
    · exact ty_ok _ (by simp only [Opd.dp] at h; omega)
    · exact int_ok _
theorem ops_tup {os : List Opd} {k : Nat} (h : ∀ q ∈ os, q.dp ≤ 8) (h4 : 20 ≤ k) : tupD k (.tuple (os.map opD)) = true := by
  obtain ⟨k, rfl⟩ : ∃ m, k = m + 1 := ⟨k - 1, by omega⟩
  refine tuple_ok fun d hd => ?_
  obtain ⟨q, hq, rfl⟩ := List.mem_map.mp hd
  have := h q hq
  exact op_tup (by omega) (by omega)
theorem map_dp {f : Ty → Ty} (hf : ∀ t, t.dp ≤ 4 → (f t).dp ≤ 8) {q : Opd} (h : q.dp ≤ 4) : (q.map f).dp ≤ 8 := by
  cases q with
  | co t => exact hf t h
  | _ => exact Nat.zero_le _
theorem maps_dp {f : Ty → Ty} (hf : ∀ t, t.dp ≤ 4 → (f t).dp ≤ 8) {os : List Opd} (h : ∀ q ∈ os, q.dp ≤ 4) : ∀ q ∈ os.map (Opd.map f), q.dp ≤ 8 := fun q hq => by
  obtain ⟨q', hq', rfl⟩ := List.mem_map.mp hq
  exact map_dp hf (h q' hq')
theorem rv_tupD {f : Ty → Ty} (hf : ∀ t, t.dp ≤ 4 → (f t).dp ≤ 8) {rv : Rv} (h : rv.fits) : tupD 22 (rvD (rv.map f)) = true := by
  have op1 : ∀ {q : Opd}, q.dp ≤ 4 → tupD 21 (opD (q.map f)) = true := fun hq => op_tup (by have := map_dp hf hq; omega) (by omega)
  have os1 : ∀ {os : List Opd}, (∀ q ∈ os, q.dp ≤ 4) → tupD 21 (.tuple ((os.map (Opd.map f)).map opD)) = true := fun hq => ops_tup (maps_dp hf hq) (by omega)
  have ty1 : ∀ {t : Ty}, t.dp ≤ 4 → tupD 21 (tyD (f t)) = true := fun hq => ty_ok _ (by have := hf _ hq; omega)
  cases rv with
  | use q =>
    refine tuple_ok fun d hd => ?_
    simp only [List.mem_cons, List.not_mem_nil, or_false] at hd
    rcases hd with rfl | rfl
    · exact str_ok _ (by decide +kernel)
    · exact op1 h
  | box q =>
    refine tuple_ok fun d hd => ?_
    simp only [List.mem_cons, List.not_mem_nil, or_false] at hd
    rcases hd with rfl | rfl
    · exact str_ok _ (by decide +kernel)
    · exact op1 h
  | bin a b =>
    refine tuple_ok fun d hd => ?_
    simp only [List.mem_cons, List.not_mem_nil, or_false] at hd
    rcases hd with rfl | rfl | rfl | rfl
    · exact str_ok _ (by decide +kernel)
    · exact str_ok _ (by decide +kernel)
    · exact op1 h.1
    · exact op1 h.2
  | chk a b =>
    refine tuple_ok fun d hd => ?_
    simp only [List.mem_cons, List.not_mem_nil, or_false] at hd
    rcases hd with rfl | rfl | rfl | rfl
    · exact str_ok _ (by decide +kernel)
    · exact str_ok _ (by decide +kernel)
    · exact op1 h.1
    · exact op1 h.2
  | un q =>
    refine tuple_ok fun d hd => ?_
    simp only [List.mem_cons, List.not_mem_nil, or_false] at hd
    rcases hd with rfl | rfl | rfl
    · exact str_ok _ (by decide +kernel)
    · exact str_ok _ (by decide +kernel)
    · exact op1 h
  | cast q t =>
    refine tuple_ok fun d hd => ?_
    simp only [List.mem_cons, List.not_mem_nil, or_false] at hd
    rcases hd with rfl | rfl | rfl
    · exact str_ok _ (by decide +kernel)
    · exact op1 h.1
    · exact ty1 h.2
  | tup os =>
    refine tuple_ok fun d hd => ?_
    simp only [List.mem_cons, List.not_mem_nil, or_false] at hd
    rcases hd with rfl | rfl
    · exact str_ok _ (by decide +kernel)
    · exact os1 h.2
  | arr os =>
    refine tuple_ok fun d hd => ?_
    simp only [List.mem_cons, List.not_mem_nil, or_false] at hd
    rcases hd with rfl | rfl
    · exact str_ok _ (by decide +kernel)
    · exact os1 h.2
  | adt t os =>
    refine tuple_ok fun d hd => ?_
    simp only [List.mem_cons, List.not_mem_nil, or_false] at hd
    rcases hd with rfl | rfl | rfl | rfl
    · exact str_ok _ (by decide +kernel)
    · exact ty1 h.1
    · exact int_ok _
    · exact os1 h.2.2
  | ref _ => show tupD 22 (rvD (.ref .no)) = true; decide +kernel
  | disc => show tupD 22 (rvD .disc) = true; decide +kernel
theorem sm_tupD {f : Ty → Ty} (hf : ∀ t, t.dp ≤ 4 → (f t).dp ≤ 8) {sm : Sm} (h : sm.fits) : tupD 23 (smD (sm.map f)) = true := by
  cases sm with
  | asg rv =>
    refine tuple_ok fun d hd => ?_
    simp only [List.mem_cons, List.not_mem_nil, or_false] at hd
    rcases hd with rfl | rfl | rfl
    · exact str_ok _ (by decide +kernel)
    · decide +kernel
    · exact rv_tupD hf h
  | prt q =>
    refine tuple_ok fun d hd => ?_
    simp only [List.mem_cons, List.not_mem_nil, or_false] at hd
    rcases hd with rfl | rfl
    · exact str_ok _ (by decide +kernel)
    · exact op_tup (by have := map_dp hf h; omega) (by omega)
  | live => show tupD 23 (smD .live) = true; decide +kernel
  | dead => show tupD 23 (smD .dead) = true; decide +kernel
  | nop => show tupD 23 (smD .nop) = true; decide +kernel
theorem pl_dp {τ : Pm → Option Ty} (hτ : ∀ x t, τ x = some t → t.dp ≤ 4) : ∀ t : Ty, t.dp ≤ 4 → (erase (subst τ t)).dp ≤ 8 := fun t h => by
  rw [erase_dp]
  have := subst_dp hτ t
  omega
end Mine
namespace Mine
example : True := by
  w_top off
  k_with_none
  trivial

section
variable {w : World} {loose : List Str} {mean : ExcName → Option Value} {mg mb : Str → Option Value} {τ : Pm → Option Ty}
theorem jar_post_next {h₀ : Heap} {L j : Addr} {n : Nat} {rest own news' : List (Addr × Obj)} {kv : List (Str × Value)} {s₁ : Shared} {Q : Flow → Shared → Prop} {h' : Heap} {tk : Nat} {m' : Str → Option Value} {x : Int} {tx : Tok} {y : Int} {ty : Tok} (ok : JarOk x y) (F : Fr h₀ L h' m') (N : News h₀ L h' news') (hj : (j, jarO x tx y ty n) ∈ news') (hr : ∀ p ∈ rest, p ∈ news') (ho : ∀ p ∈ own, p ∈ news') (hk : KvIn m' kv) : JarPost h₀ L j n rest own kv s₁ Q .next { s₁ with heap := h', toks := tk } := jar_end ok F N hj hr ho hk
def Fix (sm : Sm) : Prop := ∀ f, sm.map f = sm
theorem fix_dt {sm : Sm} {l : List (Addr × Obj)} {r : Value} {f : Ty → Ty} (h : Fix sm) (d : Dt l r (smD (sm.map f))) : Dt l r (smD sm) := by rw [← h f]; exact d
theorem fix_tup {sm : Sm} (h : Fix sm) (hf : sm.fits) : tupD 23 (smD sm) = true := by
  have := sm_tupD (f := fun _ => .int) (fun _ _ => by decide) hf
  rwa [h] at this
theorem other_of {r : Value} {a1 a2 a3 : Addr} {h₀ h : Heap} {L : Addr} {l : List (Addr × Obj)} {t1 t2 t3 t4 t5 : Tok} {n1 n2 n3 : Nat} (hv : r = .ref a1 ∨ r = .ref a2 ∨ r = .ref a3) (_ : News h₀ L h l)
    (h1 : (a1, tupO [.str (Str.ofString "live") t1, .int 3 t2] n1) ∈ l) (h2 : (a2, tupO [.str (Str.ofString "dead") t3, .int 4 t4] n2) ∈ l) (h3 : (a3, tupO [.str (Str.ofString "nop") t5] n3) ∈ l) : ∃ sm : Sm, Dt l r (smD sm) ∧ sm.fits ∧ Fix sm := by
  rcases hv with rfl | rfl | rfl
  · exact ⟨.live, .tuple h1 (.cons (.str _ _) (.cons (.int _ _) .nil)), trivial, fun _ => rfl⟩
  · exact ⟨.dead, .tuple h2 (.cons (.str _ _) (.cons (.int _ _) .nil)), trivial, fun _ => rfl⟩
  · exact ⟨.nop, .tuple h3 (.cons (.str _ _) .nil), trivial, fun _ => rfl⟩
theorem kvIn_nil {m : Str → Option Value} : KvIn m [] := trivial
theorem kvIn_cons {m : Str → Option Value} {a : Str} {v : Value} {r : List (Str × Value)} (h : m a = some v) (k : KvIn m r) : KvIn m ((a, v) :: r) := ⟨h, k⟩
theorem dt_asg {l D : List (Addr × Obj)} {a b c : Addr} {v : Value} {t1 t2 : Tok} {n1 n2 n3 : Nat} {rv : Rv} (h1 : (a, tupO [.str (Str.ofString "assign") t1, .ref b, v] n1) ∈ l) (h2 : (b, tupO [.int 1 t2, .ref c] n2) ∈ l) (h3 : (c, tupO [] n3) ∈ l) (hv : Dt D v (rvD rv)) (hs : ∀ p ∈ D, p ∈ l) : Dt l (.ref a) (smD (.asg rv)) :=
  .tuple h1 (.cons (.str _ _) (.cons (.tuple h2 (.cons (.int _ _) (.cons (.tuple h3 .nil) .nil))) (.cons (hv.mono hs) .nil)))
theorem dt_prt {l D : List (Addr × Obj)} {a : Addr} {v : Value} {t1 : Tok} {n1 : Nat} {q : Opd} (h1 : (a, tupO [.str (Str.ofString "print") t1, v] n1) ∈ l) (hv : Dt D v (opD q)) (hs : ∀ p ∈ D, p ∈ l) : Dt l (.ref a) (smD (.prt q)) :=
  .tuple h1 (.cons (.str _ _) (.cons (hv.mono hs) .nil))
theorem dt_live {l : List (Addr × Obj)} {a : Addr} {t1 t2 : Tok} {n1 : Nat} (h1 : (a, tupO [.str (Str.ofString "live") t1, .int 3 t2] n1) ∈ l) : Dt l (.ref a) (smD .live) := .tuple h1 (.cons (.str _ _) (.cons (.int _ _) .nil))
theorem dt_dead {l : List (Addr × Obj)} {a : Addr} {t1 t2 : Tok} {n1 : Nat} (h1 : (a, tupO [.str (Str.ofString "dead") t1, .int 4 t2] n1) ∈ l) : Dt l (.ref a) (smD .dead) := .tuple h1 (.cons (.str _ _) (.cons (.int _ _) .nil))
theorem dt_nop {l : List (Addr × Obj)} {a : Addr} {t1 : Tok} {n1 : Nat} (h1 : (a, tupO [.str (Str.ofString "nop") t1] n1) ∈ l) : Dt l (.ref a) (smD .nop) := .tuple h1 (.cons (.str _ _) .nil)
theorem type2 {σ : Pm → Option Ty} : TypeOk w loose mean mg mb σ 2 34 := by
  have h0 : TypeOk w loose mean mg mb σ 0 24 := fun hi ok off hV hds hs1 => type0 hi ok off hV hds hs1
  have h1 : TypeOk w loose mean mg mb σ 1 29 := by intro j a x y i tx ty t n rest D hi ok off hV hds hs1; exact typeS (by decide) h0 h0 hi ok off hV hds hs1
  intro j a x y i tx ty t n rest D hi ok off hV hds hs1
  exact typeS (by decide) h0 h1 hi ok off hV hds hs1
theorem type1 {σ : Pm → Option Ty} : TypeOk w loose mean mg mb σ 1 29 := by
  have h0 : TypeOk w loose mean mg mb σ 0 24 := fun hi ok off hV hds hs1 => type0 hi ok off hV hds hs1
  intro j a x y i tx ty t n rest D hi ok off hV hds hs1
  exact typeS (by decide) h0 h0 hi ok off hV hds hs1
theorem operand_usep {τ : Pm → Option Ty} {t : Ty} {p : Addr} {pn : Nat} {v1 v2 : Value} {D : List (Addr × Obj)} {j : Addr} {x y : Int} {tx ty : Tok} {n : Nat} {news rest : List (Addr × Obj)} {dp un : Nat} {gd : Option (List Code)} {cn : Str} {cs : Scope} {a : Addr} {ccd : Value} {cl : List (Str × Addr)} {outer : List Env} {A₀ : Around} {base h₀ : Heap} {L : Addr} {m : Str → Option Value} {hS : Heap} {gS : Array GenState} {dS : Drawn} {tS : Nat} {oS : OsState} {Q E : Value → Shared → Prop}
  (P : Pull (j, jarO x tx y ty n) news rest) (ok : JarOk x y) (off : Off j rest) (ht : t.dp ≤ 4) (hp : (p, tupO [v1, v2] pn) ∈ rest) (hv1 : Dt D v1 (tyD t)) (hv2 : Dt D v2 (tyD (erase (subst τ t)))) (hs1 : ∀ p ∈ D, p ∈ rest) (B : Below A₀ base outer h₀) (F : Fr h₀ L hS m) (X : (hd.heap_1 w.params).In h₀) (N : News h₀ L hS news) (T : Top topProg loose mean mg mb h₀) (hk : cs.kind = .function) (hr : dp + 14 < recursionLimit) (hu : un + 8 * 14 < cLine)
  (ret : ∀ p' w1 w2 n2 tl q h' tk' x' tx' y' ty', JarOk x' y' → Fr h₀ L h' m → News h₀ L h' ((p', tupO [w1, w2] n2) :: (j, jarO x' tx' y' ty' n) :: (rest ++ tl)) → Above rest tl → (∀ p ∈ tl, @LT.lt Nat _ j p.1) → Off j tl → @Ne Nat p' j → (p', tupO [w1, w2] n2) ∈ D ++ tl → q.dp ≤ 4 → Dt (D ++ tl) w1 (opD q) → Dt (D ++ tl) w2 (opD (q.map fun t => erase (subst τ t))) → Q (.ref p') ⟨h', gS, dS, tk', oS⟩) : wpAny (model PySem.Challenge.rw_xm0591_01.row.prog w) (ktrTop dp un gd cn cs L a ccd cl outer) (call (.ref 201) [.ref j, .ref p]) Q E ⟨hS, gS, dS, tS, oS⟩ :=
  jar_use B F X N T hk P (operand_ok (f := fun t => erase (subst τ t)) ht ok off hp hv1 hv2 hs1) hr hu fun r tl h' tk' x' tx' y' ty' d ok' hR F' N' ab hj ho dt => by
    obtain ⟨q, hq, rfl⟩ := hR
    obtain ⟨p', w1, w2, n2, rfl, hm, d1, d2⟩ := in_tup2 dt
    have hp' : (p', tupO [w1, w2] n2) ∈ rest ++ tl := (List.mem_append.mp hm).elim (fun h => List.mem_append.mpr (.inl (hs1 _ h))) (fun h => List.mem_append.mpr (.inr h))
    exact ret p' w1 w2 n2 tl q h' tk' x' tx' y' ty' ok' F' (News.add N' (.tail _ hp')) ab hj ho (off_app off ho _ hp') hm hq d1 d2
theorem rvalue_usep {τ : Pm → Option Ty} {t : Ty} {p : Addr} {pn : Nat} {v1 v2 : Value} {i : Int} {ti : Tok} {D : List (Addr × Obj)} {j : Addr} {x y : Int} {tx ty : Tok} {n : Nat} {news rest : List (Addr × Obj)} {dp un : Nat} {gd : Option (List Code)} {cn : Str} {cs : Scope} {a : Addr} {ccd : Value} {cl : List (Str × Addr)} {outer : List Env} {A₀ : Around} {base h₀ : Heap} {L : Addr} {m : Str → Option Value} {hS : Heap} {gS : Array GenState} {dS : Drawn} {tS : Nat} {oS : OsState} {Q E : Value → Shared → Prop}
  (P : Pull (j, jarO x tx y ty n) news rest) (ok : JarOk x y) (off : Off j rest) (ht : t.dp ≤ 4) (hp : (p, tupO [v1, v2] pn) ∈ rest) (hv1 : Dt D v1 (tyD t)) (hv2 : Dt D v2 (tyD (erase (subst τ t)))) (hs1 : ∀ p ∈ D, p ∈ rest) (hi0 : 0 ≤ i) (hi1 : i ≤ 10) (B : Below A₀ base outer h₀) (F : Fr h₀ L hS m) (X : (hd.heap_1 w.params).In h₀) (N : News h₀ L hS news) (T : Top topProg loose mean mg mb h₀) (hk : cs.kind = .function) (hr : dp + 26 < recursionLimit) (hu : un + 8 * 26 < cLine)
  (ret : ∀ p' w1 w2 n2 tl (rv : Rv) h' tk' x' tx' y' ty', JarOk x' y' → Fr h₀ L h' m → News h₀ L h' ((p', tupO [w1, w2] n2) :: (j, jarO x' tx' y' ty' n) :: (rest ++ tl)) → Above rest tl → (∀ p ∈ tl, @LT.lt Nat _ j p.1) → Off j tl → @Ne Nat p' j → (p', tupO [w1, w2] n2) ∈ D ++ tl → rv.fits → Dt (D ++ tl) w1 (rvD rv) → Dt (D ++ tl) w2 (rvD (rv.map fun t => erase (subst τ t))) → Q (.ref p') ⟨h', gS, dS, tk', oS⟩) : wpAny (model PySem.Challenge.rw_xm0591_01.row.prog w) (ktrTop dp un gd cn cs L a ccd cl outer) (call (.ref 213) [.ref j, .int i ti, .ref p]) Q E ⟨hS, gS, dS, tS, oS⟩ :=
  jar_use B F X N T hk P (rvalue_ok (f := fun t => erase (subst τ t)) ht ok off hp hv1 hv2 hs1 hi0 hi1) hr hu fun r tl h' tk' x' tx' y' ty' d ok' hR F' N' ab hj ho dt => by
    obtain ⟨rv, hq, rfl⟩ := hR
    obtain ⟨p', w1, w2, n2, rfl, hm, d1, d2⟩ := in_tup2 dt
    have hp' : (p', tupO [w1, w2] n2) ∈ rest ++ tl := (List.mem_append.mp hm).elim (fun h => List.mem_append.mpr (.inl (hs1 _ h))) (fun h => List.mem_append.mpr (.inr h))
    exact ret p' w1 w2 n2 tl rv h' tk' x' tx' y' ty' ok' F' (News.add N' (.tail _ hp')) ab hj ho (off_app off ho _ hp') hm hq d1 d2

example : True := by
  k_with_none
  k_with "subscriptTail" =>
   ((k_here; (with_reducible show wpAny _ _ (subscriptTail _ _ (Value.ref _) (Value.int _ _)) _ _ _); k_dflt (first
   | (refine' my_tup ?Z0 ?Z1 ?Z2 ?Z3 ?Z4 ?Z5 ?_; (case Z0 => k_asm); (case Z1 => k_mem); (case Z2 | Z3 => decide); (case Z4 | Z5 => rfl); k_whole)
   | (refine' my_lst ?Z0 ?Z1 ?Z2 ?Z3 ?Z5 ?_; (case Z0 => k_asm); (case Z1 => k_mem); (case Z2 | Z3 => decide); (case Z5 => rfl); k_whole))))
  k_with "eval Name" =>
   ((k_here; k_dflt (refine' nameX_L ?Z6 ?Z7 ?_; (case Z6 => k_asm); (case Z7 => exact rfl); k_whole)))
  k_with "w_k_all" =>
   (first | assumption | ((show Off _ _); kqd_all))
  k_with "w_k_room" =>
   (ktr_room)
  k_with "call ref" =>
   ((k_here; (with_reducible show wpAny _ _ (call (Value.ref 201) _) _ _ _); k_dflt (refine' operand_usep ?Z8 ?Z9 ?Za ?Zb ?Zc ?Zd ?Ze ?Zf ?Zg ?Zh ?Zi ?Zj ?Zk ?Zl ?Zm ?Zn ?_; (case Zh | Zj => k_asm); (case Z8 => (repeat (first | exact Pull.head | apply Pull.tail))); (case Z9 => k_asm); (case Za => kqd_all); (case Zb => with_reducible assumption); (case Zc => k_mem); (case Zd | Ze => with_reducible assumption); (case Zf => tb_start); (case Zg | Zi | Zk => k_asm); (case Zl => first | exact rfl | with_reducible assumption); (case Zm => ktr_room); (case Zn => ktr_units)); intro p9 v9 u9 n9 tl9 q9 h9 tk9' x9 tx9 y9 ty9 ok9 F9 N9 ab9 hj9 ho9 ne9 dm9 dp9 dt9 du9; (try simp only [List.nil_append, List.cons_append, List.append_nil] at N9); (try dsimp only); (try k_fold)))
  k_with "call ref" =>
   ((k_here; (with_reducible show wpAny _ _ (call (Value.ref 213) _) _ _ _); k_dflt (refine' rvalue_usep ?Zo ?Zp ?Zq ?Zr ?Zs ?Zt ?Zu ?Zv ?Zw ?Zx ?Zy ?Zz ?Z10 ?Z11 ?Z12 ?Z13 ?Z14 ?Z15 ?_; (case Zz | Z11 => k_asm); (case Zo => (repeat (first | exact Pull.head | apply Pull.tail))); (case Zp => k_asm); (case Zq => kqd_all); (case Zr => with_reducible assumption); (case Zs => k_mem); (case Zt | Zu => with_reducible assumption); (case Zv => tb_start); (case Zw | Zx => omega); (case Zy | Z10 | Z12 => k_asm); (case Z13 => first | exact rfl | with_reducible assumption); (case Z14 => ktr_room); (case Z15 => ktr_units)); intro p9 v9 u9 n9 tl9 rv9 h9 tk9' x9 tx9 y9 ty9 ok9 F9 N9 ab9 hj9 ho9 ne9 dm9 dp9 dt9 du9; (try simp only [List.nil_append, List.cons_append, List.append_nil] at N9); (try dsimp only); (try k_fold)))
  k_with "call ref" =>
   ((k_here; (with_reducible show wpAny _ _ (call (Value.ref 194) _) _ _ _); k_dflt (refine' type_use (kk := 2) ?Z16 ?Z17 ?Z18 ?Z19 ?Z1a ?Z1b ?Z1c ?Z1d ?Z1e ?Z1f ?Z1g ?Z1h ?Z1i ?Z1j ?Z1k ?Z1l ?_; (case Z1f | Z1h => k_asm); (case Z16 => (repeat (first | exact Pull.head | apply Pull.tail))); (case Z1a => rfl); (case Z19 => with_reducible assumption); (case Z17 => k_asm); (case Z18 => kqd_all); (case Z1b => with_reducible assumption); (case Z1c => first | with_reducible assumption | (refine DuesIn.mono (by with_reducible assumption) ?_ ; tb_start)); (case Z1d => tb_start); (case Z1e | Z1g | Z1i => k_asm); (case Z1j => first | exact rfl | with_reducible assumption); (case Z1k => ktr_room); (case Z1l => ktr_units)); intro p9 v9 u9 n9 tl9 tt9 h9 tk9' x9 tx9 y9 ty9 ok9 F9 N9 ab9 hj9 ho9 ne9 dp9 dt9 du9; (rw [← due_is] at du9); (have dq9 := Nat.le_trans dp9 (by decide : 2 ≤ 4)); (try simp only [List.nil_append, List.cons_append, List.append_nil] at N9); (try dsimp only); (try k_fold)))
  k_with "call ref" =>
   ((k_here; (with_reducible show wpAny _ _ (call (Value.ref 78) _) _ _ _); k_dflt (refine' plain_use ?Z1m ?Z1n ?Z1o ?Z1p ?Z1q ?Z1r ?Z1s ?Z1t ?Z1u ?Z1v ?Z1w ?Z1x ?Z1y ?Z1z ?Z20 ?Z21 ?_; (case Z1v | Z1x => k_asm); (case Z1m | Z1o => with_reducible assumption); (case Z1p => k_mem); (case Z1q | Z1r => with_reducible assumption); (case Z1s => first | exact fun _ h => h | tb_start); (case Z1t => tb_start); (case Z1u | Z1w | Z1y => k_asm); (case Z1z => first | exact rfl | with_reducible assumption); (case Z20 => ktr_room); (case Z21 => ktr_units); (case Z1n => exact plain_ok (by with_reducible assumption) _)); intro r9 tl9 h9 tk9 F9 N9 ab9 dt9; (try simp only [List.nil_append, List.cons_append, List.append_nil] at N9); (try dsimp only); (try k_fold)))
  k_with "call ref" =>
   ((k_here; (with_reducible show wpAny _ _ (call (Value.ref 97) _) _ _ _); k_dflt (refine' rv_use ?Z22 ?Z23 ?Z24 ?Z25 ?Z26 ?Z27 ?Z28 ?Z29 ?Z2a ?Z2b ?Z2c ?Z2d ?Z2e ?Z2f ?Z2g ?Z2h ?_; (case Z2b | Z2d => k_asm); (case Z22 | Z24 => with_reducible assumption); (case Z25 => k_mem); (case Z26 | Z27 => with_reducible assumption); (case Z28 => first | exact fun _ h => h | tb_start); (case Z29 => tb_start); (case Z2a | Z2c | Z2e => k_asm); (case Z2f => first | exact rfl | with_reducible assumption); (case Z2g => ktr_room); (case Z2h => ktr_units); (case Z23 => exact rv_ok (by with_reducible assumption) _ (by with_reducible assumption))); intro r9 tl9 h9 tk9 F9 N9 ab9 dt9; (try simp only [List.nil_append, List.cons_append, List.append_nil] at N9); (try dsimp only); (try k_fold)))
  k_with "call ref" =>
   ((k_here; (with_reducible show wpAny _ _ (call (Value.ref 104) _) _ _ _); k_dflt (refine' sm_use ?Z2i ?Z2j ?Z2k ?Z2l ?Z2m ?Z2n ?Z2o ?Z2p ?Z2q ?Z2r ?Z2s ?Z2t ?Z2u ?Z2v ?Z2w ?Z2x ?_; (case Z2r | Z2t => k_asm); (first | ((case Z2i => with_reducible assumption); (case Z2o => tb_start)) | ((case Z2o => exact fun _ h => h); (case Z2i => (first | (refine' dt_prt ?Z2y ?Z2z ?Z30; (case Z2y => (focus ((repeat (with_reducible first | exact List.mem_cons_self | refine List.mem_cons_of_mem _ ?_ | refine List.mem_append_left _ ?_)); done))); (case Z2z => with_reducible assumption); (case Z30 => tb_start)) | (refine' dt_asg ?Z2y ?Z31 ?Z32 ?Z2z ?Z30; (case Z2y | Z31 | Z32 => (focus ((repeat (with_reducible first | exact List.mem_cons_self | refine List.mem_cons_of_mem _ ?_ | refine List.mem_append_left _ ?_)); done))); (case Z2z => with_reducible assumption); (case Z30 => tb_start)) | exact dt_live (by (focus ((repeat (with_reducible first | exact List.mem_cons_self | refine List.mem_cons_of_mem _ ?_ | refine List.mem_append_left _ ?_)); done))) | exact dt_dead (by (focus ((repeat (with_reducible first | exact List.mem_cons_self | refine List.mem_cons_of_mem _ ?_ | refine List.mem_append_left _ ?_)); done))) | exact dt_nop (by (focus ((repeat (with_reducible first | exact List.mem_cons_self | refine List.mem_cons_of_mem _ ?_ | refine List.mem_append_left _ ?_)); done))))))); (case Z2k => with_reducible assumption); (case Z2l => k_mem); (case Z2m | Z2n => with_reducible assumption); (case Z2p => tb_start); (case Z2q | Z2s | Z2u => k_asm); (case Z2v => first | exact rfl | with_reducible assumption); (case Z2w => ktr_room); (case Z2x => ktr_units); (case Z2j => exact sm_ok (by with_reducible assumption) _ (by first | with_reducible assumption | trivial))); intro r9 tl9 h9 tk9 F9 N9 ab9 dt9; (try (replace dt9 := fix_dt (by with_reducible assumption) dt9)); (try simp only [List.nil_append, List.cons_append, List.append_nil] at N9); (try dsimp only); (try k_fold)))
  k_with "call ref" =>
   ((k_here; (with_reducible show wpAny _ _ (call (Value.ref 182) _) _ _ _); k_dflt (refine' one_use ?Z33 ?Z34 ?Z35 ?Z36 ?Z37 ?Z38 ?Z39 ?Z3a ?Z3b ?Z3c ?Z3d ?Z3e ?Z3f ?Z3g ?_; (case Z3a | Z3c => k_asm); (case Z33 => (repeat (first | exact Pull.head | apply Pull.tail))); (case Z34 => k_asm); (case Z35 => kqd_all); (case Z36 => k_mem); (case Z37 | Z38 => (simp only [List.length_cons, List.length_nil]; omega)); (case Z39 | Z3b | Z3d => k_asm); (case Z3e => first | exact rfl | with_reducible assumption); (case Z3f => ktr_room); (case Z3g => ktr_units)); intro r9 h9 tk9' x9 tx9 y9 ty9 ok9 F9 N9 hv9; (try simp only [List.nil_append, List.cons_append, List.append_nil] at N9); (simp only [List.mem_cons, List.not_mem_nil, or_false] at hv9); (obtain ⟨sm9, do9, sf9, fx9⟩ := other_of hv9 N9 (by (focus ((repeat (with_reducible first | exact List.mem_cons_self | refine List.mem_cons_of_mem _ ?_ | refine List.mem_append_left _ ?_)); done))) (by (focus ((repeat (with_reducible first | exact List.mem_cons_self | refine List.mem_cons_of_mem _ ?_ | refine List.mem_append_left _ ?_)); done))) (by (focus ((repeat (with_reducible first | exact List.mem_cons_self | refine List.mem_cons_of_mem _ ?_ | refine List.mem_append_left _ ?_)); done)))); (try dsimp only); (try k_fold)))
  k_with "compareOp NotEq" =>
   ((k_here; k_dflt (first | (refine' td_ne (k := 23) ?Z3h ?Z3i ?Z3j ?Z3k ?Z3l ?Z3m ?Z3n ?Z3o ?_; (case Z3h => k_asm); (case Z3i | Z3k => with_reducible assumption); (case Z3l | Z3j => first | with_reducible assumption | tb_start); (case Z3m => (first | exact fix_tup (by with_reducible assumption) (by with_reducible assumption) | exact sm_tupD (pl_dp (by with_reducible assumption)) (by first | with_reducible assumption | trivial) | exact tupD_le (rv_tupD (pl_dp (by with_reducible assumption)) (by with_reducible assumption)) (by decide) | exact ty_ok _ (by (have := pl_dp (by with_reducible assumption) _ (by with_reducible assumption)); omega))); (case Z3n => decide); (case Z3o => ktr_units)) | (refine' td_ne (k := 23) ?Z3h ?Z3i ?Z3j ?Z3k ?Z3l ?Z3m ?Z3n ?Z3o ?_; (case Z3h => k_asm); (case Z3i => with_reducible assumption); (case Z3l => exact fun _ h => h); (case Z3k => (first | (refine' dt_prt ?Z3p ?Z3q ?Z3r; (case Z3p => (focus ((repeat (with_reducible first | exact List.mem_cons_self | refine List.mem_cons_of_mem _ ?_ | refine List.mem_append_left _ ?_)); done))); (case Z3q => with_reducible assumption); (case Z3r => tb_start)) | (refine' dt_asg ?Z3p ?Z3s ?Z3t ?Z3q ?Z3r; (case Z3p | Z3s | Z3t => (focus ((repeat (with_reducible first | exact List.mem_cons_self | refine List.mem_cons_of_mem _ ?_ | refine List.mem_append_left _ ?_)); done))); (case Z3q => with_reducible assumption); (case Z3r => tb_start)) | exact dt_live (by (focus ((repeat (with_reducible first | exact List.mem_cons_self | refine List.mem_cons_of_mem _ ?_ | refine List.mem_append_left _ ?_)); done))) | exact dt_dead (by (focus ((repeat (with_reducible first | exact List.mem_cons_self | refine List.mem_cons_of_mem _ ?_ | refine List.mem_append_left _ ?_)); done))) | exact dt_nop (by (focus ((repeat (with_reducible first | exact List.mem_cons_self | refine List.mem_cons_of_mem _ ?_ | refine List.mem_append_left _ ?_)); done))))); (case Z3j => first | with_reducible assumption | tb_start); (case Z3m => (first | exact fix_tup (by with_reducible assumption) (by with_reducible assumption) | exact sm_tupD (pl_dp (by with_reducible assumption)) (by first | with_reducible assumption | trivial) | exact tupD_le (rv_tupD (pl_dp (by with_reducible assumption)) (by with_reducible assumption)) (by decide) | exact ty_ok _ (by (have := pl_dp (by with_reducible assumption) _ (by with_reducible assumption)); omega))); (case Z3n => decide); (case Z3o => ktr_units)))))
  k_with "compareOp Eq" =>
   ((k_here; k_dflt (first | (refine' td_eq (k := 23) ?Z3u ?Z3v ?Z3w ?Z3x ?Z3y ?Z3z ?Z40 ?Z41 ?_; (case Z3u => k_asm); (case Z3v | Z3x => with_reducible assumption); (case Z3y | Z3w => first | with_reducible assumption | tb_start); (case Z3z => (first | exact fix_tup (by with_reducible assumption) (by with_reducible assumption) | exact sm_tupD (pl_dp (by with_reducible assumption)) (by first | with_reducible assumption | trivial) | exact tupD_le (rv_tupD (pl_dp (by with_reducible assumption)) (by with_reducible assumption)) (by decide) | exact ty_ok _ (by (have := pl_dp (by with_reducible assumption) _ (by with_reducible assumption)); omega))); (case Z40 => decide); (case Z41 => ktr_units)) | (refine' td_eq (k := 23) ?Z3u ?Z3v ?Z3w ?Z3x ?Z3y ?Z3z ?Z40 ?Z41 ?_; (case Z3u => k_asm); (case Z3v => with_reducible assumption); (case Z3y => exact fun _ h => h); (case Z3x => (first | (refine' dt_prt ?Z42 ?Z43 ?Z44; (case Z42 => (focus ((repeat (with_reducible first | exact List.mem_cons_self | refine List.mem_cons_of_mem _ ?_ | refine List.mem_append_left _ ?_)); done))); (case Z43 => with_reducible assumption); (case Z44 => tb_start)) | (refine' dt_asg ?Z42 ?Z45 ?Z46 ?Z43 ?Z44; (case Z42 | Z45 | Z46 => (focus ((repeat (with_reducible first | exact List.mem_cons_self | refine List.mem_cons_of_mem _ ?_ | refine List.mem_append_left _ ?_)); done))); (case Z43 => with_reducible assumption); (case Z44 => tb_start)) | exact dt_live (by (focus ((repeat (with_reducible first | exact List.mem_cons_self | refine List.mem_cons_of_mem _ ?_ | refine List.mem_append_left _ ?_)); done))) | exact dt_dead (by (focus ((repeat (with_reducible first | exact List.mem_cons_self | refine List.mem_cons_of_mem _ ?_ | refine List.mem_append_left _ ?_)); done))) | exact dt_nop (by (focus ((repeat (with_reducible first | exact List.mem_cons_self | refine List.mem_cons_of_mem _ ?_ | refine List.mem_append_left _ ?_)); done))))); (case Z3w => first | with_reducible assumption | tb_start); (case Z3z => (first | exact fix_tup (by with_reducible assumption) (by with_reducible assumption) | exact sm_tupD (pl_dp (by with_reducible assumption)) (by first | with_reducible assumption | trivial) | exact tupD_le (rv_tupD (pl_dp (by with_reducible assumption)) (by with_reducible assumption)) (by decide) | exact ty_ok _ (by (have := pl_dp (by with_reducible assumption) _ (by with_reducible assumption)); omega))); (case Z40 => decide); (case Z41 => ktr_units)))))
  k_with "compareOp NotEq ref" =>
   ((k_here; k_dflt (first | (refine' td_ne (k := 23) ?Z47 ?Z48 ?Z49 ?Z4a ?Z4b ?Z4c ?Z4d ?Z4e ?_; (case Z47 => k_asm); (case Z48 | Z4a => with_reducible assumption); (case Z4b | Z49 => first | with_reducible assumption | tb_start); (case Z4c => (first | exact fix_tup (by with_reducible assumption) (by with_reducible assumption) | exact sm_tupD (pl_dp (by with_reducible assumption)) (by first | with_reducible assumption | trivial) | exact tupD_le (rv_tupD (pl_dp (by with_reducible assumption)) (by with_reducible assumption)) (by decide) | exact ty_ok _ (by (have := pl_dp (by with_reducible assumption) _ (by with_reducible assumption)); omega))); (case Z4d => decide); (case Z4e => ktr_units)) | (refine' td_ne (k := 23) ?Z47 ?Z48 ?Z49 ?Z4a ?Z4b ?Z4c ?Z4d ?Z4e ?_; (case Z47 => k_asm); (case Z48 => with_reducible assumption); (case Z4b => exact fun _ h => h); (case Z4a => (first | (refine' dt_prt ?Z4f ?Z4g ?Z4h; (case Z4f => (focus ((repeat (with_reducible first | exact List.mem_cons_self | refine List.mem_cons_of_mem _ ?_ | refine List.mem_append_left _ ?_)); done))); (case Z4g => with_reducible assumption); (case Z4h => tb_start)) | (refine' dt_asg ?Z4f ?Z4i ?Z4j ?Z4g ?Z4h; (case Z4f | Z4i | Z4j => (focus ((repeat (with_reducible first | exact List.mem_cons_self | refine List.mem_cons_of_mem _ ?_ | refine List.mem_append_left _ ?_)); done))); (case Z4g => with_reducible assumption); (case Z4h => tb_start)) | exact dt_live (by (focus ((repeat (with_reducible first | exact List.mem_cons_self | refine List.mem_cons_of_mem _ ?_ | refine List.mem_append_left _ ?_)); done))) | exact dt_dead (by (focus ((repeat (with_reducible first | exact List.mem_cons_self | refine List.mem_cons_of_mem _ ?_ | refine List.mem_append_left _ ?_)); done))) | exact dt_nop (by (focus ((repeat (with_reducible first | exact List.mem_cons_self | refine List.mem_cons_of_mem _ ?_ | refine List.mem_append_left _ ?_)); done))))); (case Z49 => first | with_reducible assumption | tb_start); (case Z4c => (first | exact fix_tup (by with_reducible assumption) (by with_reducible assumption) | exact sm_tupD (pl_dp (by with_reducible assumption)) (by first | with_reducible assumption | trivial) | exact tupD_le (rv_tupD (pl_dp (by with_reducible assumption)) (by with_reducible assumption)) (by decide) | exact ty_ok _ (by (have := pl_dp (by with_reducible assumption) _ (by with_reducible assumption)); omega))); (case Z4d => decide); (case Z4e => ktr_units)))))
  k_with "compareOp Eq ref" =>
   ((k_here; k_dflt (first | (refine' td_eq (k := 23) ?Z4k ?Z4l ?Z4m ?Z4n ?Z4o ?Z4p ?Z4q ?Z4r ?_; (case Z4k => k_asm); (case Z4l | Z4n => with_reducible assumption); (case Z4o | Z4m => first | with_reducible assumption | tb_start); (case Z4p => (first | exact fix_tup (by with_reducible assumption) (by with_reducible assumption) | exact sm_tupD (pl_dp (by with_reducible assumption)) (by first | with_reducible assumption | trivial) | exact tupD_le (rv_tupD (pl_dp (by with_reducible assumption)) (by with_reducible assumption)) (by decide) | exact ty_ok _ (by (have := pl_dp (by with_reducible assumption) _ (by with_reducible assumption)); omega))); (case Z4q => decide); (case Z4r => ktr_units)) | (refine' td_eq (k := 23) ?Z4k ?Z4l ?Z4m ?Z4n ?Z4o ?Z4p ?Z4q ?Z4r ?_; (case Z4k => k_asm); (case Z4l => with_reducible assumption); (case Z4o => exact fun _ h => h); (case Z4n => (first | (refine' dt_prt ?Z4s ?Z4t ?Z4u; (case Z4s => (focus ((repeat (with_reducible first | exact List.mem_cons_self | refine List.mem_cons_of_mem _ ?_ | refine List.mem_append_left _ ?_)); done))); (case Z4t => with_reducible assumption); (case Z4u => tb_start)) | (refine' dt_asg ?Z4s ?Z4v ?Z4w ?Z4t ?Z4u; (case Z4s | Z4v | Z4w => (focus ((repeat (with_reducible first | exact List.mem_cons_self | refine List.mem_cons_of_mem _ ?_ | refine List.mem_append_left _ ?_)); done))); (case Z4t => with_reducible assumption); (case Z4u => tb_start)) | exact dt_live (by (focus ((repeat (with_reducible first | exact List.mem_cons_self | refine List.mem_cons_of_mem _ ?_ | refine List.mem_append_left _ ?_)); done))) | exact dt_dead (by (focus ((repeat (with_reducible first | exact List.mem_cons_self | refine List.mem_cons_of_mem _ ?_ | refine List.mem_append_left _ ?_)); done))) | exact dt_nop (by (focus ((repeat (with_reducible first | exact List.mem_cons_self | refine List.mem_cons_of_mem _ ?_ | refine List.mem_append_left _ ?_)); done))))); (case Z4m => first | with_reducible assumption | tb_start); (case Z4p => (first | exact fix_tup (by with_reducible assumption) (by with_reducible assumption) | exact sm_tupD (pl_dp (by with_reducible assumption)) (by first | with_reducible assumption | trivial) | exact tupD_le (rv_tupD (pl_dp (by with_reducible assumption)) (by with_reducible assumption)) (by decide) | exact ty_ok _ (by (have := pl_dp (by with_reducible assumption) _ (by with_reducible assumption)); omega))); (case Z4q => decide); (case Z4r => ktr_units)))))
  k_with "compareOp NotEq ref ref" =>
   ((k_here; k_dflt (first | (refine' td_ne (k := 23) ?Z4x ?Z4y ?Z4z ?Z50 ?Z51 ?Z52 ?Z53 ?Z54 ?_; (case Z4x => k_asm); (case Z4y | Z50 => with_reducible assumption); (case Z51 | Z4z => first | with_reducible assumption | tb_start); (case Z52 => (first | exact fix_tup (by with_reducible assumption) (by with_reducible assumption) | exact sm_tupD (pl_dp (by with_reducible assumption)) (by first | with_reducible assumption | trivial) | exact tupD_le (rv_tupD (pl_dp (by with_reducible assumption)) (by with_reducible assumption)) (by decide) | exact ty_ok _ (by (have := pl_dp (by with_reducible assumption) _ (by with_reducible assumption)); omega))); (case Z53 => decide); (case Z54 => ktr_units)) | (refine' td_ne (k := 23) ?Z4x ?Z4y ?Z4z ?Z50 ?Z51 ?Z52 ?Z53 ?Z54 ?_; (case Z4x => k_asm); (case Z4y => with_reducible assumption); (case Z51 => exact fun _ h => h); (case Z50 => (first | (refine' dt_prt ?Z55 ?Z56 ?Z57; (case Z55 => (focus ((repeat (with_reducible first | exact List.mem_cons_self | refine List.mem_cons_of_mem _ ?_ | refine List.mem_append_left _ ?_)); done))); (case Z56 => with_reducible assumption); (case Z57 => tb_start)) | (refine' dt_asg ?Z55 ?Z58 ?Z59 ?Z56 ?Z57; (case Z55 | Z58 | Z59 => (focus ((repeat (with_reducible first | exact List.mem_cons_self | refine List.mem_cons_of_mem _ ?_ | refine List.mem_append_left _ ?_)); done))); (case Z56 => with_reducible assumption); (case Z57 => tb_start)) | exact dt_live (by (focus ((repeat (with_reducible first | exact List.mem_cons_self | refine List.mem_cons_of_mem _ ?_ | refine List.mem_append_left _ ?_)); done))) | exact dt_dead (by (focus ((repeat (with_reducible first | exact List.mem_cons_self | refine List.mem_cons_of_mem _ ?_ | refine List.mem_append_left _ ?_)); done))) | exact dt_nop (by (focus ((repeat (with_reducible first | exact List.mem_cons_self | refine List.mem_cons_of_mem _ ?_ | refine List.mem_append_left _ ?_)); done))))); (case Z4z => first | with_reducible assumption | tb_start); (case Z52 => (first | exact fix_tup (by with_reducible assumption) (by with_reducible assumption) | exact sm_tupD (pl_dp (by with_reducible assumption)) (by first | with_reducible assumption | trivial) | exact tupD_le (rv_tupD (pl_dp (by with_reducible assumption)) (by with_reducible assumption)) (by decide) | exact ty_ok _ (by (have := pl_dp (by with_reducible assumption) _ (by with_reducible assumption)); omega))); (case Z53 => decide); (case Z54 => ktr_units)))))
  k_with "compareOp Eq ref ref" =>
   ((k_here; k_dflt (first | (refine' td_eq (k := 23) ?Z5a ?Z5b ?Z5c ?Z5d ?Z5e ?Z5f ?Z5g ?Z5h ?_; (case Z5a => k_asm); (case Z5b | Z5d => with_reducible assumption); (case Z5e | Z5c => first | with_reducible assumption | tb_start); (case Z5f => (first | exact fix_tup (by with_reducible assumption) (by with_reducible assumption) | exact sm_tupD (pl_dp (by with_reducible assumption)) (by first | with_reducible assumption | trivial) | exact tupD_le (rv_tupD (pl_dp (by with_reducible assumption)) (by with_reducible assumption)) (by decide) | exact ty_ok _ (by (have := pl_dp (by with_reducible assumption) _ (by with_reducible assumption)); omega))); (case Z5g => decide); (case Z5h => ktr_units)) | (refine' td_eq (k := 23) ?Z5a ?Z5b ?Z5c ?Z5d ?Z5e ?Z5f ?Z5g ?Z5h ?_; (case Z5a => k_asm); (case Z5b => with_reducible assumption); (case Z5e => exact fun _ h => h); (case Z5d => (first | (refine' dt_prt ?Z5i ?Z5j ?Z5k; (case Z5i => (focus ((repeat (with_reducible first | exact List.mem_cons_self | refine List.mem_cons_of_mem _ ?_ | refine List.mem_append_left _ ?_)); done))); (case Z5j => with_reducible assumption); (case Z5k => tb_start)) | (refine' dt_asg ?Z5i ?Z5l ?Z5m ?Z5j ?Z5k; (case Z5i | Z5l | Z5m => (focus ((repeat (with_reducible first | exact List.mem_cons_self | refine List.mem_cons_of_mem _ ?_ | refine List.mem_append_left _ ?_)); done))); (case Z5j => with_reducible assumption); (case Z5k => tb_start)) | exact dt_live (by (focus ((repeat (with_reducible first | exact List.mem_cons_self | refine List.mem_cons_of_mem _ ?_ | refine List.mem_append_left _ ?_)); done))) | exact dt_dead (by (focus ((repeat (with_reducible first | exact List.mem_cons_self | refine List.mem_cons_of_mem _ ?_ | refine List.mem_append_left _ ?_)); done))) | exact dt_nop (by (focus ((repeat (with_reducible first | exact List.mem_cons_self | refine List.mem_cons_of_mem _ ?_ | refine List.mem_append_left _ ?_)); done))))); (case Z5c => first | with_reducible assumption | tb_start); (case Z5f => (first | exact fix_tup (by with_reducible assumption) (by with_reducible assumption) | exact sm_tupD (pl_dp (by with_reducible assumption)) (by first | with_reducible assumption | trivial) | exact tupD_le (rv_tupD (pl_dp (by with_reducible assumption)) (by with_reducible assumption)) (by decide) | exact ty_ok _ (by (have := pl_dp (by with_reducible assumption) _ (by with_reducible assumption)); omega))); (case Z5g => decide); (case Z5h => ktr_units)))))
  k_with "pyIter ref" =>
   ((k_here; k_dflt (refine' loop_jar (c := 11) [(Str.ofString "jar", _), (Str.ofString "table", _), (Str.ofString "pair", _)] ?Z5n ?Z5o ?Z5p ?Z5q ?Z5r ?Z5s ?Z5t ?Z5u ?Z5v ?_ ?_; (case Z5t | Z5u => k_asm); (case Z5n => (repeat (first | exact Pull.head | apply Pull.tail))); (case Z5o => (refine' kvIn_cons ?Z5w ?Z5x; (case Z5w => exact rfl); (case Z5x => (refine' kvIn_cons ?Z5y ?Z5z; (case Z5y => exact rfl); (case Z5z => (refine' kvIn_cons ?Z60 ?Z61; (case Z60 => exact rfl); (case Z61 => exact kvIn_nil))))))); (case Z5p => rfl); (case Z5q => assumption); (case Z5r => first | decide | rfl); (case Z5s => first | rfl | decide); (case Z5v => k_asm)); all_goals (first | (intro k9 t9 u9 h9 tk9 own9 x9 tx9 y9 ty9 k0 k1 ho9 ok9 F9 N9; (try simp only [List.nil_append, List.cons_append, List.append_nil] at N9)) | (intro u9 h9 tk9 x9 tx9 y9 ty9 ok9 F9 N9))))
  k_with "execs cons" =>
   (k_here; (try k_gentoks); (first | ((fail_if_success (fail_if_success k_fold)); (with_reducible refine' ec_let2 ?_); intro q0 e0 K0) | ((with_reducible refine' ec_let ?_); intro K0)); (all_goals (try ((with_reducible rename Fr _ _ _ (fun _ => ite _ _ _) => f9); refine fr_let f9 ?_; clear f9; intro m0 F0))); (try dsimp only))
  k_with "eval Constant str" =>
   (with_reducible refine' con_str ?_)
  k_with "eval Constant int" =>
   (with_reducible refine' con_int ?_)
  k_with "subscriptTail Name Constant ref int" =>
   (k_extra "subscriptTail")
  k_with "callWith ref" =>
   (k_here; (with_reducible show wpAny _ _ (callWith _ (Value.ref _) _ (backTo _ (starEach (_ :: _) _)) []) _ _ _); k_dflt (refine' callWith_K ?zc1 ?zc2 ?_; (case zc1 => with_reducible assumption); (case zc2 => k_is); k_whole))
  k_with "callWith ref" =>
   (k_here; (with_reducible show wpAny _ _ (callWith _ (Value.ref _) _ (backTo _ (starEach [] _)) []) _ _ _); k_dflt (refine' callWith_K0 ?zc1 ?zc2 ?_; (case zc1 => exact Frag.In.keeps (by with_reducible assumption) (Fr.keep (by k_asm))); (case zc2 => k_is); k_whole))
  k_with "eval Name" =>
   (k_here; k_dflt (first
   | (refine' nameX_L ?zn1 ?zn2 ?_ ?zn3 ?zn4; (case zn3 | zn4 => rfl); (case zn1 => k_asm); (case zn2 => rfl); k_whole)
   | (refine' nameX_K ?zn1 ?zn2 ?zn3 ?zn4 ?_ ?zn5 ?zn6; (case zn5 | zn6 => rfl); (case zn1 | zn2 | zn3 => k_asm); (case zn4 => k_is); k_whole)
   | (refine' nameX_B ?zn1 ?zn2 ?zn3 ?zn4 ?zn5 ?zn6 ?_ ?zn7 ?zn8; (case zn7 | zn8 => rfl); (case zn1 | zn2 | zn3 => k_asm); (case zn4 => k_is); (case zn5 => boot_fast); (case zn6 => decide); k_whole)
   | fail))
  k_with "newTuple" =>
   (k_here; k_dflt (refine' tup_let ?z30 ?z4 ?z0 ?_; (case z30 | z4 => k_asm); (case z0 => kmk_size)); intro D' h' e' Y' F' N' l1; (try k_sweep))
  k_with "newList" =>
   (k_here; k_dflt (refine' lst_let ?z30 ?z4 ?z0 ?_; (case z30 | z4 => k_asm); (case z0 => kmk_size)); intro D' h' e' Y' F' N' l1; (try k_sweep))
  k_with "binaryOp Add ref ref" =>
   (k_here; (with_reducible show wpAny _ _ (binaryOp Operator.Add (Value.ref _) (Value.ref _)) _ _ _); k_dflt (refine' kde_addT ?z1 ?z27 ?z25 ?z2 ?z18 ?z23 ?z21 ?z24 ?_; (case z1 | z27 => k_asm); (case z25 | z2 => exact News.isTup (by k_asm) (by k_mem)); (case z18 | z23 => exact List.cons_ne_nil _ _); (case z21 => exact Nat.le_of_ble_eq_true rfl); (case z24 => kun_lit)); intro D' h' F' N' l1; (replace l1 := allLt_of l1); (try k_sweep))
  k_with "k_up" =>
   (first
   | with_reducible exact hp
   | ((with_reducible refine List.mem_cons_of_mem _ ?_); k_extra "k_up")
   | ((with_reducible refine List.mem_append_left _ ?_); k_extra "k_up")
   | ((with_reducible refine List.mem_append_right _ ?_); k_extra "k_up")
   | fail)
  k_with "w_tb_start" =>
   (first
   | exact sub_nil
   | (intro p hp; k_extra "k_up")
   | (refine' sub_trans ?z28 ?z13; (case z28 => with_reducible assumption); (case z13 => (intro p hp; k_extra "k_up")))
   | ((with_reducible refine sub_app ?_ ?_) <;> tb_start)
   | ((with_reducible refine sub_cons ?_ ?_); k_mem; tb_start)
   | fail)
  k_with "w_k_mem" =>
   (focus ((repeat (with_reducible first | exact List.mem_cons_self | refine List.mem_cons_of_mem _ ?_ | refine List.mem_append_left _ ?_)); done))
  k_with "w_kqd_sub" =>
   (with_reducible first
   | exact gdJ_nil
   | (refine' gdJ_app ?_ ?_ <;> kqd_sub)
   | (refine' gd_app ?_ ?_ <;> kqd_sub)
   | (refine' gdJ_new ?z32 ?z12 ?z22 ?z9; (case z12 | z22 => assumption); (case z32 | z9 => k_dflt tb_start))
   | (refine' gd_new ?z32 ?z12 ?z9; (case z12 => assumption); (case z32 | z9 => k_dflt tb_start))
   | (refine' gd_cons0 ?z15 ?z10; (case z15 => first | (refine' gd_had ?z31 ?z38; (case z38 => assumption); (case z31 => k_dflt k_mem)) | (refine' gd_one ?z31 ?z38 ?z37; (case z38 => assumption); (case z31 => k_dflt k_mem); (case z37 => k_dflt tb_start))); (case z10 => kqd_sub))
   | (refine' gdJ_old ?z32 ?z9; (case z9 | z32 => k_dflt tb_start))
   | (refine' gd_old ?z32 ?z9; (case z9 | z32 => k_dflt tb_start))
   | fail)
  k_with "w_tb_rel" =>
   (with_reducible first
   | exact DatP.none
   | exact DatP.bool _
   | exact DatP.int _ _
   | exact DatP.str _ _
   | exact DatPs.nil
   | (refine' DatPs.cons ?_ ?_ <;> first | ((with_reducible show DatP _ _ _); tb_rel) | ((with_reducible show DatPs _ _ _); tb_rel) | ((with_reducible show Dat); skip) | ((with_reducible show List Dat); skip))
   | (refine' datP_in ?z5 ?z37; (case z5 => assumption); (case z37 => k_dflt kqd_sub))
   | (refine' datP_gdJ ?z31 ?z34 ?z35; (case z31 => k_dflt k_mem); (case z34 => first | (refine' gdJ_had ?z31 ?z38; (case z38 => assumption); (case z31 => k_dflt k_mem)) | (refine' gdJ_one ?z31 ?z38 ?z37 ?z19; (case z38 => assumption); (case z31 => k_dflt k_mem); (case z37 => k_dflt tb_start); (case z19 => k_dflt (k_extra "k_ltA")))); (case z35 => tb_rel))
   | (refine' datP_gd ?z31 ?z34 ?z35; (case z31 => k_dflt k_mem); (case z34 => first | (refine' gd_had ?z31 ?z38; (case z38 => assumption); (case z31 => k_dflt k_mem)) | (refine' gd_one ?z31 ?z38 ?z37; (case z38 => assumption); (case z31 => k_dflt k_mem); (case z37 => k_dflt tb_start))); (case z35 => tb_rel))
   | fail)
  k_with "w_lcg_off" =>
   (with_reducible first
   | assumption
   | exact off3_nil
   | (refine' off3_app ?_ ?_ <;> lcg_off)
   | (refine' off3_any ?z40 ?z14 ?z3; (case z40 => assumption); (case z14 => k_dflt k_mem); (case z3 => lcg_off))
   | (refine' off3_cons ⟨?z42, ?z16, ?z17⟩ ?z3; (case z42 | z16 | z17 => k_dflt k_ne); (case z3 => lcg_off))
   | (refine' off3_above ?z40 ?z42 ?z16 ?z17; (case z40 => assumption); (case z42 | z16 | z17 => k_dflt k_mem))
   | (refine' off3_sub ?z40 ?z3; (case z40 => assumption); (case z3 => k_dflt tb_start))
   | fail)
  k_with "w_ktr_room" =>
   ((try simp only [depth_under_make, depth_under_kw, depth_in1, depth_deeper, depth_caller]); (try dsimp only [ktrTop]); with_reducible first
   | (refine' room2 ?z11 ?z20; (case z11 => assumption); (case z20 => k_dflt (first | exact Nat.le_of_ble_eq_true rfl | omega)))
   | (refine' room1 ?z11 ?z20; (case z11 => assumption); (case z20 => k_dflt (first | exact Nat.le_of_ble_eq_true rfl | omega)))
   | (refine' room0 ?z11; (case z11 => assumption))
   | fail)
  k_with "w_ktr_units" =>
   ((try simp only [units_in1, units_deeper, Around.mark_units, units_caller]); (try dsimp only [ktrTop]); with_reducible first
   | (refine' unit2 ?z11 ?z20; (case z11 => assumption); (case z20 => k_dflt (first | exact Nat.le_of_ble_eq_true rfl | omega)))
   | (refine' unit1 ?z11 ?z20; (case z11 => assumption); (case z20 => k_dflt (first | exact Nat.le_of_ble_eq_true rfl | omega)))
   | fail)
  k_with "k_ltA" =>
   (first
   | (refine' lt_all ?z6 ?z36; (case z6 => with_reducible assumption); (case z36 => k_mem))
   | (refine ltN ?_; omega))
  k_with "w_kqd_all" =>
   (with_reducible first
   | assumption
   | exact off_nil
   | (refine' off_cons ?z29 ?z39; (case z29 => k_dflt k_ne); (case z39 => kqd_all))
   | (refine' off_app ?_ ?_ <;> kqd_all)
   | (refine' off_sub ?z8 ?z7; (case z8 => assumption); (case z7 => k_dflt tb_start))
   | (refine' off_above ?z8 ?z7; (case z8 => assumption); (case z7 => k_dflt k_mem))
   | (refine' off_lt ?z8 ?z33 ?z7; (case z8 => assumption); (case z33 => k_dflt ((show (_ : Nat) ≤ _); omega)); (case z7 => k_dflt tb_start))
   | (refine' off_o3a ?z8 ?z7; (case z8 => assumption); (case z7 => k_dflt tb_start))
   | (refine' off_o3b ?z8 ?z7; (case z8 => assumption); (case z7 => k_dflt tb_start))
   | (refine' off_o3c ?z8 ?z7; (case z8 => assumption); (case z7 => k_dflt tb_start))
   | (refine' off_o1 ?z8 ?z7; (case z8 => assumption); (case z7 => k_dflt tb_start))
   | fail)
  k_with "w_k_ne" =>
   (first
   | with_reducible assumption
   | (refine' ne_all ?z6 ?z36; (case z6 => with_reducible assumption); (case z36 => k_mem))
   | (refine' ne_all2 ?z6 ?z36; (case z6 => with_reducible assumption); (case z36 => k_mem))
   | (refine' Ne.symm ?z6; (case z6 => with_reducible assumption))
   | (refine' ne_o3a ?z6 ?z36; (case z6 => with_reducible assumption); (case z36 => k_mem))
   | (refine' ne_o3b ?z6 ?z36; (case z6 => with_reducible assumption); (case z36 => k_mem))
   | (refine' ne_o3c ?z6 ?z36; (case z6 => with_reducible assumption); (case z36 => k_mem))
   | (refine' ne_o3a' ?z6 ?z36; (case z6 => with_reducible assumption); (case z36 => k_mem))
   | (refine' ne_o3b' ?z6 ?z36; (case z6 => with_reducible assumption); (case z36 => k_mem))
   | (refine' ne_o3c' ?z6 ?z36; (case z6 => with_reducible assumption); (case z36 => k_mem))
   | (refine' ne_o1 ?z6 ?z36; (case z6 => with_reducible assumption); (case z36 => k_mem))
   | (refine' ne_o1' ?z6 ?z36; (case z6 => with_reducible assumption); (case z36 => k_mem))
   | (refine' ne_of_lt' ?z6; (case z6 => with_reducible assumption))
   | (refine' ne_of_gt' ?z6; (case z6 => with_reducible assumption))
   | (refine' ne_tr ?z41 ?z6 ?z36; (case z41 | z6 => with_reducible assumption); (case z36 => k_mem))
   | (refine' ne_trs ?z41 ?z6 ?z36; (case z41 | z6 => with_reducible assumption); (case z36 => k_mem))
   | (refine' ne_tr2 ?z41 ?z26 ?z6 ?z36; (case z41 | z26 | z6 => with_reducible assumption); (case z36 => k_mem))
   | (refine' ne_tr2s ?z41 ?z26 ?z6 ?z36; (case z41 | z26 | z6 => with_reducible assumption); (case z36 => k_mem))
   | (with_reducible refine' ne_up1 ?z6 ?z36; (case z6 => assumption); (case z36 => k_dflt k_mem))
   | (with_reducible refine' ne_up2 ?z6 ?z36; (case z6 => assumption); (case z36 => k_dflt k_mem))
   | (with_reducible refine' ne_up3 ?z6 ?z36; (case z6 => assumption); (case z36 => k_dflt k_mem))
   | (with_reducible refine' ne_dn1 ?z6 ?z36; (case z6 => assumption); (case z36 => k_dflt k_mem))
   | (with_reducible refine' ne_dn2 ?z6 ?z36; (case z6 => assumption); (case z36 => k_dflt k_mem))
   | (with_reducible refine' ne_dn3 ?z6 ?z36; (case z6 => assumption); (case z36 => k_dflt k_mem))
   | fail)
  k_with "pack" =>
   skip
  trivial
theorem pieces_ok (hτ : ∀ x t, τ x = some t → t.dp ≤ 4) (hτV : τ .V = none) {j a d : Addr} {o : Obj} {kvs : List (Str × Value)} {x y : Int} {tx ty : Tok} {n : Nat} {rest D D₂ : List (Addr × Obj)} (ok : JarOk x y) (off : Off j rest) (ho : (d, o) ∈ rest) (hdi : o.IsDictOf (PySem.strKind PySem.Challenge.rw_xm0591_01.row.prog w) kvs) (hlo : (d == sysModules) = false) (ht : TabV D₂ kvs τ) (hs2 : ∀ p ∈ D₂, p ∈ rest) (hds : DuesIn rest D a (fun x => (τ x).map erase)) (hs1 : ∀ p ∈ D, p ∈ rest) : CallOk PySem.Challenge.rw_xm0591_01.row.prog w (hd.heap_1 w.params) topProg loose mean mg mb 70 220 [.ref j, .ref d, .ref a] ((j, jarO x tx y ty n) :: rest) (JPost j n [] rest fun e => e = .bool true) := by
  have hC2 : TypeOk w loose mean mg mb (fun x => (τ x).map erase) 2 34 := fun hi ok off hV hds hs1 => type2 hi ok off hV hds hs1
  have hV2 : (fun x => (τ x).map erase) Pm.V = none := by simp only [hτV]; rfl
  unfold CallOk
  intro dp un gd cn cs a' ccd cl outer A₀ base h₀ L m s Q E B F X N T hk hdp hun hret
  replace N := News.add N (.tail _ ho)
  have hdj : @Ne Nat d j := off _ ho
  refine wpAny_call ?_
  k_dflt ktr_enter
  all_goals (try (with_reducible rename News _ _ _ _ => nL9; refine led_let nL9 ?_; clear nL9; intro Y0 N9))
  k_steps
  all_goals (repeat (with_reducible rename _ ∧ _ => hc; (have hcl := hc.1); (have hcr := hc.2); clear hc))
  all_goals first
    | (refine hret _ _ _ _ (by k_asm) (by k_asm) ?_; exact ⟨_, _, _, _, _, by with_reducible assumption, by k_mem, by tb_start, rfl, .bool _⟩)
    | (refine' jar_post_next ?j1 ?j2 ?j3 ?j4 ?j5 ?j6 ?j7; (case j2 => k_asm); (case j3 => k_asm); (case j1 => with_reducible assumption); (case j4 => k_mem); (case j5 => tb_start); (case j6 => tb_start); (case j7 => (refine' kvIn_cons ?a1 ?b1; (case a1 => exact rfl); (case b1 => (refine' kvIn_cons ?a2 ?b2; (case a2 => exact rfl); (case b2 => (refine' kvIn_cons ?a3 ?b3; (case a3 => exact rfl); (case b3 => exact kvIn_nil))))))))
theorem pieces_use {d b : Addr} {o : Obj} {kvs : List (Str × Value)} {D D₂ : List (Addr × Obj)} {j : Addr} {x y : Int} {tx ty : Tok} {n : Nat} {news rest : List (Addr × Obj)} {dp un : Nat} {gd : Option (List Code)} {cn : Str} {cs : Scope} {a : Addr} {ccd : Value} {cl : List (Str × Addr)} {outer : List Env} {A₀ : Around} {base h₀ : Heap} {L : Addr} {m : Str → Option Value} {hS : Heap} {gS : Array GenState} {dS : Drawn} {tS : Nat} {oS : OsState} {Q E : Value → Shared → Prop}
  (P : Pull (j, jarO x tx y ty n) news rest) (ok : JarOk x y) (off : Off j rest) (hτ : ∀ x t, τ x = some t → t.dp ≤ 4) (hτV : τ .V = none) (ho : (d, o) ∈ rest) (hdi : o.IsDictOf (PySem.strKind PySem.Challenge.rw_xm0591_01.row.prog w) kvs) (hlo : (d == sysModules) = false) (ht : TabV D₂ kvs τ) (hs2 : ∀ p ∈ D₂, p ∈ rest) (hds : DuesIn rest D b (fun x => (τ x).map erase)) (hs1 : ∀ p ∈ D, p ∈ rest) (B : Below A₀ base outer h₀) (F : Fr h₀ L hS m) (X : (hd.heap_1 w.params).In h₀) (N : News h₀ L hS news) (T : Top topProg loose mean mg mb h₀) (hk : cs.kind = .function) (hr : dp + 70 < recursionLimit) (hu : un + 8 * 70 < cLine)
  (ret : ∀ tl h' tk' x' tx' y' ty', JarOk x' y' → Fr h₀ L h' m → News h₀ L h' ((j, jarO x' tx' y' ty' n) :: (rest ++ tl)) → Above rest tl → (∀ p ∈ tl, @LT.lt Nat _ j p.1) → Off j tl → Q (.bool true) ⟨h', gS, dS, tk', oS⟩) : wpAny (model PySem.Challenge.rw_xm0591_01.row.prog w) (ktrTop dp un gd cn cs L a ccd cl outer) (call (.ref 220) [.ref j, .ref d, .ref b]) Q E ⟨hS, gS, dS, tS, oS⟩ :=
  jar_use B F X N T hk P (pieces_ok hτ hτV ok off ho hdi hlo ht hs2 hds hs1) hr hu fun r tl h' tk' x' tx' y' ty' e ok' hR F' N' ab hj ho dt => by
    subst hR
    obtain rfl := in_bool dt
    exact ret tl h' tk' x' tx' y' ty' ok' F' N' ab hj ho
end
end Mine
namespace Mine
example : True := by
  w_top off
  k_with_none
  trivial

/-! a loop over a range, its ledger growing -/
def LedEnd (h₀ : Heap) (L I : Addr) (oI : Obj) (kv : List (Str × Value)) (J : List (Addr × Obj) → Prop) (s₁ s₂ : Shared) : Prop :=
  ∃ h' tk m' news' led', s₂ = { s₁ with heap := h', toks := tk } ∧ Fr h₀ L h' m' ∧ News h₀ L h' news' ∧ (I, oI) ∈ news' ∧ (∀ p ∈ led', p ∈ news') ∧ Off I led' ∧ KvIn m' kv ∧ J led'
def LedPost (h₀ : Heap) (L I : Addr) (oI : Obj) (kv : List (Str × Value)) (J : List (Addr × Obj) → Prop) (s₁ : Shared) (Q : Flow → Shared → Prop) (f : Flow) (s₂ : Shared) : Prop :=
  match f with
  | .ret v => Q (.ret v) s₂
  | .brk => Q .next s₂
  | _ => LedEnd h₀ L I oI kv J s₁ s₂
theorem led_next {h₀ : Heap} {L I : Addr} {oI : Obj} {kv : List (Str × Value)} {J : List (Addr × Obj) → Prop} {s₁ : Shared} {Q : Flow → Shared → Prop} {h' : Heap} {tk : Nat} {m' : Str → Option Value} {news' : List (Addr × Obj)} (led' : List (Addr × Obj))
    (F : Fr h₀ L h' m') (N : News h₀ L h' news') (hI : (I, oI) ∈ news') (hl : ∀ p ∈ led', p ∈ news') (off : Off I led') (hk : KvIn m' kv) (hj : J led') : LedPost h₀ L I oI kv J s₁ Q .next { s₁ with heap := h', toks := tk } :=
  ⟨h', tk, m', news', led', rfl, F, N, hI, hl, off, hk, hj⟩
theorem loop_led {prog : Program} {w : World} {A : Around} {E : Value → Shared → Prop} {s : Shared} {env : Env} {h₀ : Heap} {xn : Str} {body : List Stmt} {Q : Flow → Shared → Prop}
    {r : Addr} {a₀ b₀ : Int} {t₀ u₀ v₀ : Tok} {c : Nat} {m₀ : Str → Option Value} {news : List (Addr × Obj)} (kv : List (Str × Value)) (J : Nat → List (Addr × Obj) → Prop)
    (hkv : KvIn m₀ kv) (hh : A.handled = none) (hr : IsRange s.heap r a₀ b₀ 1 t₀ u₀ v₀) (hsmall : Builtin.Range.small a₀ b₀ 1 = true) (hc : Builtin.Range.rangeSize a₀ b₀ 1 = (c : Int)) (F : Fr h₀ env.locals s.heap m₀) (N : News h₀ env.locals s.heap news) (hj : J 0 news)
    (turn : ∀ i t u h tk I oI led, i < c → J i led → Off I led → Fr h₀ env.locals h (fun z => if z = xn then some (.int (a₀ + (i : Int)) t) else mapKv u kv z) → News h₀ env.locals h ((I, oI) :: led) →
      wpAny (model prog w) A (execs body env) (LedPost h₀ env.locals I oI kv (J (i + 1)) { s with heap := h, toks := tk } Q) E { s with heap := h, toks := tk })
    (done : ∀ u h tk led, J c led → Fr h₀ env.locals h (fun z => mapKv u kv z) → News h₀ env.locals h led → Q .next { s with heap := h, toks := tk }) :
    wpAny (model prog w) A (pyIter (.ref r)) (fun it s₂ => LoopAtV prog w A h₀ env xn body Q E it s₂) E s := by
  refine wpAny_pyIter_range hr hsmall ?_
  have W : Walks prog w A s.heap.objs.size [s.heap.objs.size] [s.heap.objs.size] c (fun i v => i < c ∧ ∃ t, v = .int (a₀ + i * 1) t)
      (fun i h => IsRangeIter h s.heap.objs.size (a₀ + (i : Nat) * 1) ((c : Int) - (i : Nat)) 1) := (Walks.range hh _ a₀ 1 c).bound
  have hI₀ : h₀.get? s.heap.objs.size = none := next_is_new F
  have hLI : env.locals ≠ s.heap.objs.size := Nat.ne_of_lt F.ns.lt
  refine ⟨_, _, _, c, _, _, m₀, news, fun i m nx => KvIn m kv ∧ J i nx, rfl, W, ?_, ?_, ?_, (by show IsRangeIter _ _ _ _ _; rw [hc]; simpa using Heap.get?_push_size _ rfl), F.push _, (fun p hp => ⟨Heap.get?_push_of_some _ (N p hp).1, (N p hp).2⟩), ⟨hkv, hj⟩, ?_, ?_⟩
  · intro hm
    exact hLI (List.mem_singleton.mp hm)
  · intro b hb
    rw [List.mem_singleton.mp hb]
    exact hI₀
  · intro p hp hI
    exact absurd (Heap.lt_size (N p hp).1) ((List.mem_singleton.mp hI) ▸ Nat.lt_irrefl _)
  · rintro i v m₁ led s₁ own ⟨h, tk, rfl⟩ hi ⟨_, t, rfl⟩ ⟨hm, hJ⟩ hoff hown hget hall hst F₁ N₁
    generalize s.heap.objs.size = I at *
    have hst' : ∃ oI, h.get? I = some oI := ⟨_, hst⟩
    obtain ⟨oI, heI⟩ := hst'
    have hIo : (I, oI) ∈ own := hall I (List.mem_singleton.mpr rfl) hI₀ oI heI
    have hown' : ∀ p ∈ own, p = (I, oI) := fun p hp => by
      have h1 : p.1 = I := List.mem_singleton.mp (hown p hp)
      have h2 : h.get? p.1 = some p.2 := hget p hp
      have h3 : h.get? I = some oI := heI
      rw [h1, h3] at h2
      exact Prod.ext h1 (Option.some.inj h2).symm
    have hol : Off I led := fun p hp e => hoff p hp (List.mem_singleton.mpr e)
    refine wpAny_mono (turn i t m₁ h tk I oI led hi hJ hol ?_ ?_) (fun f s₂ h₂ => ?_) fun _ _ e => e
    · rw [mapKv_after hm]
      simpa using F₁
    · intro p hp
      rcases List.mem_cons.mp hp with rfl | hp
      · exact N₁ _ (List.mem_append.mpr (.inl hIo))
      · exact N₁ _ (List.mem_append.mpr (.inr hp))
    · have fin : ∀ s₂, LedEnd h₀ env.locals I oI kv (J (i + 1)) { s with heap := h, toks := tk } s₂ → LoopStepU h₀ env.locals [I] own (fun m nx => KvIn m kv ∧ J (i + 1) nx) { s with heap := h, toks := tk } .next s₂ := by
        rintro s₂ ⟨h', tk', m', news', led', e, F', N', hI, hl, off, hk, hj'⟩
        refine ⟨rfl, h', tk', m', led', e, F', fun p hp => ?_, fun p hp hq => off p hp (List.mem_singleton.mp hq), hk, hj'⟩
        rcases List.mem_append.mp hp with hp | hp
        · rw [hown' p hp]; exact N' _ hI
        · exact N' _ (hl p hp)
      cases f with
      | ret v => exact .ret h₂
      | brk => exact .brk h₂
      | next => exact .next (fin _ h₂)
      | cont => exact .cont (fin _ h₂)
  · rintro h' tk m' led F' N' _ ⟨hm, hJ⟩
    exact done m' h' tk led hJ (by rw [mapKv_is hm]; exact F') N'
end Mine
namespace Mine
example : True := by
  w_top off
  k_with_none
  trivial

section
variable {w : World} {loose : List Str} {mean : ExcName → Option Value} {mg mb : Str → Option Value}
def rmap (ρ : Rg) : Ty → Ty
  | .ref _ m t => .ref ρ m (rmap ρ t)
  | .box t => .box (rmap ρ t)
  | .arr t => .arr (rmap ρ t)
  | .adt _ t => .adt ρ (rmap ρ t)
  | .tup t u => .tup (rmap ρ t) (rmap ρ u)
  | t => t
def ChangeOk (w : World) (loose : List Str) (mean : ExcName → Option Value) (mg mb : Str → Option Value) (c : Addr) (D₀ : List (Addr × Obj)) (ρ : Rg) : Prop :=
  (∃ oc od fd sl, (c, (⟨oc, od, .func fd, sl⟩ : Obj)) ∈ D₀) ∧ ∀ tk news, (∀ p ∈ D₀, p ∈ news) → CallOk PySem.Challenge.rw_xm0591_01.row.prog w (hd.heap_1 w.params) topProg loose mean mg mb 3 c [.str (Str.ofString "'r") tk] news (PPost [] news (rgD ρ))
def WrOk (w : World) (loose : List Str) (mean : ExcName → Option Value) (mg mb : Str → Option Value) (c : Addr) (D₀ : List (Addr × Obj)) (ρ : Rg) (t : Ty) : Prop :=
  ∀ v D news, Dt D v (tyD t) → (∀ p ∈ D, p ∈ news) → (∀ p ∈ D₀, p ∈ news) →
    CallOk PySem.Challenge.rw_xm0591_01.row.prog w (hd.heap_1 w.params) topProg loose mean mg mb (2 * t.dp + 6) 45 [v, .ref c] news (PPost D news (tyD (rmap ρ t)))
variable {c : Addr} {D₀ : List (Addr × Obj)} {ρ : Rg}
theorem change_use {tk : Tok} {news : List (Addr × Obj)}
  {dp un : Nat} {gd : Option (List Code)} {cn : Str} {cs : Scope} {a : Addr} {ccd : Value} {cl : List (Str × Addr)} {outer : List Env} {A₀ : Around} {base h₀ : Heap} {L : Addr} {m : Str → Option Value} {hS : Heap} {gS : Array GenState} {dS : Drawn} {tS : Nat} {oS : OsState} {Q E : Value → Shared → Prop}
  (C : ChangeOk w loose mean mg mb c D₀ ρ) (s1 : ∀ p ∈ D₀, p ∈ news)
  (B : Below A₀ base outer h₀) (F : Fr h₀ L hS m) (X : (hd.heap_1 w.params).In h₀) (N : News h₀ L hS news) (T : Top topProg loose mean mg mb h₀) (hk : cs.kind = .function) (hr : dp + 3 < recursionLimit) (hu : un + 8 * 3 < cLine)
  (ret : ∀ r tl h' tk', Fr h₀ L h' m → News h₀ L h' (news ++ tl) → Above news tl → Dt ([] ++ tl) r (rgD ρ) → Q (r) ⟨h', gS, dS, tk', oS⟩) : wpAny (model PySem.Challenge.rw_xm0591_01.row.prog w) (ktrTop dp un gd cn cs L a ccd cl outer) (call (.ref c) [.str (Str.ofString "'r") tk]) Q E ⟨hS, gS, dS, tS, oS⟩ :=
  pure_use B F X N T hk (C.2 tk news s1) hr hu ret
theorem wr_use {t : Ty} {news D : List (Addr × Obj)} {v : Value}
  {dp un : Nat} {gd : Option (List Code)} {cn : Str} {cs : Scope} {a : Addr} {ccd : Value} {cl : List (Str × Addr)} {outer : List Env} {A₀ : Around} {base h₀ : Heap} {L : Addr} {m : Str → Option Value} {hS : Heap} {gS : Array GenState} {dS : Drawn} {tS : Nat} {oS : OsState} {Q E : Value → Shared → Prop}
  (hv : Dt D v (tyD t)) (S : WrOk w loose mean mg mb c D₀ ρ t) (s1 : ∀ p ∈ D, p ∈ news) (s2 : ∀ p ∈ D₀, p ∈ news)
  (B : Below A₀ base outer h₀) (F : Fr h₀ L hS m) (X : (hd.heap_1 w.params).In h₀) (N : News h₀ L hS news) (T : Top topProg loose mean mg mb h₀) (hk : cs.kind = .function) (hr : dp + (2 * t.dp + 6) < recursionLimit) (hu : un + 8 * (2 * t.dp + 6) < cLine)
  (ret : ∀ r tl h' tk', Fr h₀ L h' m → News h₀ L h' (news ++ tl) → Above news tl → Dt (D ++ tl) r (tyD (rmap ρ t)) → Q (r) ⟨h', gS, dS, tk', oS⟩) : wpAny (model PySem.Challenge.rw_xm0591_01.row.prog w) (ktrTop dp un gd cn cs L a ccd cl outer) (call (.ref 45) [v, .ref c]) Q E ⟨hS, gS, dS, tS, oS⟩ :=
  pure_use B F X N T hk (S v D news hv s1 s2) hr hu ret
theorem rmapG_c (ρ : Rg) : ∀ t : Ty, rmapG (fun _ => ρ) t = rmap ρ t
  | .par _ => rfl
  | .int => rfl
  | .bool => rfl
  | .never => rfl
  | .ref _ _ t => by simp only [rmapG, rmap, rmapG_c ρ t]
  | .box t => by simp only [rmapG, rmap, rmapG_c ρ t]
  | .arr t => by simp only [rmapG, rmap, rmapG_c ρ t]
  | .adt _ t => by simp only [rmapG, rmap, rmapG_c ρ t]
  | .tup t u => by simp only [rmapG, rmap, rmapG_c ρ t, rmapG_c ρ u]
theorem ch_of (hch : ChangeOk w loose mean mg mb c D₀ ρ) : ChG w loose mean mg mb c D₀ (fun r => r = .r) (fun _ => ρ) 3 := by
  obtain ⟨⟨oc, od, fd, sl, hfn⟩, hc⟩ := hch
  refine ⟨fun _ N _ hs => FnAt.of N (hs _ hfn), ?_⟩
  intro r v D news hr hv _ hs0
  subst hr
  obtain ⟨tk, rfl⟩ := in_str hv
  exact hc tk news hs0
theorem wr_of {t : Ty} (S : WrG w loose mean mg mb c D₀ (fun _ => ρ) 3 t) : WrOk w loose mean mg mb c D₀ ρ t := by
  intro v D news hv hs hs0
  have := S v D news hv hs hs0
  rw [rmapG_c] at this
  exact this
theorem wr_ok (hch : ChangeOk w loose mean mg mb c D₀ ρ) : (∀ x, WrOk w loose mean mg mb c D₀ ρ (.par x)) ∧ WrOk w loose mean mg mb c D₀ ρ .bool ∧ (∀ x, WrOk w loose mean mg mb c D₀ ρ (.box (.par x))) ∧ (∀ x q, WrOk w loose mean mg mb c D₀ ρ (.ref .r q (.par x))) ∧ WrOk w loose mean mg mb c D₀ ρ (.adt .r .bool) :=
  ⟨fun _ => wr_of (wg_gen0 (ch_of hch) rfl rfl), wr_of (wg_gen0 (ch_of hch) rfl rfl), fun _ => wr_of (wg_gen1 (ch_of hch) rfl rfl (wg_gen0 (ch_of hch) rfl rfl)), fun _ q => wr_of (wg_ref (R := fun r => r = .r) q rfl (ch_of hch) (wg_gen0 (ch_of hch) rfl rfl)), wr_of (wg_adt (R := fun r => r = .r) rfl (ch_of hch) (wg_gen0 (ch_of hch) rfl rfl))⟩
end
end Mine
namespace Mine
example : True := by
  w_top off
  k_with_none
  trivial

section
variable {w : World} {loose : List Str} {mean : ExcName → Option Value} {mg mb : Str → Option Value}
inductive Fd where
  | par | bool | box | ref | adt
def Fd.ty : Fd → Ty
  | .par => .par .A
  | .bool => .bool
  | .box => .box (.par .A)
  | .ref => .ref .r true (.par .A)
  | .adt => .adt .r .bool
def Fd.due (ρ : Rg) (t : Ty) : Fd → Ty
  | .par => t
  | .bool => .bool
  | .box => .box t
  | .ref => .ref ρ true t
  | .adt => .adt ρ .bool
def FdR (ρ : Rg) (t : Ty) (d : Dat) : Prop := ∃ f : Fd, d = .tuple [tyD f.ty, tyD (f.due ρ t)]

example : True := by
  k_with_none
  k_with "subscriptTail" =>
   ((k_here; (with_reducible show wpAny _ _ (subscriptTail _ _ (Value.ref _) (Value.int _ _)) _ _ _); k_dflt (first
   | (refine' my_tup ?Z0 ?Z1 ?Z2 ?Z3 ?Z4 ?Z5 ?_; (case Z0 => k_asm); (case Z1 => k_mem); (case Z2 | Z3 => decide); (case Z4 | Z5 => rfl); k_whole)
   | (refine' my_lst ?Z0 ?Z1 ?Z2 ?Z3 ?Z5 ?_; (case Z0 => k_asm); (case Z1 => k_mem); (case Z2 | Z3 => decide); (case Z5 => rfl); k_whole))))
  k_with "eval Name" =>
   ((k_here; k_dflt (refine' nameX_L ?Z6 ?Z7 ?_; (case Z6 => k_asm); (case Z7 => exact rfl); k_whole)))
  k_with "w_k_all" =>
   (first | assumption | ((show Off _ _); kqd_all))
  k_with "w_k_room" =>
   (ktr_room)
  k_with "call ref" =>
   ((k_here; (with_reducible show wpAny _ _ (call (Value.ref 182) _) _ _ _); k_dflt (refine' one_use ?Z8 ?Z9 ?Za ?Zb ?Zc ?Zd ?Ze ?Zf ?Zg ?Zh ?Zi ?Zj ?Zk ?Zl ?_; (case Zf | Zh => k_asm); (case Z8 => (repeat (first | exact Pull.head | apply Pull.tail))); (case Z9 => k_asm); (case Za => kqd_all); (case Zb => k_mem); (case Zc | Zd => (simp only [List.length_cons, List.length_nil]; omega)); (case Ze | Zg | Zi => k_asm); (case Zj => first | exact rfl | with_reducible assumption); (case Zk => ktr_room); (case Zl => ktr_units)); intro r9 h9 tk9' x9 tx9 y9 ty9 ok9 F9 N9 hv9; (try simp only [List.nil_append, List.cons_append, List.append_nil] at N9); (simp only [List.mem_cons, List.not_mem_nil, or_false] at hv9); (try dsimp only); (try k_fold)))
  k_with "execs cons" =>
   (k_here; (try k_gentoks); (first | ((fail_if_success (fail_if_success k_fold)); (with_reducible refine' ec_let2 ?_); intro q0 e0 K0) | ((with_reducible refine' ec_let ?_); intro K0)); (all_goals (try ((with_reducible rename Fr _ _ _ (fun _ => ite _ _ _) => f9); refine fr_let f9 ?_; clear f9; intro m0 F0))); (try dsimp only))
  k_with "eval Constant str" =>
   (with_reducible refine' con_str ?_)
  k_with "eval Constant int" =>
   (with_reducible refine' con_int ?_)
  k_with "subscriptTail Name Constant ref int" =>
   (k_extra "subscriptTail")
  k_with "callWith ref" =>
   (k_here; (with_reducible show wpAny _ _ (callWith _ (Value.ref _) _ (backTo _ (starEach (_ :: _) _)) []) _ _ _); k_dflt (refine' callWith_K ?zc1 ?zc2 ?_; (case zc1 => with_reducible assumption); (case zc2 => k_is); k_whole))
  k_with "callWith ref" =>
   (k_here; (with_reducible show wpAny _ _ (callWith _ (Value.ref _) _ (backTo _ (starEach [] _)) []) _ _ _); k_dflt (refine' callWith_K0 ?zc1 ?zc2 ?_; (case zc1 => exact Frag.In.keeps (by with_reducible assumption) (Fr.keep (by k_asm))); (case zc2 => k_is); k_whole))
  k_with "eval Name" =>
   (k_here; k_dflt (first
   | (refine' nameX_L ?zn1 ?zn2 ?_ ?zn3 ?zn4; (case zn3 | zn4 => rfl); (case zn1 => k_asm); (case zn2 => rfl); k_whole)
   | (refine' nameX_K ?zn1 ?zn2 ?zn3 ?zn4 ?_ ?zn5 ?zn6; (case zn5 | zn6 => rfl); (case zn1 | zn2 | zn3 => k_asm); (case zn4 => k_is); k_whole)
   | (refine' nameX_B ?zn1 ?zn2 ?zn3 ?zn4 ?zn5 ?zn6 ?_ ?zn7 ?zn8; (case zn7 | zn8 => rfl); (case zn1 | zn2 | zn3 => k_asm); (case zn4 => k_is); (case zn5 => boot_fast); (case zn6 => decide); k_whole)
   | fail))
  k_with "newTuple" =>
   (k_here; k_dflt (refine' tup_let ?z30 ?z4 ?z0 ?_; (case z30 | z4 => k_asm); (case z0 => kmk_size)); intro D' h' e' Y' F' N' l1; (try k_sweep))
  k_with "newList" =>
   (k_here; k_dflt (refine' lst_let ?z30 ?z4 ?z0 ?_; (case z30 | z4 => k_asm); (case z0 => kmk_size)); intro D' h' e' Y' F' N' l1; (try k_sweep))
  k_with "binaryOp Add ref ref" =>
   (k_here; (with_reducible show wpAny _ _ (binaryOp Operator.Add (Value.ref _) (Value.ref _)) _ _ _); k_dflt (refine' kde_addT ?z1 ?z27 ?z25 ?z2 ?z18 ?z23 ?z21 ?z24 ?_; (case z1 | z27 => k_asm); (case z25 | z2 => exact News.isTup (by k_asm) (by k_mem)); (case z18 | z23 => exact List.cons_ne_nil _ _); (case z21 => exact Nat.le_of_ble_eq_true rfl); (case z24 => kun_lit)); intro D' h' F' N' l1; (replace l1 := allLt_of l1); (try k_sweep))
  k_with "k_up" =>
   (first
   | with_reducible exact hp
   | ((with_reducible refine List.mem_cons_of_mem _ ?_); k_extra "k_up")
   | ((with_reducible refine List.mem_append_left _ ?_); k_extra "k_up")
   | ((with_reducible refine List.mem_append_right _ ?_); k_extra "k_up")
   | fail)
  k_with "w_tb_start" =>
   (first
   | exact sub_nil
   | (intro p hp; k_extra "k_up")
   | (refine' sub_trans ?z28 ?z13; (case z28 => with_reducible assumption); (case z13 => (intro p hp; k_extra "k_up")))
   | ((with_reducible refine sub_app ?_ ?_) <;> tb_start)
   | ((with_reducible refine sub_cons ?_ ?_); k_mem; tb_start)
   | fail)
  k_with "w_k_mem" =>
   (focus ((repeat (with_reducible first | exact List.mem_cons_self | refine List.mem_cons_of_mem _ ?_ | refine List.mem_append_left _ ?_)); done))
  k_with "w_kqd_sub" =>
   (with_reducible first
   | exact gdJ_nil
   | (refine' gdJ_app ?_ ?_ <;> kqd_sub)
   | (refine' gd_app ?_ ?_ <;> kqd_sub)
   | (refine' gdJ_new ?z32 ?z12 ?z22 ?z9; (case z12 | z22 => assumption); (case z32 | z9 => k_dflt tb_start))
   | (refine' gd_new ?z32 ?z12 ?z9; (case z12 => assumption); (case z32 | z9 => k_dflt tb_start))
   | (refine' gd_cons0 ?z15 ?z10; (case z15 => first | (refine' gd_had ?z31 ?z38; (case z38 => assumption); (case z31 => k_dflt k_mem)) | (refine' gd_one ?z31 ?z38 ?z37; (case z38 => assumption); (case z31 => k_dflt k_mem); (case z37 => k_dflt tb_start))); (case z10 => kqd_sub))
   | (refine' gdJ_old ?z32 ?z9; (case z9 | z32 => k_dflt tb_start))
   | (refine' gd_old ?z32 ?z9; (case z9 | z32 => k_dflt tb_start))
   | fail)
  k_with "w_tb_rel" =>
   (with_reducible first
   | exact DatP.none
   | exact DatP.bool _
   | exact DatP.int _ _
   | exact DatP.str _ _
   | exact DatPs.nil
   | (refine' DatPs.cons ?_ ?_ <;> first | ((with_reducible show DatP _ _ _); tb_rel) | ((with_reducible show DatPs _ _ _); tb_rel) | ((with_reducible show Dat); skip) | ((with_reducible show List Dat); skip))
   | (refine' datP_in ?z5 ?z37; (case z5 => assumption); (case z37 => k_dflt kqd_sub))
   | (refine' datP_gdJ ?z31 ?z34 ?z35; (case z31 => k_dflt k_mem); (case z34 => first | (refine' gdJ_had ?z31 ?z38; (case z38 => assumption); (case z31 => k_dflt k_mem)) | (refine' gdJ_one ?z31 ?z38 ?z37 ?z19; (case z38 => assumption); (case z31 => k_dflt k_mem); (case z37 => k_dflt tb_start); (case z19 => k_dflt (k_extra "k_ltA")))); (case z35 => tb_rel))
   | (refine' datP_gd ?z31 ?z34 ?z35; (case z31 => k_dflt k_mem); (case z34 => first | (refine' gd_had ?z31 ?z38; (case z38 => assumption); (case z31 => k_dflt k_mem)) | (refine' gd_one ?z31 ?z38 ?z37; (case z38 => assumption); (case z31 => k_dflt k_mem); (case z37 => k_dflt tb_start))); (case z35 => tb_rel))
   | fail)
  k_with "w_lcg_off" =>
   (with_reducible first
   | assumption
   | exact off3_nil
   | (refine' off3_app ?_ ?_ <;> lcg_off)
   | (refine' off3_any ?z40 ?z14 ?z3; (case z40 => assumption); (case z14 => k_dflt k_mem); (case z3 => lcg_off))
   | (refine' off3_cons ⟨?z42, ?z16, ?z17⟩ ?z3; (case z42 | z16 | z17 => k_dflt k_ne); (case z3 => lcg_off))
   | (refine' off3_above ?z40 ?z42 ?z16 ?z17; (case z40 => assumption); (case z42 | z16 | z17 => k_dflt k_mem))
   | (refine' off3_sub ?z40 ?z3; (case z40 => assumption); (case z3 => k_dflt tb_start))
   | fail)
  k_with "w_ktr_room" =>
   ((try simp only [depth_under_make, depth_under_kw, depth_in1, depth_deeper, depth_caller]); (try dsimp only [ktrTop]); with_reducible first
   | (refine' room2 ?z11 ?z20; (case z11 => assumption); (case z20 => k_dflt (first | exact Nat.le_of_ble_eq_true rfl | omega)))
   | (refine' room1 ?z11 ?z20; (case z11 => assumption); (case z20 => k_dflt (first | exact Nat.le_of_ble_eq_true rfl | omega)))
   | (refine' room0 ?z11; (case z11 => assumption))
   | fail)
  k_with "w_ktr_units" =>
   ((try simp only [units_in1, units_deeper, Around.mark_units, units_caller]); (try dsimp only [ktrTop]); with_reducible first
   | (refine' unit2 ?z11 ?z20; (case z11 => assumption); (case z20 => k_dflt (first | exact Nat.le_of_ble_eq_true rfl | omega)))
   | (refine' unit1 ?z11 ?z20; (case z11 => assumption); (case z20 => k_dflt (first | exact Nat.le_of_ble_eq_true rfl | omega)))
   | fail)
  k_with "k_ltA" =>
   (first
   | (refine' lt_all ?z6 ?z36; (case z6 => with_reducible assumption); (case z36 => k_mem))
   | (refine ltN ?_; omega))
  k_with "w_kqd_all" =>
   (with_reducible first
   | assumption
   | exact off_nil
   | (refine' off_cons ?z29 ?z39; (case z29 => k_dflt k_ne); (case z39 => kqd_all))
   | (refine' off_app ?_ ?_ <;> kqd_all)
   | (refine' off_sub ?z8 ?z7; (case z8 => assumption); (case z7 => k_dflt tb_start))
   | (refine' off_above ?z8 ?z7; (case z8 => assumption); (case z7 => k_dflt k_mem))
   | (refine' off_lt ?z8 ?z33 ?z7; (case z8 => assumption); (case z33 => k_dflt ((show (_ : Nat) ≤ _); omega)); (case z7 => k_dflt tb_start))
   | (refine' off_o3a ?z8 ?z7; (case z8 => assumption); (case z7 => k_dflt tb_start))
   | (refine' off_o3b ?z8 ?z7; (case z8 => assumption); (case z7 => k_dflt tb_start))
   | (refine' off_o3c ?z8 ?z7; (case z8 => assumption); (case z7 => k_dflt tb_start))
   | (refine' off_o1 ?z8 ?z7; (case z8 => assumption); (case z7 => k_dflt tb_start))
   | fail)
  k_with "w_k_ne" =>
   (first
   | with_reducible assumption
   | (refine' ne_all ?z6 ?z36; (case z6 => with_reducible assumption); (case z36 => k_mem))
   | (refine' ne_all2 ?z6 ?z36; (case z6 => with_reducible assumption); (case z36 => k_mem))
   | (refine' Ne.symm ?z6; (case z6 => with_reducible assumption))
   | (refine' ne_o3a ?z6 ?z36; (case z6 => with_reducible assumption); (case z36 => k_mem))
   | (refine' ne_o3b ?z6 ?z36; (case z6 => with_reducible assumption); (case z36 => k_mem))
   | (refine' ne_o3c ?z6 ?z36; (case z6 => with_reducible assumption); (case z36 => k_mem))
   | (refine' ne_o3a' ?z6 ?z36; (case z6 => with_reducible assumption); (case z36 => k_mem))
   | (refine' ne_o3b' ?z6 ?z36; (case z6 => with_reducible assumption); (case z36 => k_mem))
   | (refine' ne_o3c' ?z6 ?z36; (case z6 => with_reducible assumption); (case z36 => k_mem))
   | (refine' ne_o1 ?z6 ?z36; (case z6 => with_reducible assumption); (case z36 => k_mem))
   | (refine' ne_o1' ?z6 ?z36; (case z6 => with_reducible assumption); (case z36 => k_mem))
   | (refine' ne_of_lt' ?z6; (case z6 => with_reducible assumption))
   | (refine' ne_of_gt' ?z6; (case z6 => with_reducible assumption))
   | (refine' ne_tr ?z41 ?z6 ?z36; (case z41 | z6 => with_reducible assumption); (case z36 => k_mem))
   | (refine' ne_trs ?z41 ?z6 ?z36; (case z41 | z6 => with_reducible assumption); (case z36 => k_mem))
   | (refine' ne_tr2 ?z41 ?z26 ?z6 ?z36; (case z41 | z26 | z6 => with_reducible assumption); (case z36 => k_mem))
   | (refine' ne_tr2s ?z41 ?z26 ?z6 ?z36; (case z41 | z26 | z6 => with_reducible assumption); (case z36 => k_mem))
   | (with_reducible refine' ne_up1 ?z6 ?z36; (case z6 => assumption); (case z36 => k_dflt k_mem))
   | (with_reducible refine' ne_up2 ?z6 ?z36; (case z6 => assumption); (case z36 => k_dflt k_mem))
   | (with_reducible refine' ne_up3 ?z6 ?z36; (case z6 => assumption); (case z36 => k_dflt k_mem))
   | (with_reducible refine' ne_dn1 ?z6 ?z36; (case z6 => assumption); (case z36 => k_dflt k_mem))
   | (with_reducible refine' ne_dn2 ?z6 ?z36; (case z6 => assumption); (case z36 => k_dflt k_mem))
   | (with_reducible refine' ne_dn3 ?z6 ?z36; (case z6 => assumption); (case z36 => k_dflt k_mem))
   | fail)
  k_with "pack" =>
   skip
  trivial
theorem fdR_par {ρ : Rg} {t : Ty} : FdR ρ t (.tuple [.tuple [.str (Str.ofString "param"), .str (Str.ofString "A")], tyD t]) := ⟨.par, rfl⟩
theorem fdR_bool {ρ : Rg} {t : Ty} : FdR ρ t (.tuple [.tuple [.str (Str.ofString "bool")], .tuple [.str (Str.ofString "bool")]]) := ⟨.bool, rfl⟩
theorem fdR_box {ρ : Rg} {t : Ty} : FdR ρ t (.tuple [.tuple [.str (Str.ofString "box"), .tuple [.str (Str.ofString "param"), .str (Str.ofString "A")]], .tuple [.str (Str.ofString "box"), tyD t]]) := ⟨.box, rfl⟩
theorem fdR_ref {ρ : Rg} {t : Ty} : FdR ρ t (.tuple [.tuple [.str (Str.ofString "ref"), .str (Str.ofString "'r"), .bool true, .tuple [.str (Str.ofString "param"), .str (Str.ofString "A")]], .tuple [.str (Str.ofString "ref"), rgD ρ, .bool true, tyD t]]) := ⟨.ref, rfl⟩
theorem fdR_adt {ρ : Rg} {t : Ty} : FdR ρ t (.tuple [.tuple [.str (Str.ofString "adt"), .str (Str.ofString "m::E"), .tuple [.str (Str.ofString "'r")], .tuple [.tuple [.str (Str.ofString "bool")]]], .tuple [.str (Str.ofString "adt"), .str (Str.ofString "m::E"), .tuple [rgD ρ], .tuple [.tuple [.str (Str.ofString "bool")]]]]) := ⟨.adt, rfl⟩
theorem field_ok {ρ : Rg} {t : Ty} {j : Addr} {x y : Int} {tx ty : Tok} {n : Nat} {v1 v2 : Value} {rest D : List (Addr × Obj)} (ok : JarOk x y) (off : Off j rest) (hv1 : Dt D v1 (rgD ρ)) (hv2 : Dt D v2 (tyD t)) (hs1 : ∀ p ∈ D, p ∈ rest) : CallOk PySem.Challenge.rw_xm0591_01.row.prog w (hd.heap_1 w.params) topProg loose mean mg mb 14 227 [.ref j, v1, v2] ((j, jarO x tx y ty n) :: rest) (JPost j n D rest (FdR ρ t)) := by
  unfold CallOk
  intro dp un gd cn cs a' ccd cl outer A₀ base h₀ L m s Q E B F X N T hk hdp hun hret
  refine wpAny_call ?_
  k_dflt ktr_enter
  all_goals (try (with_reducible rename News _ _ _ _ => nL9; refine led_let nL9 ?_; clear nL9; intro Y0 N9))
  k_steps
  all_goals (refine hret _ _ _ _ (by k_asm) (by k_asm) ?_)
  all_goals (repeat (with_reducible rename _ ∧ _ => hc; (have hcl := hc.1); (have hcr := hc.2); clear hc))
  all_goals (try (rename _ = Value.ref _ ∨ _ => hv; rcases hv with rfl | rfl | rfl | rfl | rfl))
  all_goals (refine jpost_of ?_ (by with_reducible assumption) (by k_mem) (by tb_start) ?_ ?_; rotate_left; tb_rel; with_reducible first
    | exact fdR_par
    | exact fdR_bool
    | exact fdR_box
    | exact fdR_ref
    | exact fdR_adt)
theorem field_use {ρ : Rg} {t : Ty} {v1 v2 : Value} {D : List (Addr × Obj)} {j : Addr} {x y : Int} {tx ty : Tok} {n : Nat} {news rest : List (Addr × Obj)} {dp un : Nat} {gd : Option (List Code)} {cn : Str} {cs : Scope} {a : Addr} {ccd : Value} {cl : List (Str × Addr)} {outer : List Env} {A₀ : Around} {base h₀ : Heap} {L : Addr} {m : Str → Option Value} {hS : Heap} {gS : Array GenState} {dS : Drawn} {tS : Nat} {oS : OsState} {Q E : Value → Shared → Prop}
  (P : Pull (j, jarO x tx y ty n) news rest) (ok : JarOk x y) (off : Off j rest) (hv1 : Dt D v1 (rgD ρ)) (hv2 : Dt D v2 (tyD t)) (hs1 : ∀ p ∈ D, p ∈ rest) (B : Below A₀ base outer h₀) (F : Fr h₀ L hS m) (X : (hd.heap_1 w.params).In h₀) (N : News h₀ L hS news) (T : Top topProg loose mean mg mb h₀) (hk : cs.kind = .function) (hr : dp + 14 < recursionLimit) (hu : un + 8 * 14 < cLine)
  (ret : ∀ p' w1 w2 n2 tl (f : Fd) h' tk' x' tx' y' ty', JarOk x' y' → Fr h₀ L h' m → News h₀ L h' ((p', tupO [w1, w2] n2) :: (j, jarO x' tx' y' ty' n) :: (rest ++ tl)) → Above rest tl → (∀ p ∈ tl, @LT.lt Nat _ j p.1) → Off j tl → @Ne Nat p' j → (p', tupO [w1, w2] n2) ∈ D ++ tl → Dt (D ++ tl) w1 (tyD f.ty) → Dt (D ++ tl) w2 (tyD (f.due ρ t)) → Q (.ref p') ⟨h', gS, dS, tk', oS⟩) : wpAny (model PySem.Challenge.rw_xm0591_01.row.prog w) (ktrTop dp un gd cn cs L a ccd cl outer) (call (.ref 227) [.ref j, v1, v2]) Q E ⟨hS, gS, dS, tS, oS⟩ :=
  jar_use B F X N T hk P (field_ok ok off hv1 hv2 hs1) hr hu fun r tl h' tk' x' tx' y' ty' d ok' hR F' N' ab hj ho dt => by
    obtain ⟨f, rfl⟩ := hR
    obtain ⟨p', w1, w2, n2, rfl, hm, d1, d2⟩ := in_tup2 dt
    have hp' : (p', tupO [w1, w2] n2) ∈ rest ++ tl := (List.mem_append.mp hm).elim (fun h => List.mem_append.mpr (.inl (hs1 _ h))) (fun h => List.mem_append.mpr (.inr h))
    exact ret p' w1 w2 n2 tl f h' tk' x' tx' y' ty' ok' F' (News.add N' (.tail _ hp')) ab hj ho (off_app off ho _ hp') hm  d1 d2
end
end Mine
namespace Mine
example : True := by
  w_top off
  k_with_none
  trivial

/-! lists that grow, by the ledger -/
theorem dts_len {l : List (Addr × Obj)} : ∀ {vs : List Value} {ds : List Dat}, Dts l vs ds → vs.length = ds.length
  | _, _, .nil => rfl
  | _, _, .cons _ r => by simp [dts_len r]
theorem dts_snoc {l : List (Addr × Obj)} {v : Value} {d : Dat} (h : Dt l v d) : ∀ {vs : List Value} {ds : List Dat}, Dts l vs ds → Dts l (vs ++ [v]) (ds ++ [d])
  | _, _, .nil => .cons h .nil
  | _, _, .cons a r => .cons a (dts_snoc h r)
theorem dts_app {l : List (Addr × Obj)} {ws : List Value} {es : List Dat} (h : Dts l ws es) : ∀ {vs : List Value} {ds : List Dat}, Dts l vs ds → Dts l (vs ++ ws) (ds ++ es)
  | _, _, .nil => h
  | _, _, .cons a r => .cons a (dts_app h r)
section
variable {prog : Program} {w : World} {A : Around} {E : Value → Shared → Prop} {s : Shared} {h₀ : Heap} {L : Addr} {m : Str → Option Value} {news rest : List (Addr × Obj)}
theorem app_use {D : Addr} {vs : List Value} {n : Nat} {x : Value} {Q : Value → Shared → Prop} (F : Fr h₀ L s.heap m) (N : News h₀ L s.heap news) (P : Pull (D, listOf vs.toArray n) news rest) (off : Off D rest) (hz : vs.length ≤ 64)
    (ret : ∀ h', Fr h₀ L h' m → News h₀ L h' ((D, listOf (vs ++ [x]).toArray (n + 1)) :: rest) → Q .none { s with heap := h' }) : wpAny (model prog w) A (call (.builtin "list.append") [.ref D, x]) Q E s := by
  refine append_K F (News.sub N P.mem) (.head off) (fun h' F' N' => ret h' F' ?_) (by rw [List.size_toArray, sizeLine_eq]; omega)
  rw [List.push_toArray] at N'
  exact N'
theorem ext_use {D b : Addr} {vs ws : List Value} {n k : Nat} {Q : Value → Shared → Prop} (F : Fr h₀ L s.heap m) (N : News h₀ L s.heap news) (P : Pull (D, listOf vs.toArray n) news rest) (off : Off D rest) (hb : (b, listOf ws.toArray k) ∈ rest) (hz : vs.length ≤ 64) (hz2 : ws.length ≤ 64)
    (ret : ∀ h' n', Fr h₀ L h' m → News h₀ L h' ((D, listOf (vs ++ ws).toArray n') :: rest) → Q .none { s with heap := h' }) : wpAny (model prog w) A (call (.builtin "list.extend") [.ref D, .ref b]) Q E s := by
  have hno : ¬(!(vs.toArray).isEmpty && Builtin.List.listTooLong (vs.toArray.size + ws.toArray.size)) = true := by
    have h1 : Builtin.List.listTooLong (vs.toArray.size + ws.toArray.size) = false := by
      unfold Builtin.List.listTooLong
      rw [List.size_toArray, List.size_toArray]
      exact decide_eq_false (by (have h2 := sizeLine_eq); omega)
    rw [h1, Bool.and_false]
    exact Bool.false_ne_true
  have hz1 : vs.toArray.toList.length ≤ sizeLine := by rw [sizeLine_eq]; simp; omega
  have hz3 : vs.toArray.size + ws.toArray.size ≤ sizeLine + 1 := by rw [sizeLine_eq, List.size_toArray, List.size_toArray]; omega
  cases ws with
  | nil =>
    exact kxn_extend F (News.sub N P.mem) (.tail _ hb) rfl (.head off) hno hz1 hz3 fun h' F' N' => ret h' n F' (by rw [List.append_nil]; exact N')
  | cons w ws =>
    exact kl_extend F (News.sub N P.mem) (.tail _ hb) rfl (by simp) (.head off) hno hz1 hz3 fun h' F' N' => ret h' (n + 1) F' (by simpa using N')
theorem small_k {k : Int} (h0 : 0 ≤ k) (h1 : k ≤ 16) : Builtin.Range.small 0 k 1 = true := by
  obtain ⟨n, rfl⟩ := Int.eq_ofNat_of_zero_le h0
  have hn : n < 17 := by omega
  have all : ∀ i : Fin 17, Builtin.Range.small 0 ((i.val : Nat) : Int) 1 = true := by decide
  exact all ⟨n, hn⟩
theorem size_k {k : Int} : Builtin.Range.rangeSize 0 k 1 = ((k.toNat : Nat) : Int) := by rw [rangeSize_nat]; simp
end
theorem off_two {I : Addr} {a b : Addr × Obj} {l : List (Addr × Obj)} (h : Off I (a :: b :: l)) : @Ne Nat a.1 I ∧ @Ne Nat b.1 I ∧ Off I l :=
  ⟨h _ (.head _), h _ (.tail _ (.head _)), fun p hp => h p (.tail _ (.tail _ hp))⟩
theorem off_three {I : Addr} {a b c : Addr × Obj} {l : List (Addr × Obj)} (h : Off I (a :: b :: c :: l)) : @Ne Nat a.1 I ∧ @Ne Nat b.1 I ∧ @Ne Nat c.1 I ∧ Off I l :=
  ⟨h _ (.head _), h _ (.tail _ (.head _)), h _ (.tail _ (.tail _ (.head _))), fun p hp => h p (.tail _ (.tail _ (.tail _ hp)))⟩
/-! the fields, the variants as data -/
inductive FdsD : List Dat → List Fd → Prop
  | nil : FdsD [] []
  | cons {s : Str} {f : Fd} {ds : List Dat} {fs : List Fd} : FdsD ds fs → FdsD (.tuple [.str s, tyD f.ty] :: ds) (f :: fs)
theorem FdsD.snoc {s : Str} {f : Fd} : ∀ {ds : List Dat} {fs : List Fd}, FdsD ds fs → FdsD (ds ++ [.tuple [.str s, tyD f.ty]]) (fs ++ [f])
  | _, _, .nil => .cons .nil
  | _, _, .cons r => .cons (FdsD.snoc r)
theorem FdsD.len : ∀ {ds : List Dat} {fs : List Fd}, FdsD ds fs → ds.length = fs.length
  | _, _, .nil => rfl
  | _, _, .cons r => by simp [FdsD.len r]
inductive VarsD : List Dat → List (List Fd) → Prop
  | nil : VarsD [] []
  | cons {s k : Str} {d : List Dat} {f : List Fd} {ds : List Dat} {fs : List (List Fd)} : FdsD d f → f.length ≤ 2 → VarsD ds fs → VarsD (.tuple [.str s, .str k, .list d] :: ds) (f :: fs)
theorem VarsD.snoc {s k : Str} {d : List Dat} {f : List Fd} (h : FdsD d f) (h2 : f.length ≤ 2) : ∀ {ds : List Dat} {fs : List (List Fd)}, VarsD ds fs → VarsD (ds ++ [.tuple [.str s, .str k, .list d]]) (fs ++ [f])
  | _, _, .nil => .cons h h2 .nil
  | _, _, .cons a b r => .cons a b (VarsD.snoc h h2 r)
theorem VarsD.len : ∀ {ds : List Dat} {fs : List (List Fd)}, VarsD ds fs → ds.length = fs.length
  | _, _, .nil => rfl
  | _, _, .cons _ _ r => by simp [VarsD.len r]
def dueL (ρ : Rg) (t : Ty) (fs : List Fd) : List Dat := fs.map fun f => tyD (f.due ρ t)
def dueV (ρ : Rg) (t : Ty) (fss : List (List Fd)) : List Dat := fss.flatMap (dueL ρ t)
theorem dueL_snoc {ρ : Rg} {t : Ty} {fs : List Fd} {f : Fd} : dueL ρ t (fs ++ [f]) = dueL ρ t fs ++ [tyD (f.due ρ t)] := by simp [dueL]
theorem dueV_snoc {ρ : Rg} {t : Ty} {fss : List (List Fd)} {fs : List Fd} : dueV ρ t (fss ++ [fs]) = dueV ρ t fss ++ dueL ρ t fs := by simp [dueV]
theorem dueV_len {ρ : Rg} {t : Ty} : ∀ {ds : List Dat} {fss : List (List Fd)}, VarsD ds fss → (dueV ρ t fss).length ≤ 2 * fss.length
  | _, _, .nil => Nat.zero_le _
  | _, _, .cons a b r => by
    have ih := dueV_len (ρ := ρ) (t := t) r
    simp only [dueV, List.flatMap_cons, List.length_append, dueL, List.length_map, List.length_cons] at ih ⊢
    omega
end Mine
namespace Mine
example : True := by
  w_top off
  k_with_none
  trivial
/-! the two loops of _law_inner_right -/
/-- between two turns of the inner loop -/
structure InAt (j fa da : Addr) (q1 q2 q3 : Addr × Obj) (n : Nat) (keep : List (Addr × Obj)) (ρ : Rg) (t : Ty) (vr vi : Value) (ds₀ : List Dat) (k : Nat) (x : Int) (tx : Tok) (y : Int) (ty : Tok) (fs : List Value) (nf : Nat) (es : List Value) (ne : Nat) (fd : List Dat) (fds : List Fd) (rest : List (Addr × Obj)) : Prop where
  ok : JarOk x y
  oj : Off j rest
  ofa : Off fa rest
  oda : Off da rest
  n1 : @Ne Nat fa j
  n2 : @Ne Nat da j
  n3 : @Ne Nat da fa
  kp : ∀ p ∈ keep, p ∈ rest
  hr : Dt rest vr (rgD ρ)
  ht : Dt rest vi (tyD t)
  q1' : Off q1.1 rest
  q2' : Off q2.1 rest
  q3' : Off q3.1 rest
  df : Dts rest fs fd
  hf : FdsD fd fds
  len : fds.length = k
  de : Dts rest es (ds₀ ++ dueL ρ t fds)
abbrev inLed (j fa da : Addr) (q : Addr × Obj) (n : Nat) (x : Int) (tx : Tok) (y : Int) (ty : Tok) (fs : List Value) (nf : Nat) (es : List Value) (ne : Nat) (rest : List (Addr × Obj)) : List (Addr × Obj) := (j, jarO x tx y ty n) :: (fa, listOf fs.toArray nf) :: (da, listOf es.toArray ne) :: q :: rest
abbrev inLed2 (j fa da : Addr) (q1 q2 q3 : Addr × Obj) (n : Nat) (x : Int) (tx : Tok) (y : Int) (ty : Tok) (fs : List Value) (nf : Nat) (es : List Value) (ne : Nat) (rest : List (Addr × Obj)) : List (Addr × Obj) := (j, jarO x tx y ty n) :: (fa, listOf fs.toArray nf) :: (da, listOf es.toArray ne) :: q1 :: q2 :: q3 :: rest
def Jin (j fa da : Addr) (q1 q2 q3 : Addr × Obj) (n : Nat) (keep : List (Addr × Obj)) (ρ : Rg) (t : Ty) (vr vi : Value) (ds₀ : List Dat) (k : Nat) (led : List (Addr × Obj)) : Prop :=
  ∃ x tx y ty fs nf es ne fd fds rest, InAt j fa da q1 q2 q3 n keep ρ t vr vi ds₀ k x tx y ty fs nf es ne fd fds rest ∧ led = inLed2 j fa da q1 q2 q3 n x tx y ty fs nf es ne rest
structure OutAt (j va da : Addr) (q : Addr × Obj) (n : Nat) (keep : List (Addr × Obj)) (ρ : Rg) (t : Ty) (vr vi : Value) (k : Nat) (x : Int) (tx : Tok) (y : Int) (ty : Tok) (vs : List Value) (nv : Nat) (es : List Value) (ne : Nat) (vd : List Dat) (fss : List (List Fd)) (rest : List (Addr × Obj)) : Prop where
  ok : JarOk x y
  oj : Off j rest
  ova : Off va rest
  oda : Off da rest
  n1 : @Ne Nat va j
  n2 : @Ne Nat da j
  n3 : @Ne Nat da va
  kp : ∀ p ∈ keep, p ∈ rest
  hr : Dt rest vr (rgD ρ)
  ht : Dt rest vi (tyD t)
  q' : Off q.1 rest
  dv : Dts rest vs vd
  hv : VarsD vd fss
  len : fss.length = k
  de : Dts rest es (dueV ρ t fss)
def Jout (j va da : Addr) (q : Addr × Obj) (n : Nat) (keep : List (Addr × Obj)) (ρ : Rg) (t : Ty) (vr vi : Value) (k : Nat) (led : List (Addr × Obj)) : Prop :=
  ∃ x tx y ty vs nv es ne vd fss rest, OutAt j va da q n keep ρ t vr vi k x tx y ty vs nv es ne vd fss rest ∧ led = inLed j va da q n x tx y ty vs nv es ne rest
section
variable {prog : Program} {w : World} {A : Around} {E : Value → Shared → Prop} {s : Shared} {env : Env} {h₀ : Heap} {body : List Stmt} {Q : Flow → Shared → Prop}
  {r : Addr} {b₀ : Int} {t₀ u₀ v₀ : Tok} {m₀ : Str → Option Value} {news n1 n2 rest : List (Addr × Obj)} {j fa da va : Addr} {x y : Int} {tx ty : Tok} {n nf ne nv : Nat} {ρ : Rg} {t : Ty} {vr vi : Value}
theorem in_loop {q1 q2 q3 : Addr × Obj} {n3 n4 n5 : List (Addr × Obj)} (kv : List (Str × Value)) {es : List Value} {ds₀ : List Dat} (hkv : KvIn m₀ kv) (F : Fr h₀ env.locals s.heap m₀) (N : News h₀ env.locals s.heap news)
    (P1 : Pull (j, jarO x tx y ty n) news n1) (P2 : Pull (fa, listOf (List.toArray []) nf) n1 n2) (P3 : Pull (da, listOf es.toArray ne) n2 n3) (P4 : Pull q1 n3 n4) (P5 : Pull q2 n4 n5) (P6 : Pull q3 n5 rest) (ok : JarOk x y) (oq1 : Off q1.1 rest) (oq2 : Off q2.1 rest) (oq3 : Off q3.1 rest)
    (oj : Off j rest) (ofa : Off fa rest) (oda : Off da rest) (h1 : @Ne Nat fa j) (h2 : @Ne Nat da j) (h3 : @Ne Nat da fa) (de : Dts rest es ds₀)
    (hh : A.handled = none) (hr : IsRange s.heap r 0 b₀ 1 t₀ u₀ v₀) (hρ : Dt rest vr (rgD ρ)) (hτ : Dt rest vi (tyD t)) (hb0 : 0 ≤ b₀) (hb1 : b₀ ≤ 2)
    (turn : ∀ i tk u h tk' I oI x tx y ty fs nf es ne fd fds rest', i < 2 → InAt j fa da q1 q2 q3 n rest ρ t vr vi ds₀ i x tx y ty fs nf es ne fd fds rest' → Off I rest' → @Ne Nat j I → @Ne Nat fa I → @Ne Nat da I → @Ne Nat q1.1 I → @Ne Nat q2.1 I → @Ne Nat q3.1 I →
      Fr h₀ env.locals h (fun z => if z = Str.ofString "place" then some (.int (0 + (i : Int)) tk) else mapKv u kv z) → News h₀ env.locals h ((I, oI) :: inLed2 j fa da q1 q2 q3 n x tx y ty fs nf es ne rest') →
      wpAny (model prog w) A (execs body env) (LedPost h₀ env.locals I oI kv (Jin j fa da q1 q2 q3 n rest ρ t vr vi ds₀ (i + 1)) { s with heap := h, toks := tk' } Q) E { s with heap := h, toks := tk' })
    (done : ∀ c u h tk x tx y ty fs nf es ne fd fds rest', c ≤ 2 → InAt j fa da q1 q2 q3 n rest ρ t vr vi ds₀ c x tx y ty fs nf es ne fd fds rest' →
      Fr h₀ env.locals h (fun z => mapKv u kv z) → News h₀ env.locals h (inLed2 j fa da q1 q2 q3 n x tx y ty fs nf es ne rest') → Q .next { s with heap := h, toks := tk }) :
    wpAny (model prog w) A (pyIter (.ref r)) (fun it s₂ => LoopAtV prog w A h₀ env (Str.ofString "place") body Q E it s₂) E s := by
  have N3 : News h₀ env.locals s.heap (inLed2 j fa da q1 q2 q3 n x tx y ty [] nf es ne rest) := by
    refine News.sub N fun p hp => ?_
    rcases List.mem_cons.mp hp with rfl | hp
    · exact P1.mem _ (.head _)
    · refine P1.mem _ (.tail _ ?_)
      rcases List.mem_cons.mp hp with rfl | hp
      · exact P2.mem _ (.head _)
      · refine P2.mem _ (.tail _ ?_)
        rcases List.mem_cons.mp hp with rfl | hp
        · exact P3.mem _ (.head _)
        · refine P3.mem _ (.tail _ ?_)
          rcases List.mem_cons.mp hp with rfl | hp
          · exact P4.mem _ (.head _)
          · refine P4.mem _ (.tail _ ?_)
            rcases List.mem_cons.mp hp with rfl | hp
            · exact P5.mem _ (.head _)
            · exact P5.mem _ (.tail _ (P6.mem _ hp))
  have st : InAt j fa da q1 q2 q3 n rest ρ t vr vi ds₀ 0 x tx y ty [] nf es ne [] [] rest := ⟨ok, oj, ofa, oda, h1, h2, h3, fun _ h => h, hρ, hτ, oq1, oq2, oq3, .nil, .nil, rfl, by simpa [dueL] using de⟩
  refine loop_led (c := b₀.toNat) kv (Jin j fa da q1 q2 q3 n rest ρ t vr vi ds₀) hkv hh hr (small_k hb0 (by omega)) size_k F N3 ⟨_, _, _, _, _, _, _, _, _, _, _, st, rfl⟩ ?_ ?_
  · rintro i tk u h tk' I oI led hi ⟨x, tx, y, ty, fs, nf, es, ne, fd, fds, rest', at', rfl⟩ off F' N'
    obtain ⟨o1, o2, o3, o4⟩ := off_three off
    obtain ⟨o5, o6, o8, o7⟩ := off_three o4
    exact turn i tk u h tk' I oI x tx y ty fs nf es ne fd fds rest' (by omega) at' o7 o1 o2 o3 o5 o6 o8 F' N'
  · rintro u h tk led ⟨x, tx, y, ty, fs, nf, es, ne, fd, fds, rest', at', rfl⟩ F' N'
    exact done _ u h tk x tx y ty fs nf es ne fd fds rest' (by omega) at' F' N'
theorem out_loop {q : Addr × Obj} {n3 : List (Addr × Obj)} (kv : List (Str × Value)) (hkv : KvIn m₀ kv) (F : Fr h₀ env.locals s.heap m₀) (N : News h₀ env.locals s.heap news)
    (P1 : Pull (j, jarO x tx y ty n) news n1) (P2 : Pull (va, listOf (List.toArray []) nv) n1 n2) (P3 : Pull (da, listOf (List.toArray []) ne) n2 n3) (P4 : Pull q n3 rest) (oq : Off q.1 rest) (ok : JarOk x y)
    (oj : Off j rest) (ova : Off va rest) (oda : Off da rest) (h1 : @Ne Nat va j) (h2 : @Ne Nat da j) (h3 : @Ne Nat da va)
    (hh : A.handled = none) (hr : IsRange s.heap r 0 b₀ 1 t₀ u₀ v₀) (hρ : Dt rest vr (rgD ρ)) (hτ : Dt rest vi (tyD t)) (hb0 : 0 ≤ b₀) (hb1 : b₀ ≤ 3)
    (turn : ∀ i tk u h tk' I oI x tx y ty vs nv es ne vd fss rest', i < 3 → OutAt j va da q n rest ρ t vr vi i x tx y ty vs nv es ne vd fss rest' → Off I rest' → @Ne Nat j I → @Ne Nat va I → @Ne Nat da I → @Ne Nat q.1 I →
      Fr h₀ env.locals h (fun z => if z = Str.ofString "turn" then some (.int (0 + (i : Int)) tk) else mapKv u kv z) → News h₀ env.locals h ((I, oI) :: inLed j va da q n x tx y ty vs nv es ne rest') →
      wpAny (model prog w) A (execs body env) (LedPost h₀ env.locals I oI kv (Jout j va da q n rest ρ t vr vi (i + 1)) { s with heap := h, toks := tk' } Q) E { s with heap := h, toks := tk' })
    (done : ∀ c u h tk x tx y ty vs nv es ne vd fss rest', c ≤ 3 → OutAt j va da q n rest ρ t vr vi c x tx y ty vs nv es ne vd fss rest' →
      Fr h₀ env.locals h (fun z => mapKv u kv z) → News h₀ env.locals h (inLed j va da q n x tx y ty vs nv es ne rest') → Q .next { s with heap := h, toks := tk }) :
    wpAny (model prog w) A (pyIter (.ref r)) (fun it s₂ => LoopAtV prog w A h₀ env (Str.ofString "turn") body Q E it s₂) E s := by
  have N3 : News h₀ env.locals s.heap (inLed j va da q n x tx y ty [] nv [] ne rest) := by
    refine News.sub N fun p hp => ?_
    rcases List.mem_cons.mp hp with rfl | hp
    · exact P1.mem _ (.head _)
    · refine P1.mem _ (.tail _ ?_)
      rcases List.mem_cons.mp hp with rfl | hp
      · exact P2.mem _ (.head _)
      · refine P2.mem _ (.tail _ ?_)
        rcases List.mem_cons.mp hp with rfl | hp
        · exact P3.mem _ (.head _)
        · exact P3.mem _ (.tail _ (P4.mem _ hp))
  have st : OutAt j va da q n rest ρ t vr vi 0 x tx y ty [] nv [] ne [] [] rest := ⟨ok, oj, ova, oda, h1, h2, h3, fun _ h => h, hρ, hτ, oq, .nil, .nil, rfl, .nil⟩
  refine loop_led (c := b₀.toNat) kv (Jout j va da q n rest ρ t vr vi) hkv hh hr (small_k hb0 (by omega)) size_k F N3 ⟨_, _, _, _, _, _, _, _, _, _, _, st, rfl⟩ ?_ ?_
  · rintro i tk u h tk' I oI led hi ⟨x, tx, y, ty, vs, nv, es, ne, vd, fss, rest', at', rfl⟩ off F' N'
    obtain ⟨o1, o2, o3, o4⟩ := off_three off
    exact turn i tk u h tk' I oI x tx y ty vs nv es ne vd fss rest' (by omega) at' (fun p hp => o4 p (.tail _ hp)) o1 o2 o3 (o4 _ (.head _)) F' N'
  · rintro u h tk led ⟨x, tx, y, ty, vs, nv, es, ne, vd, fss, rest', at', rfl⟩ F' N'
    exact done _ u h tk x tx y ty vs nv es ne vd fss rest' (by omega) at' F' N'
/-- the inner turn's end -/
theorem in_next {q1 q2 q3 : Addr × Obj} {n3 n4 n5 : List (Addr × Obj)} {L I : Addr} {oI : Obj} {kv : List (Str × Value)} {keep : List (Addr × Obj)} {ds₀ : List Dat} {s₁ : Shared} {h' : Heap} {tk : Nat} {m' : Str → Option Value} {news n0 n1 n2 rest r₀ D : List (Addr × Obj)} {k : Nat} {x₁ y₁ : Int} {tx₁ ty₁ : Tok} {nf₁ ne₁ : Nat}
    {fs es : List Value} {fd : List Dat} {fds : List Fd} {v1 w2 w1 : Value} {f : Fd} {a : Addr} {st : Str} {sk : Tok} {na : Nat}
    (at' : InAt j fa da q1 q2 q3 n keep ρ t vr vi ds₀ k x₁ tx₁ y₁ ty₁ fs nf₁ es ne₁ fd fds r₀)
    (F : Fr h₀ L h' m') (N : News h₀ L h' news) (hk : KvIn m' kv)
    (P0 : Pull (I, oI) news n0) (P1 : Pull (j, jarO x tx y ty n) n0 n1) (P2 : Pull (fa, listOf (List.toArray (fs ++ [v1])) nf) n1 n2) (P3 : Pull (da, listOf (List.toArray (es ++ [w2])) ne) n2 n3) (P4 : Pull q1 n3 n4) (P5 : Pull q2 n4 n5) (P6 : Pull q3 n5 rest)
    (hv : v1 = .ref a) (ha : (a, tupO [.str st sk, w1] na) ∈ rest) (ok : JarOk x y)
    (oI' : Off I rest) (oq1 : Off q1.1 rest) (oq2 : Off q2.1 rest) (oq3 : Off q3.1 rest) (oj : Off j rest) (ofa : Off fa rest) (oda : Off da rest) (nj : @Ne Nat j I) (nfa : @Ne Nat fa I) (nda : @Ne Nat da I) (nq1 : @Ne Nat q1.1 I) (nq2 : @Ne Nat q2.1 I) (nq3 : @Ne Nat q3.1 I) (hr : ∀ p ∈ r₀, p ∈ rest)
    (d1 : Dt D w1 (tyD f.ty)) (d2 : Dt D w2 (tyD (f.due ρ t))) (hD : ∀ p ∈ D, p ∈ rest) :
    LedPost h₀ L I oI kv (Jin j fa da q1 q2 q3 n keep ρ t vr vi ds₀ (k + 1)) s₁ Q .next { s₁ with heap := h', toks := tk } := by
  subst hv
  refine led_next (inLed2 j fa da q1 q2 q3 n x tx y ty (fs ++ [.ref a]) nf (es ++ [w2]) ne rest) F N (P0.mem _ (.head _)) (fun p hp => P0.mem _ (.tail _ ?_)) (off_cons nj (off_cons nfa (off_cons nda (off_cons nq1 (off_cons nq2 (off_cons nq3 oI')))))) hk ?_
  · rcases List.mem_cons.mp hp with rfl | hp
    · exact P1.mem _ (.head _)
    · refine P1.mem _ (.tail _ ?_)
      rcases List.mem_cons.mp hp with rfl | hp
      · exact P2.mem _ (.head _)
      · refine P2.mem _ (.tail _ ?_)
        rcases List.mem_cons.mp hp with rfl | hp
        · exact P3.mem _ (.head _)
        · refine P3.mem _ (.tail _ ?_)
          rcases List.mem_cons.mp hp with rfl | hp
          · exact P4.mem _ (.head _)
          · refine P4.mem _ (.tail _ ?_)
            rcases List.mem_cons.mp hp with rfl | hp
            · exact P5.mem _ (.head _)
            · exact P5.mem _ (.tail _ (P6.mem _ hp))
  · refine ⟨_, _, _, _, _, _, _, _, _, _, _, (⟨ok, oj, ofa, oda, at'.n1, at'.n2, at'.n3, fun p hp => hr _ (at'.kp p hp), at'.hr.mono hr, at'.ht.mono hr, oq1, oq2, oq3, dts_snoc (.tuple ha (.cons (.str _ _) (.cons (d1.mono hD) .nil))) (at'.df.mono hr), FdsD.snoc at'.hf, by simp [at'.len], ?_⟩ : InAt j fa da q1 q2 q3 n keep ρ t vr vi ds₀ (k + 1) x tx y ty (fs ++ [.ref a]) nf (es ++ [w2]) ne _ _ rest), rfl⟩
    rw [dueL_snoc, ← List.append_assoc]
    exact dts_snoc (d2.mono hD) (at'.de.mono hr)
/-- the outer turn's end -/
theorem out_next {q : Addr × Obj} {n3 : List (Addr × Obj)} {L I : Addr} {oI : Obj} {kv : List (Str × Value)} {keep keep₂ : List (Addr × Obj)} {s₁ : Shared} {h' : Heap} {tk : Nat} {m' : Str → Option Value} {news n0 n1 n2 rest r₀ r₁ : List (Addr × Obj)} {k k₂ : Nat} {x₁ y₁ : Int} {tx₁ ty₁ : Tok} {nv₁ ne₁ : Nat} {x₂ y₂ : Int} {tx₂ ty₂ : Tok} {nf₂ ne₂ : Nat}
    {vs es es₂ fs : List Value} {vd fd : List Dat} {fss : List (List Fd)} {fds : List Fd} {v1 : Value} {a : Addr} {st st' : Str} {sk sk' : Tok} {na : Nat}
    (at' : OutAt j va da q n keep ρ t vr vi k x₁ tx₁ y₁ ty₁ vs nv₁ es ne₁ vd fss r₀) {oI' : Obj} (ai : InAt j fa da (I, oI') (va, listOf (List.toArray vs) nv₁) q n keep₂ ρ t vr vi (dueV ρ t fss) k₂ x₂ tx₂ y₂ ty₂ fs nf₂ es₂ ne₂ fd fds r₁) (hk₂ : k₂ ≤ 2)
    (F : Fr h₀ L h' m') (N : News h₀ L h' news) (hk : KvIn m' kv)
    (P0 : Pull (I, oI) news n0) (P1 : Pull (j, jarO x tx y ty n) n0 n1) (P2 : Pull (va, listOf (List.toArray (vs ++ [v1])) nv) n1 n2) (P3 : Pull (da, listOf (List.toArray es₂) ne) n2 n3) (P4 : Pull q n3 rest)
    (hv : v1 = .ref a) (ha : (a, tupO [.str st sk, .str st' sk', .ref fa] na) ∈ rest) (hfa : (fa, listOf (List.toArray fs) nf) ∈ rest) (ok : JarOk x y)
    (oI' : Off I rest) (oq : Off q.1 rest) (oj : Off j rest) (ova : Off va rest) (oda : Off da rest) (nj : @Ne Nat j I) (nva : @Ne Nat va I) (nda : @Ne Nat da I) (nq : @Ne Nat q.1 I) (hr : ∀ p ∈ r₀, p ∈ rest) (hr2 : ∀ p ∈ r₁, p ∈ rest) :
    LedPost h₀ L I oI kv (Jout j va da q n keep ρ t vr vi (k + 1)) s₁ Q .next { s₁ with heap := h', toks := tk } := by
  subst hv
  refine led_next (inLed j va da q n x tx y ty (vs ++ [.ref a]) nv es₂ ne rest) F N (P0.mem _ (.head _)) (fun p hp => P0.mem _ (.tail _ ?_)) (off_cons nj (off_cons nva (off_cons nda (off_cons nq oI')))) hk ?_
  · rcases List.mem_cons.mp hp with rfl | hp
    · exact P1.mem _ (.head _)
    · refine P1.mem _ (.tail _ ?_)
      rcases List.mem_cons.mp hp with rfl | hp
      · exact P2.mem _ (.head _)
      · refine P2.mem _ (.tail _ ?_)
        rcases List.mem_cons.mp hp with rfl | hp
        · exact P3.mem _ (.head _)
        · exact P3.mem _ (.tail _ (P4.mem _ hp))
  · refine ⟨_, _, _, _, _, _, _, _, _, _, _, (⟨ok, oj, ova, oda, at'.n1, at'.n2, at'.n3, fun p hp => hr _ (at'.kp p hp), at'.hr.mono hr, at'.ht.mono hr, oq, dts_snoc (.tuple ha (.cons (.str _ _) (.cons (.str _ _) (.cons (.list hfa (ai.df.mono hr2)) .nil)))) (at'.dv.mono hr), VarsD.snoc ai.hf (by rw [ai.len]; exact hk₂) at'.hv, by simp [at'.len], ?_⟩ : OutAt j va da q n keep ρ t vr vi (k + 1) x tx y ty (vs ++ [.ref a]) nv es₂ ne _ (fss ++ [fds]) rest), rfl⟩
    rw [dueV_snoc]
    exact ai.de.mono hr2
end
end Mine
namespace Mine
example : True := by
  w_top off
  k_with_none
  trivial

def PNe (p : Addr) (D : List (Addr × Obj)) : Prop := ∀ a, Off a D → @Ne Nat p a
theorem pne_of {p : Addr} {o : Obj} {D : List (Addr × Obj)} (h : (p, o) ∈ D) : PNe p D := fun _ k => k _ h
theorem pne {p a : Addr} {D : List (Addr × Obj)} (h : PNe p D) (k : Off a D) : @Ne Nat p a := h a k
section
variable {w : World} {loose : List Str} {mean : ExcName → Option Value} {mg mb : Str → Option Value}
def WPost (news : List (Addr × Obj)) (r : Value) (l : List (Addr × Obj)) : Prop :=
  ∃ wa dx es k ad o, r = .ref wa ∧ (∀ p ∈ news, p ∈ l) ∧ (wa, instObj 157 dx) ∈ l ∧ (dx, dictOf es k) ∈ l ∧ getL (Str.ofString "adts") es = some (some (.ref ad)) ∧ (ad, o) ∈ l ∧ o.IsDictOf (PySem.strKind PySem.Challenge.rw_xm0591_01.row.prog w) ([] : List (Str × Value)) ∧ (ad == sysModules) = false ∧ AllLt dx news ∧ @LT.lt Nat _ dx wa ∧ @LT.lt Nat _ wa ad
example : True := by
  k_with_none
  k_with "w_kqd_all" =>
   (with_reducible first
   | assumption
   | exact off_nil
   | (refine' off_cons ?z29 ?z39; (case z29 => k_dflt k_ne); (case z39 => kqd_all))
   | (refine' off_app ?_ ?_ <;> kqd_all)
   | (refine' off_sub ?z8 ?z7; (case z8 => assumption); (case z7 => k_dflt tb_start))
   | (refine' off_above ?z8 ?z7; (case z8 => assumption); (case z7 => k_dflt k_mem))
   | (refine' off_lt ?z8 ?z33 ?z7; (case z8 => assumption); (case z33 => k_dflt ((show (_ : Nat) ≤ _); omega)); (case z7 => k_dflt tb_start))
   | (refine' off_o3a ?z8 ?z7; (case z8 => assumption); (case z7 => k_dflt tb_start))
   | (refine' off_o3b ?z8 ?z7; (case z8 => assumption); (case z7 => k_dflt tb_start))
   | (refine' off_o3c ?z8 ?z7; (case z8 => assumption); (case z7 => k_dflt tb_start))
   | (refine' off_o1 ?z8 ?z7; (case z8 => assumption); (case z7 => k_dflt tb_start))
   | fail)
  k_with "w_k_ne" =>
   (first
   | with_reducible assumption
   | (refine' ne_all ?z6 ?z36; (case z6 => with_reducible assumption); (case z36 => k_mem))
   | (refine' ne_all2 ?z6 ?z36; (case z6 => with_reducible assumption); (case z36 => k_mem))
   | (refine' Ne.symm ?z6; (case z6 => with_reducible assumption))
   | (refine' ne_o3a ?z6 ?z36; (case z6 => with_reducible assumption); (case z36 => k_mem))
   | (refine' ne_o3b ?z6 ?z36; (case z6 => with_reducible assumption); (case z36 => k_mem))
   | (refine' ne_o3c ?z6 ?z36; (case z6 => with_reducible assumption); (case z36 => k_mem))
   | (refine' ne_o3a' ?z6 ?z36; (case z6 => with_reducible assumption); (case z36 => k_mem))
   | (refine' ne_o3b' ?z6 ?z36; (case z6 => with_reducible assumption); (case z36 => k_mem))
   | (refine' ne_o3c' ?z6 ?z36; (case z6 => with_reducible assumption); (case z36 => k_mem))
   | (refine' ne_o1 ?z6 ?z36; (case z6 => with_reducible assumption); (case z36 => k_mem))
   | (refine' ne_o1' ?z6 ?z36; (case z6 => with_reducible assumption); (case z36 => k_mem))
   | (refine' ne_of_lt' ?z6; (case z6 => with_reducible assumption))
   | (refine' ne_of_gt' ?z6; (case z6 => with_reducible assumption))
   | (refine' ne_tr ?z41 ?z6 ?z36; (case z41 | z6 => with_reducible assumption); (case z36 => k_mem))
   | (refine' ne_trs ?z41 ?z6 ?z36; (case z41 | z6 => with_reducible assumption); (case z36 => k_mem))
   | (refine' ne_tr2 ?z41 ?z26 ?z6 ?z36; (case z41 | z26 | z6 => with_reducible assumption); (case z36 => k_mem))
   | (refine' ne_tr2s ?z41 ?z26 ?z6 ?z36; (case z41 | z26 | z6 => with_reducible assumption); (case z36 => k_mem))
   | (with_reducible refine' ne_up1 ?z6 ?z36; (case z6 => assumption); (case z36 => k_dflt k_mem))
   | (with_reducible refine' ne_up2 ?z6 ?z36; (case z6 => assumption); (case z36 => k_dflt k_mem))
   | (with_reducible refine' ne_up3 ?z6 ?z36; (case z6 => assumption); (case z36 => k_dflt k_mem))
   | (with_reducible refine' ne_dn1 ?z6 ?z36; (case z6 => assumption); (case z36 => k_dflt k_mem))
   | (with_reducible refine' ne_dn2 ?z6 ?z36; (case z6 => assumption); (case z36 => k_dflt k_mem))
   | (with_reducible refine' ne_dn3 ?z6 ?z36; (case z6 => assumption); (case z36 => k_dflt k_mem))
   | fail)
  k_with "subscriptTail" =>
   ((k_here; (with_reducible show wpAny _ _ (subscriptTail _ _ (Value.ref _) (Value.int _ _)) _ _ _); k_dflt (first
   | (refine' my_tup ?Z0 ?Z1 ?Z2 ?Z3 ?Z4 ?Z5 ?_; (case Z0 => k_asm); (case Z1 => k_mem); (case Z2 | Z3 => decide); (case Z4 | Z5 => rfl); k_whole)
   | (refine' my_lst ?Z0 ?Z1 ?Z2 ?Z3 ?Z5 ?_; (case Z0 => k_asm); (case Z1 => k_mem); (case Z2 | Z3 => decide); (case Z5 => rfl); k_whole))))
  k_with "eval Name" =>
   ((k_here; k_dflt (refine' nameX_L ?Z6 ?Z7 ?_; (case Z6 => k_asm); (case Z7 => exact rfl); k_whole)))
  k_with "w_kqd_all" =>
   (first
   | with_reducible assumption
   | ((with_reducible refine off_cons ?_ ?_); k_ne; kqd_all)
   | ((with_reducible refine off_app ?_ ?_); kqd_all; kqd_all)
   | exact off_sub (by with_reducible assumption) (by tb_start)
   | exact off_above (by with_reducible assumption) (by k_mem)
   | exact off_lt (by with_reducible assumption) (by (show (_ : Nat) ≤ _); omega) (by tb_start)
   | exact off_nil
   | fail "kqd_all: not off")
  k_with "w_k_all" =>
   (first | assumption | ((show Off _ _); kqd_all))
  k_with "w_k_ne" =>
   (first
   | with_reducible assumption
   | (refine' Ne.symm ?Z8; (case Z8 => with_reducible assumption))
   | (refine' pne ?Z8 ?Z9; (case Z8 => with_reducible assumption); (case Z9 => kqd_all))
   | (refine' Ne.symm (pne ?Z8 ?Z9); (case Z8 => with_reducible assumption); (case Z9 => kqd_all))
   | (refine neN ?_; (try dsimp only); omega))
  k_with "w_kqd_all" =>
   (first
   | with_reducible assumption
   | ((with_reducible refine off_cons ?_ ?_); k_ne; kqd_all)
   | ((with_reducible refine off_app ?_ ?_); kqd_all; kqd_all)
   | (refine' off_above ?Za ?Zb; (case Za => with_reducible assumption); (case Zb => k_mem))
   | (refine' off_lt ?Za (Nat.le_refl _) ?Zb; (case Za => with_reducible assumption); (case Zb => tb_start))
   | (refine' off_sub ?Za ?Zb; (case Za => with_reducible assumption); (case Zb => tb_start))
   | exact off_nil
   | (refine' off_lt ?Za ?Zc ?Zb; (case Za => with_reducible assumption); (case Zc => (show (_ : Nat) ≤ _; omega)); (case Zb => tb_start))
   | fail "kqd_all: not off")
  k_with "w_k_room" =>
   (ktr_room)
  k_with "execs cons" =>
   (k_here; (try k_gentoks); (first | ((fail_if_success (fail_if_success k_fold)); (with_reducible refine' ec_let2 ?_); intro q0 e0 K0) | ((with_reducible refine' ec_let ?_); intro K0)); (all_goals (try ((with_reducible rename Fr _ _ _ (fun _ => ite _ _ _) => f9); refine fr_let f9 ?_; clear f9; intro m0 F0))); (try dsimp only))
  k_with "eval Constant str" =>
   (with_reducible refine' con_str ?_)
  k_with "eval Constant int" =>
   (with_reducible refine' con_int ?_)
  k_with "subscriptTail Name Constant ref int" =>
   (k_extra "subscriptTail")
  k_with "callWith ref" =>
   (k_here; (with_reducible show wpAny _ _ (callWith _ (Value.ref _) _ (backTo _ (starEach (_ :: _) _)) []) _ _ _); k_dflt (refine' callWith_K ?zc1 ?zc2 ?_; (case zc1 => with_reducible assumption); (case zc2 => k_is); k_whole))
  k_with "callWith ref" =>
   (k_here; (with_reducible show wpAny _ _ (callWith _ (Value.ref _) _ (backTo _ (starEach [] _)) []) _ _ _); k_dflt (refine' callWith_K0 ?zc1 ?zc2 ?_; (case zc1 => exact Frag.In.keeps (by with_reducible assumption) (Fr.keep (by k_asm))); (case zc2 => k_is); k_whole))
  k_with "eval Name" =>
   (k_here; k_dflt (first
   | (refine' nameX_L ?zn1 ?zn2 ?_ ?zn3 ?zn4; (case zn3 | zn4 => rfl); (case zn1 => k_asm); (case zn2 => rfl); k_whole)
   | (refine' nameX_K ?zn1 ?zn2 ?zn3 ?zn4 ?_ ?zn5 ?zn6; (case zn5 | zn6 => rfl); (case zn1 | zn2 | zn3 => k_asm); (case zn4 => k_is); k_whole)
   | (refine' nameX_B ?zn1 ?zn2 ?zn3 ?zn4 ?zn5 ?zn6 ?_ ?zn7 ?zn8; (case zn7 | zn8 => rfl); (case zn1 | zn2 | zn3 => k_asm); (case zn4 => k_is); (case zn5 => boot_fast); (case zn6 => decide); k_whole)
   | fail))
  k_with "newTuple" =>
   (k_here; k_dflt (refine' tup_let ?z30 ?z4 ?z0 ?_; (case z30 | z4 => k_asm); (case z0 => kmk_size)); intro D' h' e' Y' F' N' l1; (try k_sweep))
  k_with "newList" =>
   (k_here; k_dflt (refine' lst_let ?z30 ?z4 ?z0 ?_; (case z30 | z4 => k_asm); (case z0 => kmk_size)); intro D' h' e' Y' F' N' l1; (try k_sweep))
  k_with "binaryOp Add ref ref" =>
   (k_here; (with_reducible show wpAny _ _ (binaryOp Operator.Add (Value.ref _) (Value.ref _)) _ _ _); k_dflt (refine' kde_addT ?z1 ?z27 ?z25 ?z2 ?z18 ?z23 ?z21 ?z24 ?_; (case z1 | z27 => k_asm); (case z25 | z2 => exact News.isTup (by k_asm) (by k_mem)); (case z18 | z23 => exact List.cons_ne_nil _ _); (case z21 => exact Nat.le_of_ble_eq_true rfl); (case z24 => kun_lit)); intro D' h' F' N' l1; (replace l1 := allLt_of l1); (try k_sweep))
  k_with "k_up" =>
   (first
   | with_reducible exact hp
   | ((with_reducible refine List.mem_cons_of_mem _ ?_); k_extra "k_up")
   | ((with_reducible refine List.mem_append_left _ ?_); k_extra "k_up")
   | ((with_reducible refine List.mem_append_right _ ?_); k_extra "k_up")
   | fail)
  k_with "w_tb_start" =>
   (first
   | exact sub_nil
   | (intro p hp; k_extra "k_up")
   | (refine' sub_trans ?z28 ?z13; (case z28 => with_reducible assumption); (case z13 => (intro p hp; k_extra "k_up")))
   | ((with_reducible refine sub_app ?_ ?_) <;> tb_start)
   | ((with_reducible refine sub_cons ?_ ?_); k_mem; tb_start)
   | fail)
  k_with "w_k_mem" =>
   (focus ((repeat (with_reducible first | exact List.mem_cons_self | refine List.mem_cons_of_mem _ ?_ | refine List.mem_append_left _ ?_)); done))
  k_with "w_kqd_sub" =>
   (with_reducible first
   | exact gdJ_nil
   | (refine' gdJ_app ?_ ?_ <;> kqd_sub)
   | (refine' gd_app ?_ ?_ <;> kqd_sub)
   | (refine' gdJ_new ?z32 ?z12 ?z22 ?z9; (case z12 | z22 => assumption); (case z32 | z9 => k_dflt tb_start))
   | (refine' gd_new ?z32 ?z12 ?z9; (case z12 => assumption); (case z32 | z9 => k_dflt tb_start))
   | (refine' gd_cons0 ?z15 ?z10; (case z15 => first | (refine' gd_had ?z31 ?z38; (case z38 => assumption); (case z31 => k_dflt k_mem)) | (refine' gd_one ?z31 ?z38 ?z37; (case z38 => assumption); (case z31 => k_dflt k_mem); (case z37 => k_dflt tb_start))); (case z10 => kqd_sub))
   | (refine' gdJ_old ?z32 ?z9; (case z9 | z32 => k_dflt tb_start))
   | (refine' gd_old ?z32 ?z9; (case z9 | z32 => k_dflt tb_start))
   | fail)
  k_with "w_tb_rel" =>
   (with_reducible first
   | exact DatP.none
   | exact DatP.bool _
   | exact DatP.int _ _
   | exact DatP.str _ _
   | exact DatPs.nil
   | (refine' DatPs.cons ?_ ?_ <;> first | ((with_reducible show DatP _ _ _); tb_rel) | ((with_reducible show DatPs _ _ _); tb_rel) | ((with_reducible show Dat); skip) | ((with_reducible show List Dat); skip))
   | (refine' datP_in ?z5 ?z37; (case z5 => assumption); (case z37 => k_dflt kqd_sub))
   | (refine' datP_gdJ ?z31 ?z34 ?z35; (case z31 => k_dflt k_mem); (case z34 => first | (refine' gdJ_had ?z31 ?z38; (case z38 => assumption); (case z31 => k_dflt k_mem)) | (refine' gdJ_one ?z31 ?z38 ?z37 ?z19; (case z38 => assumption); (case z31 => k_dflt k_mem); (case z37 => k_dflt tb_start); (case z19 => k_dflt (k_extra "k_ltA")))); (case z35 => tb_rel))
   | (refine' datP_gd ?z31 ?z34 ?z35; (case z31 => k_dflt k_mem); (case z34 => first | (refine' gd_had ?z31 ?z38; (case z38 => assumption); (case z31 => k_dflt k_mem)) | (refine' gd_one ?z31 ?z38 ?z37; (case z38 => assumption); (case z31 => k_dflt k_mem); (case z37 => k_dflt tb_start))); (case z35 => tb_rel))
   | fail)
  k_with "w_lcg_off" =>
   (with_reducible first
   | assumption
   | exact off3_nil
   | (refine' off3_app ?_ ?_ <;> lcg_off)
   | (refine' off3_any ?z40 ?z14 ?z3; (case z40 => assumption); (case z14 => k_dflt k_mem); (case z3 => lcg_off))
   | (refine' off3_cons ⟨?z42, ?z16, ?z17⟩ ?z3; (case z42 | z16 | z17 => k_dflt k_ne); (case z3 => lcg_off))
   | (refine' off3_above ?z40 ?z42 ?z16 ?z17; (case z40 => assumption); (case z42 | z16 | z17 => k_dflt k_mem))
   | (refine' off3_sub ?z40 ?z3; (case z40 => assumption); (case z3 => k_dflt tb_start))
   | fail)
  k_with "w_ktr_room" =>
   ((try simp only [depth_under_make, depth_under_kw, depth_in1, depth_deeper, depth_caller]); (try dsimp only [ktrTop]); with_reducible first
   | (refine' room2 ?z11 ?z20; (case z11 => assumption); (case z20 => k_dflt (first | exact Nat.le_of_ble_eq_true rfl | omega)))
   | (refine' room1 ?z11 ?z20; (case z11 => assumption); (case z20 => k_dflt (first | exact Nat.le_of_ble_eq_true rfl | omega)))
   | (refine' room0 ?z11; (case z11 => assumption))
   | fail)
  k_with "w_ktr_units" =>
   ((try simp only [units_in1, units_deeper, Around.mark_units, units_caller]); (try dsimp only [ktrTop]); with_reducible first
   | (refine' unit2 ?z11 ?z20; (case z11 => assumption); (case z20 => k_dflt (first | exact Nat.le_of_ble_eq_true rfl | omega)))
   | (refine' unit1 ?z11 ?z20; (case z11 => assumption); (case z20 => k_dflt (first | exact Nat.le_of_ble_eq_true rfl | omega)))
   | fail)
  k_with "k_ltA" =>
   (first
   | (refine' lt_all ?z6 ?z36; (case z6 => with_reducible assumption); (case z36 => k_mem))
   | (refine ltN ?_; omega))
  trivial
theorem wpost {news l : List (Addr × Obj)} {wa dx ad : Addr} {es : List DictEntry} {k : Nat} {o : Obj} (h1 : ∀ p ∈ news, p ∈ l) (h2 : (wa, instObj 157 dx) ∈ l) (h3 : (dx, dictOf es k) ∈ l) (h4 : getL (Str.ofString "adts") es = some (some (.ref ad))) (h5 : (ad, o) ∈ l) (h6 : o.IsDictOf (PySem.strKind PySem.Challenge.rw_xm0591_01.row.prog w) ([] : List (Str × Value))) (h7 : (ad == sysModules) = false) (h8 : AllLt dx news) (h9 : @LT.lt Nat _ dx wa) (h10 : @LT.lt Nat _ wa ad) : WPost (w := w) news (.ref wa) l := ⟨wa, dx, es, k, ad, o, rfl, h1, h2, h3, h4, h5, h6, h7, h8, h9, h10⟩
theorem world_ok {news : List (Addr × Obj)} : CallOk PySem.Challenge.rw_xm0591_01.row.prog w (hd.heap_1 w.params) topProg loose mean mg mb 6 157 [] news (WPost (w := w) news) := by
  unfold CallOk
  intro dp un gd cn cs a' ccd cl outer A₀ base h₀ L m s Q E B F X N T hk hdp hun hret
  k_dflt (refine' call_cls ?k1 ?k2 ?k3 ?k4 ?k5 ?k6 ?_; (case k1 => k_asm); (case k2 => k_asm); (case k3 => k_asm); (case k4 => k_is); (case k5 => k_is); (case k6 => k_is); k_whole)
  intro x' d' h' F' N' l1 l2
  have o1 : Off d' news := fun p hp => Nat.ne_of_lt (l1 p hp)
  have a1 : AllLt d' news := allLt_of l1
  have o2 : Off x' news := fun p hp => Nat.ne_of_lt (Nat.lt_trans (l1 p hp) l2)
  clear l1
  k_lt2 l2
  k_dflt (refine' code_def ?k1 ?k2 ?k3 ?k4 ?k5 ?kA ?kF ?kK ?k6 ?k7 ?k8 ?k9 ?kB ?_ ?c2 ?c3 ?c4 ?c5; (case kA => exact rfl); (case kF => exact rfl); (case kK => assumption); (case k1 => k_asm); (case k2 => k_asm); (case k3 => k_asm); (case k4 => k_asm); (case k5 => k_asm); (case k6 => k_is); (case k7 => k_is); (case k8 => ktr_room); (case k9 => first | exact BindsTo.of_eq rfl | exact binds_K (by k_in) rfl (by k_is) rfl rfl rfl); (case c5 => decide); (case kB => exact locs rfl); (case c2 => exact rfl); (case c3 => exact rfl); (case c4 => exact rfl); k_whole; intro g' L' h' FG' F' N' B' X' T'; (try dsimp only); (try k_fold))
  k_steps
  (repeat (with_reducible rename _ ∧ _ => hc; (have hcl := hc.1); (have hcr := hc.2); clear hc))
  refine hret _ _ _ _ (by k_asm) (by k_asm) ?_
  refine' wpost ?c1 ?c2 ?c3 ?c4 ?c5 ?c6 ?c7 ?c8 ?c9 ?c10
  case c1 => tb_start
  case c2 => k_mem
  case c3 => k_mem
  case c4 => k_get
  case c5 => k_mem
  case c6 => with_reducible assumption
  case c7 => with_reducible assumption
  case c8 => with_reducible assumption
  case c9 => with_reducible assumption
  case c10 => exact ltN (by omega)
def APost (vrl vpl vva : Value) (news : List (Addr × Obj)) (r : Value) (l : List (Addr × Obj)) : Prop :=
  ∃ wa dx es k, r = .ref wa ∧ (∀ p ∈ news, p ∈ l) ∧ (wa, instObj 128 dx) ∈ l ∧ (dx, dictOf es k) ∈ l ∧ getL (Str.ofString "regions") es = some (some vrl) ∧ getL (Str.ofString "params") es = some (some vpl) ∧ getL (Str.ofString "variants") es = some (some vva) ∧ AllLt dx news ∧ @LT.lt Nat _ dx wa
theorem apost {vrl vpl vva : Value} {news l : List (Addr × Obj)} {wa dx : Addr} {es : List DictEntry} {k : Nat} (h1 : ∀ p ∈ news, p ∈ l) (h2 : (wa, instObj 128 dx) ∈ l) (h3 : (dx, dictOf es k) ∈ l) (h4 : getL (Str.ofString "regions") es = some (some vrl)) (h5 : getL (Str.ofString "params") es = some (some vpl)) (h6 : getL (Str.ofString "variants") es = some (some vva)) (h8 : AllLt dx news) (h9 : @LT.lt Nat _ dx wa) : APost vrl vpl vva news (.ref wa) l := ⟨wa, dx, es, k, rfl, h1, h2, h3, h4, h5, h6, h8, h9⟩
theorem adt_ok {a b c : Addr} {x : Str} {t : Tok} {news : List (Addr × Obj)} : CallOk PySem.Challenge.rw_xm0591_01.row.prog w (hd.heap_1 w.params) topProg loose mean mg mb 6 128 [.str x t, .ref a, .ref b, .ref c, .bool true] news (APost (.ref a) (.ref b) (.ref c) news) := by
  unfold CallOk
  intro dp un gd cn cs a' ccd cl outer A₀ base h₀ L m s Q E B F X N T hk hdp hun hret
  k_dflt (refine' call_cls ?k1 ?k2 ?k3 ?k4 ?k5 ?k6 ?_; (case k1 => k_asm); (case k2 => k_asm); (case k3 => k_asm); (case k4 => k_is); (case k5 => k_is); (case k6 => k_is); k_whole)
  intro x' d' h' F' N' l1 l2
  have o1 : Off d' news := fun p hp => Nat.ne_of_lt (l1 p hp)
  have a1 : AllLt d' news := allLt_of l1
  have o2 : Off x' news := fun p hp => Nat.ne_of_lt (Nat.lt_trans (l1 p hp) l2)
  clear l1
  k_lt2 l2
  k_dflt (refine' code_def ?k1 ?k2 ?k3 ?k4 ?k5 ?kA ?kF ?kK ?k6 ?k7 ?k8 ?k9 ?kB ?_ ?c2 ?c3 ?c4 ?c5; (case kA => exact rfl); (case kF => exact rfl); (case kK => assumption); (case k1 => k_asm); (case k2 => k_asm); (case k3 => k_asm); (case k4 => k_asm); (case k5 => k_asm); (case k6 => k_is); (case k7 => k_is); (case k8 => ktr_room); (case k9 => first | exact BindsTo.of_eq rfl | exact binds_K (by k_in) rfl (by k_is) rfl rfl rfl); (case c5 => decide); (case kB => exact locs rfl); (case c2 => exact rfl); (case c3 => exact rfl); (case c4 => exact rfl); k_whole; intro g' L' h' FG' F' N' B' X' T'; (try dsimp only); (try k_fold))
  k_steps
  (repeat (with_reducible rename _ ∧ _ => hc; (have hcl := hc.1); (have hcr := hc.2); clear hc))
  refine hret _ _ _ _ (by k_asm) (by k_asm) ?_
  refine' apost ?c1 ?c2 ?c3 ?c4 ?c5 ?c6 ?c7 ?c8
  case c1 => tb_start
  case c2 => k_mem
  case c3 => k_mem
  case c4 => k_get
  case c5 => k_get
  case c6 => k_get
  case c7 => with_reducible assumption
  case c8 => with_reducible assumption
theorem world_use {news : List (Addr × Obj)} {dp un : Nat} {gd : Option (List Code)} {cn : Str} {cs : Scope} {a : Addr} {ccd : Value} {cl : List (Str × Addr)} {outer : List Env} {A₀ : Around} {base h₀ : Heap} {L : Addr} {m : Str → Option Value} {hS : Heap} {gS : Array GenState} {dS : Drawn} {tS : Nat} {oS : OsState} {Q E : Value → Shared → Prop}
  (B : Below A₀ base outer h₀) (F : Fr h₀ L hS m) (X : (hd.heap_1 w.params).In h₀) (N : News h₀ L hS news) (T : Top topProg loose mean mg mb h₀) (hk : cs.kind = .function) (hr : dp + 6 < recursionLimit) (hu : un + 8 * 6 < cLine)
  (ret : ∀ wa dx es k ad o h' tk', Fr h₀ L h' m → News h₀ L h' ((ad, o) :: (wa, instObj 157 dx) :: (dx, dictOf es k) :: news) → getL (Str.ofString "adts") es = some (some (.ref ad)) → o.IsDictOf (PySem.strKind PySem.Challenge.rw_xm0591_01.row.prog w) ([] : List (Str × Value)) → (ad == sysModules) = false → (∀ p ∈ news, p.1 < dx) → @LT.lt Nat _ dx wa → @LT.lt Nat _ wa ad → Q (.ref wa) ⟨h', gS, dS, tk', oS⟩) : wpAny (model PySem.Challenge.rw_xm0591_01.row.prog w) (ktrTop dp un gd cn cs L a ccd cl outer) (call (.ref 157) []) Q E ⟨hS, gS, dS, tS, oS⟩ :=
  world_ok _ _ _ _ _ _ _ _ _ _ _ _ _ _ _ _ _ B F X N T hk hr hu fun r l h' tk' F' N' hp => by
    obtain ⟨wa, dx, es, k, ad, o, rfl, hs, h1, h2, hg, h3, hd, lo, al, l1, l2⟩ := hp
    exact ret wa dx es k ad o h' tk' F' (News.sub N' (sub_cons h3 (sub_cons h1 (sub_cons h2 hs)))) hg hd lo (fun p hp => ktn_ltOf al p hp) l1 l2
theorem adt_use {a₁ b₁ c₁ : Addr} {x : Str} {t : Tok} {news : List (Addr × Obj)} {dp un : Nat} {gd : Option (List Code)} {cn : Str} {cs : Scope} {a : Addr} {ccd : Value} {cl : List (Str × Addr)} {outer : List Env} {A₀ : Around} {base h₀ : Heap} {L : Addr} {m : Str → Option Value} {hS : Heap} {gS : Array GenState} {dS : Drawn} {tS : Nat} {oS : OsState} {Q E : Value → Shared → Prop}
  (B : Below A₀ base outer h₀) (F : Fr h₀ L hS m) (X : (hd.heap_1 w.params).In h₀) (N : News h₀ L hS news) (T : Top topProg loose mean mg mb h₀) (hk : cs.kind = .function) (hr : dp + 6 < recursionLimit) (hu : un + 8 * 6 < cLine)
  (ret : ∀ wa dx es k h' tk', Fr h₀ L h' m → News h₀ L h' ((wa, instObj 128 dx) :: (dx, dictOf es k) :: news) → getL (Str.ofString "regions") es = some (some (.ref a₁)) → getL (Str.ofString "params") es = some (some (.ref b₁)) → getL (Str.ofString "variants") es = some (some (.ref c₁)) → (∀ p ∈ news, p.1 < dx) → @LT.lt Nat _ dx wa → Q (.ref wa) ⟨h', gS, dS, tk', oS⟩) : wpAny (model PySem.Challenge.rw_xm0591_01.row.prog w) (ktrTop dp un gd cn cs L a ccd cl outer) (call (.ref 128) [.str x t, .ref a₁, .ref b₁, .ref c₁, .bool true]) Q E ⟨hS, gS, dS, tS, oS⟩ :=
  adt_ok _ _ _ _ _ _ _ _ _ _ _ _ _ _ _ _ _ B F X N T hk hr hu fun r l h' tk' F' N' hp => by
    obtain ⟨wa, dx, es, k, rfl, hs, h1, h2, g1, g2, g3, al, l1⟩ := hp
    exact ret wa dx es k h' tk' F' (News.sub N' (sub_cons h1 (sub_cons h2 hs))) g1 g2 g3 (fun p hp => ktn_ltOf al p hp) l1
end
/-! a dict under text keys, its values anything -/
section
variable {prog : Program} {w : World} {A : Around} {E : Value → Shared → Prop} {s : Shared} {h₀ : Heap} {L d : Addr} {m : Str → Option Value} {news rest : List (Addr × Obj)} {o : Obj} {kvs : List (Str × Value)} {x : Str} {t : Tok} {v : Value}
example : True := by
  k_with_none
  trivial
theorem store_use {Q : Unit → Shared → Prop} (F : Fr h₀ L s.heap m) (N : News h₀ L s.heap news) (P : Pull (d, o) news rest) (off : Off d rest) (hd : o.IsDictOf (PySem.strKind prog w) kvs) (hsz : kvs.length ≤ 16)
    (ret : ∀ h' tk' o', Fr h₀ L h' m → News h₀ L h' ((d, o') :: rest) → o'.IsDictOf (PySem.strKind prog w) (stored kvs x v) → Q () { s with heap := h', toks := tk' }) : wpAny (model prog w) A (setItem (.ref d) (.str x t) v) Q E s := by
  have N1 := News.sub N P.mem
  have z := N1 _ (.head _)
  refine wpAny_setItem_pairs (strKind_is _ _ _ _) (Heap.dictOf_iff.mpr ⟨o, z.1, hd⟩) (fun h' D hs => ?_) (by rw [sizeLine_eq]; omega)
  obtain ⟨o', ho', hd'⟩ := Heap.dictOf_iff.mp D
  exact ret h' _ o' (F.change hs z.2.1 z.2.2) (news_set (pre := []) N1 (fun _ h => nomatch h) off hs ho') hd'
end
end Mine
namespace Mine
example : True := by
  w_top off
  k_with_none
  trivial
/-! dict(zip(a list of one text, a tuple of one)) -/
section
variable {prog : Program} {w : World} {A : Around} {E : Value → Shared → Prop} {s : Shared}
theorem dz_alive {M : Model} {a : Addr} {Q : Option Obj → Shared → Prop} (h : Q (s.heap.get? a) s) : wpAny M A (loadIfAlive a) Q E s := fun Γ p _ => by
  unfold loadIfAlive
  rw [Sem.wp_loadIfAlive]
  exact h
theorem dz_next {it t : Addr} {i : Nat} {items : Array Value} {x : Value} {Q : Value → Shared → Prop} (hit : s.heap.IsTupleIter it t i) (hl : s.heap.IsTuple t items) (hx : items[i]? = some x)
    (hQ : ∀ h', h'.IsTupleIter it t (i + 1) → Heap.SameBut it s.heap h' → Q x { s with heap := h' }) :
    wpAny (model prog w) A (Builtin.SmallTypes.nextOf (.ref it)) Q E s := by
  obtain ⟨o, ho, hc, hd⟩ := id hit
  obtain ⟨ol, hol, _, nl, hdl⟩ := hl
  unfold Builtin.SmallTypes.nextOf
  refine wpAny_bind (wpAny_callSpecial?_slot (name := Str.ofString "__next__") hit.typeIs PySem.F.slot_tuple_iterator_next
    (wpAny_call_entry PySem.F.slot_tuple_iterator_next hit.typeIs PySem.F.entry_tuple_iterator_next ?_ (PySem.F.args_tuple_iterator_next_1 _)))
  show wpAny _ _ (field (.ref it) 0 >>= _) _ _ s
  refine wpAny_bind (wpAny_field ho hd (x := .ref t) rfl ?_)
  show wpAny _ _ (if (Value.ref t == Value.none) = true then _ else _) _ _ s
  rw [if_neg (show ¬ ((Value.ref t == Value.none) = true) from Bool.false_ne_true)]
  show wpAny _ _ (field (.ref it) 1 >>= _) _ _ s
  refine wpAny_bind (wpAny_field ho hd (x := .int i 0) rfl ?_)
  show wpAny _ _ (seqItems? (.ref t) >>= _) _ _ s
  refine wpAny_bind (wpAny_seqItems hol hdl ?_)
  simp only [Int.toNat_natCast, hx]
  refine wpAny_bind (wpAny_setField ho hd (by simp) (wpAny_pure ⟨x, rfl, wpAny_pure (hQ _ ?_ (Heap.SameBut.update ..))⟩))
  exact ⟨_, Heap.get?_update_self _ ho (Obj.isFreed_of_fields (Obj.data_mapFields hd _)), (Obj.cls_mapFields ..).trans hc, by
    rw [Obj.data_mapFields hd]; simp [rawInt]⟩
theorem dz_tup_at {h h' : Heap} {a : Addr} {items : Array Value} (x : h.IsTuple a items) (k : ∀ o, h.get? a = some o → h'.get? a = some o) : h'.IsTuple a items :=
  let ⟨o, ho, r⟩ := x; ⟨o, k o ho, r⟩
theorem dz_it_at {h h' : Heap} {a t : Addr} {i : Nat} (x : h.IsTupleIter a t i) (k : ∀ o, h.get? a = some o → h'.get? a = some o) : h'.IsTupleIter a t i :=
  let ⟨o, ho, r⟩ := x; ⟨o, k o ho, r⟩
/-- the first item of a zip of a list and a tuple -/
theorem dz_item {z TI TO i1 i2 l1 l2 : Addr} {xs ys : Array Value} {x y a b : Value} {Q : Option Value → Shared → Prop} (D : ZipApart z TI TO i1 i2 l1 l2)
    (hz : IsZip s.heap z TI TO .none) (hTI : IsPair s.heap TI (.ref i1) (.ref i2)) (hTO : IsPair s.heap TO a b)
    (h1 : s.heap.IsListIter i1 l1 0) (h2 : s.heap.IsTupleIter i2 l2 0) (hl1 : s.heap.IsList l1 xs) (hl2 : s.heap.IsTuple l2 ys) (hx : xs[0]? = some x) (hy : ys[0]? = some y)
    (hQ : ∀ h', IsZip h' z TI TO (rawInt s.heap.objs.size) → h'.IsListIter i1 l1 1 → IsPair h' s.heap.objs.size x y → h'.objs.size = s.heap.objs.size + 1 →
      (∀ c o, c ≠ z → c ≠ TO → c ≠ i1 → c ≠ i2 → s.heap.get? c = some o → h'.get? c = some o) → Q (some (.ref s.heap.objs.size)) { s with heap := h' }) :
    wpAny (model prog w) A (pyNext (.ref z)) Q E s := by
  have hT : s.TypeIs (.ref z) "zip" := ⟨_, hz, rfl⟩
  unfold pyNext
  refine wpAny_bind (wpAny_attempt (wpAny_callSpecial?_slot (name := Str.ofString "__next__") hT PySem.F.slot_zip_next
    (wpAny_call_entry PySem.F.slot_zip_next hT PySem.F.entry_zip_next ?_ (PySem.F.args_zip_next_1 _))))
  show wpAny _ _ (field (.ref z) 2 >>= _) _ _ _
  refine wpAny_bind (wpAny_field hz rfl (x := .bool false) rfl ?_)
  show wpAny _ _ (field (.ref z) 3 >>= _) _ _ _
  refine wpAny_bind (wpAny_field hz rfl (x := .ref TI) rfl ?_)
  refine wpAny_bind (wpAny_seqItems hTI rfl ?_)
  show wpAny _ _ (Builtin.SmallTypes.ownedTupleIsFree (.ref z) >>= _) _ _ _
  refine wpAny_bind ?_
  unfold Builtin.SmallTypes.ownedTupleIsFree
  refine wpAny_bind (wpAny_field hz rfl (x := .none) rfl (wpAny_pure ?_))
  simp only [if_true]
  refine wpAny_bind (wpAny_rule ?_)
  refine wpAny_bind (wpAny_field hz rfl (x := .ref TO) rfl ?_)
  refine wpAny_bind (wpAny_setField_rec hz (by simp) fun h₁ hz₁ hs₁ => ?_)
  replace hz₁ : IsZip h₁ z TI TO .ellipsis := hz₁
  refine wpAny_bind ?_
  simp only [List.zipIdx_cons, List.zipIdx_nil, List.forIn_cons, List.forIn_nil]
  refine wpAny_bind (wpAny_bind (wpAny_onRaise ?_))
  show wpAny _ _ (Builtin.SmallTypes.nextOf (.ref i1) >>= _) _ _ _
  refine wpAny_bind (wpAny_nextOf_list_item (h1.extBut hs₁.extBut D.i1z) (hl1.extBut hs₁.extBut D.l1z) hx fun h₂ h1₂ hs₂ => wpAny_pure ?_)
  have hTO₂ : IsPair h₂ TO a b := hs₂.extBut _ _ D.TOi1 (hs₁.extBut _ _ D.TOz hTO)
  refine wpAny_bind (wpAny_seqItems hTO₂ rfl ?_)
  refine wpAny_bind (wpAny_updateSeq_pair hTO₂ fun h₃ hTO₃ hs₃ => ?_)
  replace hTO₃ : IsPair h₃ TO x b := hTO₃
  refine wpAny_bind (wpAny_letGo (wpAny_pure ?_))
  refine wpAny_bind (wpAny_bind (wpAny_onRaise ?_))
  show wpAny _ _ (Builtin.SmallTypes.nextOf (.ref i2) >>= _) _ _ _
  have i2z : i2 ≠ z := fun e => by subst e; obtain ⟨o, ho, hc, _⟩ := h2; rw [hz] at ho; cases ho; simp at hc
  refine wpAny_bind (dz_next (((h2.extBut hs₁.extBut i2z).extBut hs₂.extBut D.i12.symm).extBut hs₃.extBut D.TOi2.symm)
    (((hl2.extBut hs₁.extBut D.l2z).extBut hs₂.extBut D.l2i1).extBut hs₃.extBut D.l2TO) hy fun h₄ h2₄ hs₄ => wpAny_pure ?_)
  have hTO₄ : IsPair h₄ TO x b := hs₄.extBut _ _ D.TOi2 hTO₃
  refine wpAny_bind (wpAny_seqItems hTO₄ rfl ?_)
  refine wpAny_bind (wpAny_updateSeq_pair hTO₄ fun h₅ hTO₅ hs₅ => ?_)
  replace hTO₅ : IsPair h₅ TO x y := hTO₅
  refine wpAny_bind (wpAny_letGo (wpAny_pure (wpAny_pure ?_)))
  refine wpAny_bind (wpAny_seqItems hTO₅ rfl ?_)
  refine wpAny_bind (wpAny_newTuple ?_)
  have hsz : h₅.objs.size = s.heap.objs.size := by rw [hs₅.1, hs₄.1, hs₃.1, hs₂.1, hs₁.1]
  have hz₅ : IsZip h₅ z TI TO .ellipsis := hs₅.extBut _ _ D.TOz.symm (hs₄.extBut _ _ i2z.symm (hs₃.extBut _ _ D.TOz.symm (hs₂.extBut _ _ D.i1z.symm hz₁)))
  have hk₅ : ∀ c o, c ≠ z → c ≠ TO → c ≠ i1 → c ≠ i2 → s.heap.get? c = some o → h₅.get? c = some o := fun c o c1 c2 c3 c4 e =>
    hs₅.extBut _ _ c2 (hs₄.extBut _ _ c4 (hs₃.extBut _ _ c2 (hs₂.extBut _ _ c3 (hs₁.extBut _ _ c1 e))))
  have h1₅ : h₅.IsListIter i1 l1 (0 + 1) := ((h1₂.extBut hs₃.extBut D.TOi1.symm).extBut hs₄.extBut D.i12).extBut hs₅.extBut D.TOi1.symm
  have hzlt : z < h₅.objs.size := Heap.lt_size hz₅
  have hi1lt : i1 < h₅.objs.size := by obtain ⟨_, e, _⟩ := h1₅; exact Heap.lt_size e
  show wpAny _ _ (Builtin.SmallTypes.ownedTupleHandOut (.ref z) (.ref h₅.objs.size) >>= _) _ _ _
  refine wpAny_bind ?_
  unfold Builtin.SmallTypes.ownedTupleHandOut
  have hz₆ : IsZip (h₅.push { cls := .type "tuple", data := .seq #[x, y] }) z TI TO .ellipsis := Heap.get?_push_of_some _ hz₅
  refine wpAny_bind (wpAny_setField_rec hz₆ (by simp) fun h₇ hz₇ hs₇ => ?_)
  replace hz₇ : IsZip h₇ z TI TO (rawInt h₅.objs.size) := hz₇
  refine wpAny_setField_rec hz₇ (by simp) fun h₈ hz₈ hs₈ => ?_
  replace hz₈ : IsZip h₈ z TI TO (rawInt h₅.objs.size) := hz₈
  have up : ∀ c o, c ≠ z → h₅.get? c = some o → h₈.get? c = some o := fun c o c1 e => hs₈.extBut _ _ c1 (hs₇.extBut _ _ c1 (Heap.get?_push_of_some _ e))
  have hT₈ : IsPair h₈ h₅.objs.size x y := hs₈.extBut _ _ (Nat.ne_of_gt hzlt) (hs₇.extBut _ _ (Nat.ne_of_gt hzlt) (Heap.get?_push_size _ rfl))
  have hz8 : h₈.objs.size = h₅.objs.size + 1 := by rw [hs₈.1, hs₇.1, Heap.size_push]
  rw [hsz] at hz₈ hT₈ hz8
  refine wpAny_pure ⟨_, rfl, ?_⟩
  refine wpAny_pure ?_
  show Q (some (.ref h₅.objs.size)) _
  rw [hsz]
  exact hQ h₈ hz₈ (h1₅.at fun o e => up _ o D.i1z e) hT₈ hz8 fun c o c1 c2 c3 c4 e => up c o c1 (hk₅ c o c1 c2 c3 c4 e)
/-- its end: the tuple handed out is still held -/
theorem dz_end {z TI TO i1 i2 l1 T : Addr} {xs : Array Value} {x y : Value} {Q : Option Value → Shared → Prop} (hh : A.handled = none) (i1z : i1 ≠ z) (l1z : l1 ≠ z)
    (hz : IsZip s.heap z TI TO (rawInt T)) (hTI : IsPair s.heap TI (.ref i1) (.ref i2)) (hT : IsPair s.heap T x y)
    (h1 : s.heap.IsListIter i1 l1 1) (hl1 : s.heap.IsList l1 xs) (hend : xs[1]? = none)
    (hQ : ∀ h', (∀ c o, c ≠ z → c ≠ i1 → s.heap.get? c = some o → h'.get? c = some o) → Q none { s with heap := h' }) : wpAny (model prog w) A (pyNext (.ref z)) Q E s := by
  have hTy : s.TypeIs (.ref z) "zip" := ⟨_, hz, rfl⟩
  unfold pyNext
  refine wpAny_bind (wpAny_attempt (wpAny_callSpecial?_slot (name := Str.ofString "__next__") hTy PySem.F.slot_zip_next
    (wpAny_call_entry PySem.F.slot_zip_next hTy PySem.F.entry_zip_next ?_ (PySem.F.args_zip_next_1 _))))
  show wpAny _ _ (field (.ref z) 2 >>= _) _ _ _
  refine wpAny_bind (wpAny_field hz rfl (x := .bool false) rfl ?_)
  show wpAny _ _ (field (.ref z) 3 >>= _) _ _ _
  refine wpAny_bind (wpAny_field hz rfl (x := .ref TI) rfl ?_)
  refine wpAny_bind (wpAny_seqItems hTI rfl ?_)
  show wpAny _ _ (Builtin.SmallTypes.ownedTupleIsFree (.ref z) >>= _) _ _ _
  refine wpAny_bind ?_
  unfold Builtin.SmallTypes.ownedTupleIsFree
  refine wpAny_bind (wpAny_field hz rfl (x := rawInt T) rfl ?_)
  show wpAny _ _ (loadIfAlive (Int.toNat ((T : Nat) : Int)) >>= _) _ _ _
  rw [Int.toNat_natCast]
  refine wpAny_bind (dz_alive ?_)
  rw [hT]
  simp only [Option.isNone_some, Bool.false_eq_true, if_false]
  refine wpAny_bind (wpAny_field hz rfl (x := .bool false) rfl ?_)
  rw [if_pos (show (Value.bool false != Value.bool true) = true from by decide)]
  refine wpAny_bind (wpAny_setField_rec hz (by simp) fun h₁ hz₁ hs₁ => wpAny_pure ?_)
  simp only [Bool.false_eq_true, if_false]
  refine wpAny_bind ?_
  rw [← Array.forIn_toList]
  simp only [List.forIn_cons]
  refine wpAny_bind (wpAny_bind (wpAny_holding ?_))
  show wpAny _ _ (Builtin.SmallTypes.nextOf (.ref i1) >>= _) _ _ _
  refine wpAny_bind (wpAny_nextOf_list_end hh (h1.extBut hs₁.extBut i1z) (hl1.extBut hs₁.extBut l1z) hend fun h₂ e hs₂ he => ?_)
  obtain ⟨oe, hoe, hce⟩ := he
  refine wpAny_bind (wpAny_isInstance (T := "StopIteration") (b := true) ⟨oe, hoe, hce⟩ isSubtype_stop ?_)
  exact wpAny_pure (hQ _ fun c o c1 c2 e => hs₂ _ _ c2 (hs₁.extBut _ _ c1 e))
end
/-! the call of zip -/
abbrev dzH1 (h : Heap) (l : Addr) : Heap := h.push { cls := .type "list_iterator", data := .fields #[.ref l, .int 0 0] }
abbrev dzH2 (h : Heap) (l t : Addr) : Heap := (dzH1 h l).push { cls := .type "tuple_iterator", data := .fields #[.ref t, .int 0 0] }
abbrev dzH3 (h : Heap) (l t : Addr) : Heap := (dzH2 h l t).push { cls := .type "tuple", data := .seq #[.ref h.objs.size, .ref (dzH1 h l).objs.size] }
abbrev dzH4 (h : Heap) (l t : Addr) : Heap := (dzH3 h l t).push { cls := .type "tuple", data := .seq #[.none, .none] }
abbrev dzH5 (h : Heap) (l t : Addr) : Heap := (dzH4 h l t).push { cls := .type "zip", data := .fields #[.none, .bool false, .bool false, .ref (dzH2 h l t).objs.size, .ref (dzH3 h l t).objs.size] }
theorem dz_meets (l t : Addr) (xs ys : Array Value) :
    Meets (Builtin.«zip.__new__» ⟨[.type "zip", .ref l, .ref t], []⟩) (fun _ R s => s.heap.IsList l xs ∧ s.heap.IsTuple t ys ∧
      R (.ok (.ret (.ref (dzH4 s.heap l t).objs.size))) { s with heap := dzH5 s.heap l t }) :=
  .of_wp fun prog w A R s h => by
    obtain ⟨hp, g, d, tk, os⟩ := s
    obtain ⟨hl1, hl2, h⟩ := h
    have hsub := sub_zip
    have hL1 : Heap.IsList (Shared.heap ⟨hp, g, d, tk, os⟩) l xs := hl1
    have hL2 : Heap.IsTuple (Shared.heap ⟨hp.push { cls := .type "list_iterator", data := .fields #[.ref l, .int 0 0] }, g, d, tk, os⟩) t ys := Heap.IsTuple.push hl2 _
    wp_walk using wpAny_pyIter_list hL1, wpAny_pyIter_tuple hL2
    exact ⟨_, rfl, h⟩
structure ZipAt (h : Heap) (B l t : Addr) : Prop where
  z : IsZip h (B + 4) (B + 2) (B + 3) .none
  i : IsPair h (B + 2) (.ref B) (.ref (B + 1))
  o : IsPair h (B + 3) .none .none
  a : h.IsListIter B l 0
  b : h.IsTupleIter (B + 1) t 0
section
variable {prog : Program} {w : World} {A : Around} {E : Value → Shared → Prop} {s : Shared}
theorem dz_zip {l t : Addr} {xs ys : Array Value} {Q : Value → Shared → Prop} (hl : s.heap.IsList l xs) (ht : s.heap.IsTuple t ys)
    (h : ∀ h', ZipAt h' s.heap.objs.size l t → (∀ c o, s.heap.get? c = some o → h'.get? c = some o) → s.heap.objs.size ≤ h'.objs.size → Q (.ref (s.heap.objs.size + 4)) { s with heap := h' }) :
    wpAny (model prog w) A (call (.type "zip") [.ref l, .ref t]) Q E s := by
  refine callType_new PySem.F.called_zip (by decide) (PySem.F.typeCall_zip_2 _ _) (PySem.F.newCall_zip_2 _ _) (fun obj => PySem.F.args_object_init_3 obj _ _) PySem.F.entry_zip_new
    (dz_meets l t xs ys) ⟨hl, ht, ?_⟩
  have z1 : (dzH1 s.heap l).objs.size = s.heap.objs.size + 1 := Heap.size_push ..
  have z2 : (dzH2 s.heap l t).objs.size = s.heap.objs.size + 2 := by rw [Heap.size_push, z1]
  have z3 : (dzH3 s.heap l t).objs.size = s.heap.objs.size + 3 := by rw [Heap.size_push, z2]
  have z4 : (dzH4 s.heap l t).objs.size = s.heap.objs.size + 4 := by rw [Heap.size_push, z3]
  have z5 : (dzH5 s.heap l t).objs.size = s.heap.objs.size + 5 := by rw [Heap.size_push, z4]
  have g5 : (dzH5 s.heap l t).get? (dzH4 s.heap l t).objs.size = some _ := Heap.get?_push_size _ rfl
  have g4 : (dzH5 s.heap l t).get? (dzH3 s.heap l t).objs.size = some _ := Heap.get?_push_of_some _ (Heap.get?_push_size _ rfl)
  have g3 : (dzH5 s.heap l t).get? (dzH2 s.heap l t).objs.size = some _ := Heap.get?_push_of_some _ (Heap.get?_push_of_some _ (Heap.get?_push_size _ rfl))
  have g2 : (dzH5 s.heap l t).get? (dzH1 s.heap l).objs.size = some _ := Heap.get?_push_of_some _ (Heap.get?_push_of_some _ (Heap.get?_push_of_some _ (Heap.get?_push_size _ rfl)))
  have g1 : (dzH5 s.heap l t).get? s.heap.objs.size = some _ := Heap.get?_push_of_some _ (Heap.get?_push_of_some _ (Heap.get?_push_of_some _ (Heap.get?_push_of_some _ (Heap.get?_push_size _ rfl))))
  show _ ∧ _
  rw [z2, z3, z4] at g5
  rw [z1, z2] at g3
  rw [z3] at g4
  rw [z1] at g2
  rw [z4]
  exact ⟨⟨_, g5, rfl⟩, h _ ⟨g5, g3, g4, ⟨_, g1, rfl, rfl⟩, ⟨_, g2, rfl, rfl⟩⟩ (fun c o x =>
    Heap.get?_push_of_some _ (Heap.get?_push_of_some _ (Heap.get?_push_of_some _ (Heap.get?_push_of_some _ (Heap.get?_push_of_some _ x))))) (by rw [z5]; exact Nat.le_add_right _ _)⟩
end
/-! a zip has no keys -/
theorem dz_entry_ga : entryFor table "zip.__getattribute__" = some Builtin.«object.__getattribute__» :=
  entryFor_alias (id' := "object.__getattribute__") (by kernel_rfl) (by decide +kernel) (by decide +kernel) (by kernel_rfl)
theorem dz_getattr_none : typeLookup (.type "zip") "__getattr__" = pure none := by rw [typeLookup_type, builtinLookup_eq_fast]; kernel_rfl
theorem dz_keys_none : typeLookup (.type "zip") (Str.ofString "keys") = pure none := by rw [typeLookup_type, builtinLookup_eq_fast]; kernel_rfl
theorem dz_meets_keys (a : Addr) (xs : Array Value) (u : Tok) :
    Meets (Builtin.«object.__getattribute__» ⟨[.ref a, .str (Str.ofString "keys") u], []⟩) (fun A R s => s.heap.get? a = some { cls := .type "zip", dict := none, data := .fields xs, slots := #[] } ∧ raisesAttr (.ref a) (Str.ofString "keys") A R s) :=
  Meets.of_wp fun prog w A R s hs => by
    obtain ⟨hp, g, d, tk, os⟩ := s
    obtain ⟨hx, hs⟩ := hs
    have hT : (⟨hp, g, d, tk, os⟩ : Shared).TypeIs (.ref a) "zip" := ⟨_, hx, rfl⟩
    have hmiss := dz_keys_none
    unfold Builtin.«object.__getattribute__»
    repeat (any_goals (first | assumption | wp_step))
    exact wpAny_raiseAttrError hs.1 hs.2 (attrMsg_fits (by decide +kernel) (by decide +kernel))
section
variable {prog : Program} {w : World} {A : Around} {E : Value → Shared → Prop} {s : Shared}
theorem dz_keys {a : Addr} {xs : Array Value} {Q : Option Value → Shared → Prop} (hx : s.heap.get? a = some { cls := .type "zip", dict := none, data := .fields xs, slots := #[] }) (hA : A.handled = none)
    (h : ∀ h' tk, (∀ b o, s.heap.get? b = some o → h'.get? b = some o) → Q none { s with heap := h', toks := tk }) :
    wpAny (model prog w) A (getAttr? (.ref a) (Str.ofString "keys")) Q E s := by
  obtain ⟨hp, g, d, tk, os⟩ := s
  have hT : ∀ tk', (⟨hp, g, d, tk', os⟩ : Shared).TypeIs (.ref a) "zip" := fun _ => ⟨_, hx, rfl⟩
  have f1 := sub_AttributeError
  have f3 := PySem.F.slot_zip_getattribute.lookup
  have f4 := PySem.F.slot_zip_getattribute.bind (.ref a)
  have f5 := dz_getattr_none
  unfold getAttr? getAttrBy? getAttrBy
  repeat (any_goals (first | assumption | exact hT _ | ((with_reducible show wpAny _ _ (call (Value.builtin "zip.__getattribute__") _ _) _ _ _); refine call_meets PySem.F.slot_zip_getattribute (hT _) dz_entry_ga (PySem.F.args_zip_getattribute_2 _ _) (dz_meets_keys a xs _) ⟨hx, hA, fun h' tk' e hx' => ?_⟩) | wp_step))
  obtain ⟨t', u', he⟩ := hx'.there
  show wpAny _ _ (getattributeRaised _ _ _ _ _ _ _) _ _ _
  unfold getattributeRaised
  repeat (any_goals (first | assumption | wp_step))
  exact h _ _ hx'.keeps
end
end Mine
namespace Mine
example : True := by
  w_top off
  k_with_none
  trivial
section
variable {prog : Program} {w : World} {A : Around} {E : Value → Shared → Prop} {s : Shared}
theorem dz_entry_loop : entryFor table "dict.update.loop" = some Builtin.«dict.update.loop» := entryFor_of_tree (by kernel_rfl)
theorem dz_plain_loop : plainId "dict.update.loop" = true := by decide +kernel
theorem dz_loop {B l t d : Addr} {x : Str} {tx : Tok} {v : Value} {R : Result → Shared → Prop} (hh : A.handled = none) (Z : ZipAt s.heap B l t) (hl : s.heap.IsList l #[.str x tx]) (ht : s.heap.IsTuple t #[v]) (hd : s.heap.DictOf (PySem.strKind prog w) d [])
    (hlB : @LT.lt Nat _ l B) (htB : @LT.lt Nat _ t B) (hdB : @LT.lt Nat _ (B + 4) d)
    (h : ∀ h' tk, h'.DictOf (PySem.strKind prog w) d [(x, v)] → (∀ c o, @LT.lt Nat _ c B → s.heap.get? c = some o → h'.get? c = some o) → R (.ok (.ret .none)) { s with heap := h', toks := tk }) :
    codeAny (model prog w) A (.builtin "dict.update.loop" ⟨[.ref d, .ref (B + 4), rawInt 0, .none], []⟩) R s := by
  have D : ZipApart (B + 4) (B + 2) (B + 3) B (B + 1) l t := by
    constructor <;> (intro e; first | (have e' : (_ : Nat) = _ := e; omega))
  refine codeAny_builtin dz_entry_loop ?_
  rw [Around.under_plainId dz_plain_loop _]
  show wpAny _ A.in1 (pyNext (.ref (B + 4)) >>= _) _ _ s
  refine wpAny_bind (dz_item D Z.z Z.i Z.o Z.a Z.b hl ht rfl rfl fun h₁ hz₁ hi₁ hT₁ hs₁ hk₁ => ?_)
  have hTy : Shared.TypeIs { s with heap := h₁ } (.ref s.heap.objs.size) "tuple" := ⟨_, hT₁, rfl⟩
  refine wpAny_bind (wpAny_holding (wpAny_bind (wpAny_tryCatch ?_)))
  unfold Builtin.Dict.pairItems
  refine wpAny_bind (wpAny_typeOf hTy ?_)
  rw [if_pos (by decide)]
  refine wpAny_bind (wpAny_seqItems hT₁ rfl (wpAny_pure ?_))
  show wpAny _ _ (holding [Value.str x tx, v] (dictSet d (.str x tx) v)) _ _ _
  have hnd : ∀ p ∈ [B + 4, B + 3, B, B + 1], d ≠ p := by
    intro p hp e
    have e' : @Eq Nat d p := e
    simp only [List.mem_cons, List.not_mem_nil, or_false] at hp
    rcases hp with rfl | rfl | rfl | rfl <;> omega
  have hd₁ : h₁.DictOf (PySem.strKind prog w) d [] := by
    obtain ⟨o, es, ep, ho, rest⟩ := hd
    exact ⟨o, es, ep, hk₁ _ _ (hnd _ (by simp)) (hnd _ (by simp)) (hnd _ (by simp)) (hnd _ (by simp)) ho, rest⟩
  refine wpAny_holding (wpAny_dictSet_pairs (strKind_is _ _ _ _) hd₁ (fun h₂ hd₂ hs₂ => ?_) (by decide))
  have up₂ : ∀ c o, c ≠ d → c ≠ B + 4 → c ≠ B + 3 → c ≠ B → c ≠ B + 1 → s.heap.get? c = some o → h₂.get? c = some o := fun c o c0 c1 c2 c3 c4 e => hs₂.extBut _ _ c0 (hk₁ c o c1 c2 c3 c4 e)
  have lt₀ : ∀ {c o}, s.heap.get? c = some o → @LT.lt Nat _ c s.heap.objs.size := fun e => Heap.lt_size e
  have hdlt : @LT.lt Nat _ d s.heap.objs.size := by obtain ⟨_, _, _, e, _⟩ := hd; exact lt₀ e
  refine wpAny_pure ⟨plainId_quiet dz_plain_loop _, ?_⟩
  refine codeAny_builtin dz_entry_loop ?_
  rw [Around.under_plainId dz_plain_loop _]
  show wpAny _ A.in1 (pyNext (.ref (B + 4)) >>= _) _ _ _
  refine wpAny_bind (dz_end (T := s.heap.objs.size) (xs := #[.str x tx]) (l1 := l) hh (by intro e; have e' : @Eq Nat B (B + 4) := e; omega) (by intro e; have e' : @Eq Nat l (B + 4) := e; omega) (hs₂.extBut _ _ (by intro e; have e' : @Eq Nat (B + 4) d := e; omega) hz₁)
    (up₂ _ _ (by intro e; have e' : @Eq Nat (B + 2) d := e; omega) (by intro e; have e' : @Eq Nat (B + 2) (B + 4) := e; omega) (by intro e; have e' : @Eq Nat (B + 2) (B + 3) := e; omega) (by intro e; have e' : @Eq Nat (B + 2) B := e; omega) (by intro e; have e' : @Eq Nat (B + 2) (B + 1) := e; omega) Z.i)
    (hs₂.extBut _ _ (by intro e; have e' : @Eq Nat s.heap.objs.size d := e; omega) hT₁)
    (hi₁.extBut hs₂.extBut (by intro e; have e' : @Eq Nat B d := e; omega))
    (hl.at fun o e => up₂ _ _ (by intro e; have e' : @Eq Nat l d := e; omega) (by intro e; have e' : @Eq Nat l (B + 4) := e; omega) (by intro e; have e' : @Eq Nat l (B + 3) := e; omega) (by intro e; have e' : @Eq Nat l B := e; omega) (by intro e; have e' : @Eq Nat l (B + 1) := e; omega) e) rfl fun h₃ hk₃ => ?_)
  show wpAny _ _ (Builtin.Dict.addKeywords d [] >>= _) _ _ _
  refine wpAny_bind (wpAny_pure (wpAny_pure ?_))
  refine h h₃ _ ?_ fun c o hc e => ?_
  · obtain ⟨o, es, ep, ho, rest⟩ := hd₂
    exact ⟨o, es, ep, hk₃ _ _ (hnd _ (by simp)) (hnd _ (by simp)) ho, rest⟩
  · have hne : ∀ k : Nat, c ≠ B + k := fun k e => by have e' : @Eq Nat c (B + k) := e; omega
    exact hk₃ _ _ (hne 4) (hne 0) (up₂ _ _ (by intro e; have e' : @Eq Nat c d := e; omega) (hne 4) (hne 3) (hne 0) (hne 1) e)
theorem zipAt_up {h h' : Heap} {B l t : Addr} (Z : ZipAt h B l t) (k : ∀ b o, h.get? b = some o → h'.get? b = some o) : ZipAt h' B l t :=
  ⟨k _ _ Z.z, k _ _ Z.i, k _ _ Z.o, Z.a.at fun o e => k _ o e, dz_it_at Z.b fun o e => k _ o e⟩
theorem dictOf_up {h h' : Heap} {d : Addr} {kvs : List (Str × Value)} (D : h.DictOf (PySem.strKind prog w) d kvs) (k : ∀ b o, h.get? b = some o → h'.get? b = some o) : h'.DictOf (PySem.strKind prog w) d kvs := by
  obtain ⟨o, es, ep, ho, rest⟩ := D
  exact ⟨o, es, ep, k _ _ ho, rest⟩
theorem dz_dict {B l t : Addr} {x : Str} {tx : Tok} {v : Value} {Q : Value → Shared → Prop} (hh : A.handled = none) (Z : ZipAt s.heap B l t) (hl : s.heap.IsList l #[.str x tx]) (ht : s.heap.IsTuple t #[v])
    (hlB : @LT.lt Nat _ l B) (htB : @LT.lt Nat _ t B)
    (h : ∀ h' tk, h'.DictOf (PySem.strKind prog w) s.heap.objs.size [(x, v)] → (∀ c o, @LT.lt Nat _ c B → s.heap.get? c = some o → h'.get? c = some o) → Q (.ref s.heap.objs.size) { s with heap := h', toks := tk }) :
    wpAny (model prog w) A (call (.type "dict") [.ref (B + 4)]) Q E s := by
  refine callType_codes (Q₁ := fun obj s₁ => obj = .ref s.heap.objs.size ∧ s₁ = { s with heap := s.heap.push { cls := .type "dict", data := .dict #[] } }) PySem.F.kt_called_dict (PySem.F.kt_typeCall_dict_1 _) PySem.F.entry_dict_init (kt_code_dict_new _ ⟨rfl, rfl⟩) ?_
  rintro obj s₁ ⟨rfl, rfl⟩
  have hnew : (s.heap.push { cls := .type "dict", data := .dict #[] }).DictOf (PySem.strKind prog w) s.heap.objs.size [] := Heap.DictOf.new s.heap
  have up0 : ∀ b o, s.heap.get? b = some o → (s.heap.push { cls := .type "dict", data := .dict #[] }).get? b = some o := fun b o e => Heap.get?_push_of_some _ e
  have Z1 := zipAt_up Z up0
  have hBd : @LT.lt Nat _ (B + 4) s.heap.objs.size := Heap.lt_size Z.z
  refine ⟨hnew.typeIs, PySem.F.args_dict_init_2 _ _, ?_⟩
  unfold Builtin.«dict.__init__»
  refine wpAny_bind ?_
  unfold Builtin.Dict.selfAndRest
  refine wpAny_bind (wpAny_notOrdered_dict hnew.typeIs ?_)
  show wpAny _ _ (pure (s.heap.objs.size, [Value.ref (B + 4)])) _ _ _
  refine wpAny_pure ?_
  show wpAny _ _ (Builtin.Dict.updateFrom "dict.__init__" s.heap.objs.size (.ref (B + 4)) [] .none) _ _ _
  unfold Builtin.Dict.updateFrom
  refine wpAny_bind (wpAny_typeOf (T := "zip") ⟨_, Z1.z, rfl⟩ ?_)
  rw [if_pos (by decide)]
  refine wpAny_bind (dz_keys (A := A.in1.in1) Z1.z (by exact hh) fun h₁ tk₁ k₁ => ?_)
  have Z2 := zipAt_up Z1 k₁
  rw [if_pos (by rfl)]
  refine wpAny_bind (wpAny_rule (wpAny_bind (wpAny_pyIter_zip Z2.z ?_)))
  refine wpAny_pure ⟨plainId_quiet dz_plain_loop _, ?_⟩
  refine dz_loop (A := A.in1) hh Z2 ((hl.push _).at fun o e => k₁ _ o e) (dz_tup_at (ht.push _) fun o e => k₁ _ o e) (dictOf_up hnew k₁) hlB htB hBd fun h₂ tk₂ D K => ?_
  exact ⟨rfl, h h₂ tk₂ D fun c o hc e => K c o hc (k₁ _ _ (up0 _ _ e))⟩
variable {h₀ : Heap} {L : Addr} {m mg mb : Str → Option Value} {news : List (Addr × Obj)} {p : Program} {loose : List Str} {mean : ExcName → Option Value}
theorem zip_use {l t : Addr} {v₁ v₂ : Value} {n₁ n₂ : Nat} {Q : Value → Shared → Prop} (F : Fr h₀ L s.heap m) (N : News h₀ L s.heap news) (hl : (l, ({ cls := .type "list", data := .seq #[v₁] n₁ } : Obj)) ∈ news) (ht : (t, ({ cls := .type "tuple", data := .seq #[v₂] n₂ } : Obj)) ∈ news)
    (ret : ∀ B h', ZipAt h' B l t → Fr h₀ L h' m → News h₀ L h' news → (∀ p ∈ news, @LT.lt Nat _ p.1 B) → @LT.lt Nat _ L B → Q (.ref (B + 4)) { s with heap := h' }) :
    wpAny (model prog w) A (call (.type "zip") [.ref l, .ref t]) Q E s :=
  dz_zip (xs := #[v₁]) (ys := #[v₂]) ⟨_, (N _ hl).1, rfl, n₁, rfl⟩ ⟨_, (N _ ht).1, rfl, n₂, rfl⟩ fun h' Z k _ =>
    ret _ h' Z ⟨F.ns.at' fun o e => k L o e, fun b o e => k b o (F.keep b o e), F.above⟩ (fun q hq => ⟨k _ _ (N q hq).1, (N q hq).2⟩) (fun q hq => Heap.lt_size (N q hq).1) F.ns.lt
theorem dict_use {l t B : Addr} {x : Str} {tx : Tok} {v₂ : Value} {n₁ n₂ : Nat} {Q : Value → Shared → Prop} (F : Fr h₀ L s.heap m) (N : News h₀ L s.heap news) (T : Top p loose mean mg mb h₀) (hh : A.handled = none) (Z : ZipAt s.heap B l t) (lo : ∀ p ∈ news, @LT.lt Nat _ p.1 B) (hL : @LT.lt Nat _ L B)
    (hl : (l, ({ cls := .type "list", data := .seq #[.str x tx] n₁ } : Obj)) ∈ news) (ht : (t, ({ cls := .type "tuple", data := .seq #[v₂] n₂ } : Obj)) ∈ news)
    (ret : ∀ d o h' tk', Fr h₀ L h' m → News h₀ L h' ((d, o) :: news) → (∀ p ∈ news, @LT.lt Nat _ p.1 d) → (d == sysModules) = false → o.IsDictOf (PySem.strKind prog w) [(x, v₂)] → Q (.ref d) { s with heap := h', toks := tk' }) :
    wpAny (model prog w) A (call (.type "dict") [.ref (B + 4)]) Q E s := by
  refine dz_dict hh Z ⟨_, (N _ hl).1, rfl, n₁, rfl⟩ ⟨_, (N _ ht).1, rfl, n₂, rfl⟩ (lo _ hl) (lo _ ht) fun h' tk D k => ?_
  obtain ⟨o, ho, hd⟩ := Heap.dictOf_iff.mp D
  have hsz : @LT.lt Nat _ B s.heap.objs.size := by have h4 : @LT.lt Nat _ (B + 4) s.heap.objs.size := Heap.lt_size Z.z; omega
  have hlt : @LT.lt Nat _ L s.heap.objs.size := Nat.lt_trans hL hsz
  refine ret _ o h' tk ⟨F.ns.at' fun o' e => k L o' hL e, fun b o' e => k b o' (Nat.lt_trans (Nat.lt_of_lt_of_le (Heap.lt_size e) F.above) hL) (F.keep b o' e), F.above⟩ (fun q hq => ?_) (fun q hq => Nat.lt_trans (lo q hq) hsz) (F.notModules (modules_low (Top.nolimit T))) hd
  rcases List.mem_cons.mp hq with rfl | hq
  · exact ⟨ho, Nat.ne_of_gt hlt, Heap.get?_none_of_le (Nat.le_trans F.above (Nat.le_of_lt hlt))⟩
  · exact ⟨k _ _ (lo q hq) (N q hq).1, (N q hq).2⟩
end
end Mine
namespace Mine
example : True := by
  w_top off
  k_with_none
  trivial

/-! the def that fields_of makes -/
def TabSt (pos : Pos) (qual : Str) (ps : Array Value) (l : List (Addr × Obj)) : Prop :=
  ps = #[] ∨ ∃ c' oc vs t, ps = #[rawInt pos.line, rawInt pos.col, .ref c'] ∧ (c', oc) ∈ l ∧ oc.data = .fields vs ∧ vs[1]? = some (.str qual t)
theorem TabSt.mono {pos : Pos} {qual : Str} {ps : Array Value} {l l' : List (Addr × Obj)} (h : TabSt pos qual ps l) (hs : ∀ p ∈ l, p ∈ l') : TabSt pos qual ps l' := by
  rcases h with h | ⟨c', oc, vs, t, h1, h2, h3⟩
  · exact .inl h
  · exact .inr ⟨c', oc, vs, t, h1, hs _ h2, h3⟩
def FMade (_f _c : Addr) (_oc : Obj) (_clos : List (Str × Addr)) : Prop := True
/-- the code record: had before, or new -/
def CGd (c : Addr) (oc : Obj) (lt rest : List (Addr × Obj)) : Prop := (c, oc) ∈ lt ∨ ∀ q ∈ rest, @LT.lt Nat _ q.1 c
theorem cne {c a : Addr} {oc o : Obj} {lt rest : List (Addr × Obj)} (h : CGd c oc lt rest) (m : (a, o) ∈ rest) (k : Off a lt) : @Ne Nat c a :=
  h.elim (fun h => k _ h) fun h => Nat.ne_of_gt (h _ m)
section
variable {M : Model} {A : Around} {E : Value → Shared → Prop} {s : Shared} {h₀ : Heap} {L a c P : Addr} {m mg mb : Str → Option Value} {cn : Str} {cs : Scope} {ccd : Value} {cl : List (Str × Addr)} {news rest : List (Addr × Obj)}
  {p : Program} {loose : List Str} {mean : ExcName → Option Value} {name qual : Str} {params : Arguments} {body : List Stmt} {scope : Scope} {ps : Array Value} {pos : Pos} {firstLine : Nat} {clos : List (Str × Addr)}
theorem nest_any {Q : Value → Shared → Prop} (F : Fr h₀ L s.heap m) (N : News h₀ L s.heap news) (T : Top p loose mean mg mb h₀) (C : CodeHd h₀ c P) (hcd : ccd = .ref c) (Pl : Pull (P, tabObj ps) news rest) (off : Off P rest) {q' : Str} (hq : qual = q') {lt : List (Addr × Obj)} (ht : TabSt pos q' ps lt) (hlt : ∀ p ∈ lt, p ∈ rest)
    (hcl : closureFor scope (envX cn cs L a ccd cl) = pure clos)
    (ret : ∀ f c' oc vs t doc ctv h' tk ps', Fr h₀ L h' m → News h₀ L h' ((f, fnMade name qual params body scope clos doc ((mg "__name__").getD .none) c' ctv) :: (c', oc) :: (P, tabObj ps') :: rest) →
      oc.data = .fields vs → vs[1]? = some (.str qual t) → TabSt pos q' ps' [(c', oc)] → (∀ q ∈ rest, @LT.lt Nat _ q.1 f) → @LT.lt Nat _ P f → @LT.lt Nat _ c' f → @Ne Nat c' P → CGd c' oc lt rest → FMade f c' oc clos → Q (.ref f) { s with heap := h', toks := tk }) :
    wpAny M A (makeFunction name qual params (.stmts body) scope (envX cn cs L a ccd cl) [] [] [] pos firstLine) Q E s := by
  subst hq
  have N1 := News.sub N Pl.mem
  rcases ht with rfl | ⟨c', oc, vs, t, rfl, hm, hd, hv⟩
  · refine nest_K F N1 T C hcd (.head off) trivial rfl hcl fun f c' oc vs t ctv doc h' tk F' N' hd hv lo hf => ?_
    refine ret f c' oc vs t doc ctv h' tk _ F' N' hd hv (.inr ⟨c', oc, vs, t, by simp, List.mem_cons_self, hd, hv⟩) (fun q hq => Nat.lt_trans (lo q (.tail _ hq)) hf) (Nat.lt_trans (lo _ (.head _)) hf) hf (Nat.ne_of_gt (lo _ (.head _))) (.inr fun q hq => lo q (.tail _ hq)) trivial
  · have hml := hm
    replace hm := hlt _ hm
    have hne : @Ne Nat c' P := off _ hm
    refine nestHit_K (c' := c') F N1 T C hcd (.head _) (by simp [TriplesOk, rawInt]) (by simp [codeAmong, rawInt]) hcl fun f ctv doc h' tk F' N' lo => ?_
    exact ret f c' oc vs t doc ctv h' tk _ F' (News.sub N' (sub_cons (.head _) (sub_cons (.tail _ (.tail _ hm)) (sub_cons (.tail _ (.head _)) fun q hq => .tail _ (.tail _ hq))))) hd hv (.inr ⟨c', oc, vs, t, rfl, List.mem_cons_self, hd, hv⟩) (fun q hq => lo q (.tail _ hq)) (lo _ (.head _)) (lo _ (.tail _ hm)) hne (.inl hml) trivial
end
section
variable {w : World} {loose : List Str} {mean : ExcName → Option Value} {mg mb : Str → Option Value}
def Back (h₀ : Heap) (L : Addr) (m : Str → Option Value) (news : List (Addr × Obj)) (ρ : Rg) (s : Shared) (Q : Value → Shared → Prop) : Prop :=
  ∀ r news' h' tk', Fr h₀ L h' m → News h₀ L h' news' → (∀ p ∈ news, p ∈ news') → Dt [] r (rgD ρ) → Q r { s with heap := h', toks := tk' }
theorem rg_any {l l' : List (Addr × Obj)} {v : Value} {ρ : Rg} (h : Dt l v (rgD ρ)) : Dt l' v (rgD ρ) := by
  cases ρ with
  | no => obtain rfl := in_none h; exact .none
  | five => obtain ⟨t, rfl⟩ := in_int h; exact .int _ _
  | _ => obtain ⟨t, rfl⟩ := in_str h; exact .str _ _
theorem back_use {h₀ : Heap} {L : Addr} {m : Str → Option Value} {news news' l : List (Addr × Obj)} {ρ : Rg} {s : Shared} {Q : Value → Shared → Prop} {h' : Heap} {tk' : Nat} {k : Str} {r v : Value} (b : Back h₀ L m news ρ s Q) (F : Fr h₀ L h' m) (N : News h₀ L h' news') (hs : ∀ p ∈ news, p ∈ news') (d : Dt l r (rgD ρ)) : Q ((valueAt [(k, r)] k).getD v) { s with heap := h', toks := tk' } := by
  have e : (valueAt [(k, r)] k).getD v = r := by simp [valueAt]
  rw [e]
  exact b r news' h' tk' F N hs (rg_any d)
theorem have_change {f c' rc d : Addr} {of oc ocell od : Obj} {ρ : Rg} {led : List (Addr × Obj)} {G : Prop} {fd : FuncData} {cls : Value} {dd : Option Addr} {sl : Array (Option Value)} {clos : List (Str × Addr)} {vr : Value} {Dr : List (Addr × Obj)} {hb hp : Heap} {LL : Addr} (_N : News hb LL hp led) {h1 : Heap} (_T : Top topProg loose mean mg mb h1) (_mk : FMade f c' oc clos) (_hcl : clos.lookup (Str.ofString "regions") = some rc) (_hcell : ocell.data = .cell (some (.ref d))) (_hdi : od.IsDictOf (PySem.strKind PySem.Challenge.rw_xm0591_01.row.prog w) [(Str.ofString "'r", vr)]) (_hr : Dt Dr vr (rgD ρ)) (hof : of = ⟨cls, dd, .func fd, sl⟩)
    (_hf : (f, of) ∈ led) (_hc : (c', oc) ∈ led) (_hrc : (rc, ocell) ∈ led) (_hdd : (d, od) ∈ led)
    (walk : ∀ (tk : Tok) (news : List (Addr × Obj)) (dp un : Nat) (gd : Option (List Code)) (cn : Str) (cs : Scope) (a : Addr) (ccd : Value) (cl : List (Str × Addr)) (outer : List Env) (A₀ : Around) (base h₀ : Heap) (L : Addr) (m : Str → Option Value) (s : Shared) (Q E : Value → Shared → Prop),
      Below A₀ base outer h₀ → Fr h₀ L s.heap m → (hd.heap_1 w.params).In h₀ → News h₀ L s.heap ((f, of) :: (c', oc) :: (rc, ocell) :: (d, od) :: news) → Top topProg loose mean mg mb h₀ → cs.kind = .function → dp + 3 < recursionLimit → un + 8 * 3 < cLine →
      Back h₀ L m news ρ s Q →
      wpAny (model PySem.Challenge.rw_xm0591_01.row.prog w) (ktrTop dp un gd cn cs L a ccd cl outer) (call (.ref f) [.str (Str.ofString "'r") tk]) Q E s)
    (next : ChangeOk w loose mean mg mb f [(f, of), (c', oc), (rc, ocell), (d, od)] ρ → G) : G := by
  subst hof
  refine next ⟨⟨_, _, _, _, List.mem_cons_self⟩, fun tk news hs => ?_⟩
  unfold CallOk
  intro dp un gd cn cs a ccd cl outer A₀ base h₀ L m s Q E B F X N T hk hdp hun hret
  refine walk tk news dp un gd cn cs a ccd cl outer A₀ base h₀ L m s Q E B F X (News.add (News.add (News.add (News.add N (hs _ (by simp))) (.tail _ (hs _ (by simp)))) (.tail _ (.tail _ (hs _ (by simp))))) (.tail _ (.tail _ (.tail _ (hs _ (by simp)))))) T hk hdp hun fun r news' h' tk' F' N' hs' dt => ?_
  exact hret r news' h' tk' F' N' ⟨hs', .of_in (fun _ h => nomatch h) dt⟩
end
end Mine
namespace Mine
example : True := by
  w_top off
  k_with_none
  trivial

def SK (w : World) := PySem.strKind PySem.Challenge.rw_xm0591_01.row.prog w
def WorldR (w : World) (l : List (Addr × Obj)) (wa va : Addr) : Prop :=
  ∃ dx es k ad o ai dy fs k2 rl nr tr pl np tp, (wa, instObj 157 dx) ∈ l ∧ (dx, dictOf es k) ∈ l ∧ getL (Str.ofString "adts") es = some (some (.ref ad)) ∧ (ad, o) ∈ l ∧ o.IsDictOf (PySem.strKind PySem.Challenge.rw_xm0591_01.row.prog w) [(Str.ofString "m::E", .ref ai)] ∧ (ad == sysModules) = false ∧
    (ai, instObj 128 dy) ∈ l ∧ (dy, dictOf fs k2) ∈ l ∧ getL (Str.ofString "regions") fs = some (some (.ref rl)) ∧ getL (Str.ofString "params") fs = some (some (.ref pl)) ∧ getL (Str.ofString "variants") fs = some (some (.ref va)) ∧
    (rl, listOf #[.str (Str.ofString "'r") tr] nr) ∈ l ∧ (pl, listOf #[.str (Str.ofString "A") tp] np) ∈ l
theorem WorldR.mono {w : World} {l l' : List (Addr × Obj)} {wa va : Addr} (h : WorldR w l wa va) (hs : ∀ p ∈ l, p ∈ l') : WorldR w l' wa va := by
  obtain ⟨dx, es, k, ad, o, ai, dy, fs, k2, rl, nr, tr, pl, np, tp, h1, h2, h3, h4, h5, h6, h7, h8, h9, h10, h11, h12, h13⟩ := h
  exact ⟨dx, es, k, ad, o, ai, dy, fs, k2, rl, nr, tr, pl, np, tp, hs _ h1, hs _ h2, h3, hs _ h4, h5, h6, hs _ h7, hs _ h8, h9, h10, h11, hs _ h12, hs _ h13⟩
theorem in_list {l : List (Addr × Obj)} {v : Value} {ds : List Dat} (h : Dt l v (.list ds)) : ∃ a vs n, v = .ref a ∧ (a, listOf vs.toArray n) ∈ l ∧ Dts l vs ds := by
  cases h with
  | list hm r => exact ⟨_, _, _, rfl, hm, r⟩
theorem cell_off3 {l : List (Addr × Obj)} {L : Addr} (h : ∀ p ∈ l, p.1 < L) : Off (L + 1 + 1 + 1) l := fun p hp => Nat.ne_of_lt (Nat.lt_succ_of_lt (Nat.lt_succ_of_lt (Nat.lt_succ_of_lt (h p hp))))
section
variable {prog : Program} {w : World} {A : Around} {E : Value → Shared → Prop} {s : Shared} {h₀ : Heap} {L d : Addr} {news : List (Addr × Obj)} {o : Obj} {x : Str} {t : Tok} {v : Value}
theorem item_use {value slice : PySem.Expr} {Q : Value → Shared → Prop} (N : News h₀ L s.heap news) (hm : (d, o) ∈ news) (hd : o.IsDictOf (PySem.strKind prog w) [(x, v)])
    (ret : ∀ tk', Q v { s with toks := tk' }) (hs : subscripted slice false (.ref d) (.str x t) = operate [.ref d, .str x t] (getItem (.ref d) (.str x t)) := by with_unfolding_all rfl) :
    wpAny (model prog w) A (subscriptTail value slice (.ref d) (.str x t)) Q E s := by
  have D : s.heap.DictOf (PySem.strKind prog w) d [(x, v)] := Heap.dictOf_iff.mpr ⟨o, (N _ hm).1, hd⟩
  exact tail_any D.typeIs slot_dict_getitem.lookup (wpAny_getItem_of (f := valueAt [(x, v)]) (strKind_is _ _ _ _) D.mapOf (by simp [valueAt]) (ret _)) hs
end
section
variable {w : World} {loose : List Str} {mean : ExcName → Option Value} {mg mb : Str → Option Value}
theorem fd_dp (f : Fd) : f.ty.dp ≤ 1 := by cases f <;> decide
theorem rm_dp (ρ : Rg) (f : Fd) : (rmap ρ f.ty).dp ≤ 1 := by cases f <;> simp [Fd.ty, rmap, Ty.dp]
def sigA (t : Ty) : Pm → Option Ty
  | .A => some t
  | _ => none
theorem fd_due (ρ : Rg) (t : Ty) (f : Fd) : subst (sigA t) (rmap ρ f.ty) = f.due ρ t := by cases f <;> rfl
theorem tabV_A {D : List (Addr × Obj)} {v : Value} {t : Ty} (h : Dt D v (tyD t)) : TabV D [(Str.ofString "A", v)] (sigA t) := by
  intro x
  cases x with
  | A => exact ⟨v, by simp [valueAt, pmS], h⟩
  | T =>
    have e : ¬ (Str.ofString "A" = Str.ofString "T") := by decide +kernel
    show valueAt [(Str.ofString "A", v)] (Str.ofString "T") = none
    simp [valueAt, e]
  | U =>
    have e : ¬ (Str.ofString "A" = Str.ofString "U") := by decide +kernel
    show valueAt [(Str.ofString "A", v)] (Str.ofString "U") = none
    simp [valueAt, e]
  | V =>
    have e : ¬ (Str.ofString "A" = Str.ofString "V") := by decide +kernel
    show valueAt [(Str.ofString "A", v)] (Str.ofString "V") = none
    simp [valueAt, e]
theorem wr_fd {c : Addr} {D₀ : List (Addr × Obj)} {ρ : Rg} (hch : ChangeOk w loose mean mg mb c D₀ ρ) : ∀ f : Fd, WrOk w loose mean mg mb c D₀ ρ f.ty
  | .par => (wr_ok hch).1 _
  | .bool => (wr_ok hch).2.1
  | .box => (wr_ok hch).2.2.1 _
  | .ref => (wr_ok hch).2.2.2.1 _ _
  | .adt => (wr_ok hch).2.2.2.2
theorem wrf_use {c : Addr} {D₀ : List (Addr × Obj)} {ρ : Rg} {f : Fd} {news D : List (Addr × Obj)} {v : Value} {dp un : Nat} {gd : Option (List Code)} {cn : Str} {cs : Scope} {a : Addr} {ccd : Value} {cl : List (Str × Addr)} {outer : List Env} {A₀ : Around} {base h₀ : Heap} {L : Addr} {m : Str → Option Value} {hS : Heap} {gS : Array GenState} {dS : Drawn} {tS : Nat} {oS : OsState} {Q E : Value → Shared → Prop}
  (hch : ChangeOk w loose mean mg mb c D₀ ρ) (hv : Dt D v (tyD f.ty)) (s1 : ∀ p ∈ D, p ∈ news) (s2 : ∀ p ∈ D₀, p ∈ news)
  (B : Below A₀ base outer h₀) (F : Fr h₀ L hS m) (X : (hd.heap_1 w.params).In h₀) (N : News h₀ L hS news) (T : Top topProg loose mean mg mb h₀) (hk : cs.kind = .function) (hr : dp + 8 < recursionLimit) (hu : un + 8 * 8 < cLine)
  (ret : ∀ r tl h' tk', Fr h₀ L h' m → News h₀ L h' (news ++ tl) → Above news tl → Dt (D ++ tl) r (tyD (rmap ρ f.ty)) → Q (r) ⟨h', gS, dS, tk', oS⟩) : wpAny (model PySem.Challenge.rw_xm0591_01.row.prog w) (ktrTop dp un gd cn cs L a ccd cl outer) (call (.ref 45) [v, .ref c]) Q E ⟨hS, gS, dS, tS, oS⟩ :=
  have e := fd_dp f
  pure_use B F X N T hk (wr_fd hch f v D news hv s1 s2) (by omega) (by omega) ret
theorem sbf_use {ρ : Rg} {t : Ty} {f : Fd} {news D₁ D₂ : List (Addr × Obj)} {v vi : Value} {d : Addr} {o : Obj} {dp un : Nat} {gd : Option (List Code)} {cn : Str} {cs : Scope} {a : Addr} {ccd : Value} {cl : List (Str × Addr)} {outer : List Env} {A₀ : Around} {base h₀ : Heap} {L : Addr} {m : Str → Option Value} {hS : Heap} {gS : Array GenState} {dS : Drawn} {tS : Nat} {oS : OsState} {Q E : Value → Shared → Prop}
  (hv : Dt D₁ v (tyD (rmap ρ f.ty))) (hi : Dt D₂ vi (tyD t)) (ho : (d, o) ∈ news) (hdi : o.IsDictOf (PySem.strKind PySem.Challenge.rw_xm0591_01.row.prog w) [(Str.ofString "A", vi)]) (hlo : (d == sysModules) = false) (s1 : ∀ p ∈ D₁, p ∈ news) (s2 : ∀ p ∈ D₂, p ∈ news)
  (B : Below A₀ base outer h₀) (F : Fr h₀ L hS m) (X : (hd.heap_1 w.params).In h₀) (N : News h₀ L hS news) (T : Top topProg loose mean mg mb h₀) (hk : cs.kind = .function) (hr : dp + 8 < recursionLimit) (hu : un + 8 * 8 < cLine)
  (ret : ∀ r tl h' tk', Fr h₀ L h' m → News h₀ L h' (news ++ tl) → Above news tl → Dt (D₁ ++ D₂ ++ tl) r (tyD (f.due ρ t)) → Q (r) ⟨h', gS, dS, tk', oS⟩) : wpAny (model PySem.Challenge.rw_xm0591_01.row.prog w) (ktrTop dp un gd cn cs L a ccd cl outer) (call (.ref 40) [v, .ref d]) Q E ⟨hS, gS, dS, tS, oS⟩ :=
  have e := rm_dp ρ f
  pure_use B F X N T hk (sub_ok (σ := sigA t) (rmap ρ f.ty) v D₁ D₂ news d o _ hv (tabV_A hi) ho hdi hlo s1 s2) (by omega) (by omega) fun r tl h' tk' F' N' ab dt => ret r tl h' tk' F' N' ab (by rw [← fd_due ρ t f]; exact dt)
theorem reg_get {v : Value} {k : Str} : (valueAt [(k, v)] k).getD v = v := by simp [valueAt]
/-- what fields_of brings: a list of pairs, each a text and a type -/
inductive OutsD (ρ : Rg) (t : Ty) : List Dat → List Fd → Prop
  | nil : OutsD ρ t [] []
  | cons {s : Str} {f : Fd} {ds : List Dat} {fs : List Fd} : OutsD ρ t ds fs → OutsD ρ t (.tuple [.str s, tyD (f.due ρ t)] :: ds) (f :: fs)
def FPost (pos : Pos) (lt₀ D rest : List (Addr × Obj)) (ρ : Rg) (t : Ty) (fds : List Fd) (r : Value) (l : List (Addr × Obj)) : Prop :=
  ∃ ps lt fo vs n ds, r = .ref fo ∧ (68, tabObj ps) ∈ l ∧ (∀ p ∈ rest, p ∈ l) ∧ TabSt pos (Str.ofString "fields_of.<locals>.put_in") ps lt ∧ (∀ p ∈ lt, Gd lt₀ rest l p) ∧ (fo, listOf (List.toArray vs) n) ∈ l ∧ Off fo rest ∧ @Ne Nat fo 68 ∧ DatPs (Gd D rest l) vs ds ∧ OutsD ρ t ds fds
theorem cgd_gd {c : Addr} {oc : Obj} {lt big rest l : List (Addr × Obj)} (h : CGd c oc lt big) (hs : ∀ p ∈ rest, p ∈ big) (m : (c, oc) ∈ l) : Gd lt rest l (c, oc) :=
  h.elim (fun h => ⟨m, .inl h⟩) fun h => ⟨m, .inr fun q hq => h q (hs q hq)⟩
theorem fpost {pos : Pos} {lt₀ D rest big l : List (Addr × Obj)} {ρ : Rg} {t : Ty} {fds : List Fd} {ps : Array Value} {c fo : Addr} {oc : Obj} {vs : List Value} {n : Nat} {ds : List Dat}
    (h1 : (68, tabObj ps) ∈ l) (h2 : ∀ p ∈ rest, p ∈ l) (h3 : TabSt pos (Str.ofString "fields_of.<locals>.put_in") ps [(c, oc)]) (h4 : CGd c oc lt₀ big) (h5 : ∀ p ∈ rest, p ∈ big) (h6 : (c, oc) ∈ l) (h7 : (fo, listOf (List.toArray vs) n) ∈ l) (h8 : Off fo rest) (h9 : @Ne Nat fo 68) (h10 : DatPs (Gd D rest l) vs ds) (h11 : OutsD ρ t ds fds) : FPost pos lt₀ D rest ρ t fds (.ref fo) l :=
  ⟨ps, [(c, oc)], fo, vs, n, ds, rfl, h1, h2, h3, fun p hp => by rw [List.mem_singleton.mp hp]; exact cgd_gd h4 h5 h6, h7, h8, h9, h10, h11⟩
theorem off1_off {d : Addr} {l : List (Addr × Obj)} : LCg.Off1 d l → Off d l := by
  induction l with
  | nil => exact fun _ => off_nil
  | cons p r ih =>
    intro h q hq
    have h' : (@Ne Nat p.1 d) ∧ LCg.Off1 d r := h
    rcases List.mem_cons.mp hq with rfl | hq
    · exact h'.1
    · exact ih h'.2 q hq
theorem off_of1 {d : Addr} {l rest : List (Addr × Obj)} (h : LCg.Off1 d l) (hs : ∀ p ∈ rest, p ∈ l) : Off d rest := fun p hp => off1_off h p (hs p hp)

section
example : True := by
  k_with_none
  k_with "w_kqd_all" =>
   (with_reducible first
   | assumption
   | exact off_nil
   | (refine' off_cons ?z29 ?z39; (case z29 => k_dflt k_ne); (case z39 => kqd_all))
   | (refine' off_app ?_ ?_ <;> kqd_all)
   | (refine' off_sub ?z8 ?z7; (case z8 => assumption); (case z7 => k_dflt tb_start))
   | (refine' off_above ?z8 ?z7; (case z8 => assumption); (case z7 => k_dflt k_mem))
   | (refine' off_lt ?z8 ?z33 ?z7; (case z8 => assumption); (case z33 => k_dflt ((show (_ : Nat) ≤ _); omega)); (case z7 => k_dflt tb_start))
   | (refine' off_o3a ?z8 ?z7; (case z8 => assumption); (case z7 => k_dflt tb_start))
   | (refine' off_o3b ?z8 ?z7; (case z8 => assumption); (case z7 => k_dflt tb_start))
   | (refine' off_o3c ?z8 ?z7; (case z8 => assumption); (case z7 => k_dflt tb_start))
   | (refine' off_o1 ?z8 ?z7; (case z8 => assumption); (case z7 => k_dflt tb_start))
   | fail)
  k_with "w_k_ne" =>
   (first
   | with_reducible assumption
   | (refine' ne_all ?z6 ?z36; (case z6 => with_reducible assumption); (case z36 => k_mem))
   | (refine' ne_all2 ?z6 ?z36; (case z6 => with_reducible assumption); (case z36 => k_mem))
   | (refine' Ne.symm ?z6; (case z6 => with_reducible assumption))
   | (refine' ne_o3a ?z6 ?z36; (case z6 => with_reducible assumption); (case z36 => k_mem))
   | (refine' ne_o3b ?z6 ?z36; (case z6 => with_reducible assumption); (case z36 => k_mem))
   | (refine' ne_o3c ?z6 ?z36; (case z6 => with_reducible assumption); (case z36 => k_mem))
   | (refine' ne_o3a' ?z6 ?z36; (case z6 => with_reducible assumption); (case z36 => k_mem))
   | (refine' ne_o3b' ?z6 ?z36; (case z6 => with_reducible assumption); (case z36 => k_mem))
   | (refine' ne_o3c' ?z6 ?z36; (case z6 => with_reducible assumption); (case z36 => k_mem))
   | (refine' ne_o1 ?z6 ?z36; (case z6 => with_reducible assumption); (case z36 => k_mem))
   | (refine' ne_o1' ?z6 ?z36; (case z6 => with_reducible assumption); (case z36 => k_mem))
   | (refine' ne_of_lt' ?z6; (case z6 => with_reducible assumption))
   | (refine' ne_of_gt' ?z6; (case z6 => with_reducible assumption))
   | (refine' ne_tr ?z41 ?z6 ?z36; (case z41 | z6 => with_reducible assumption); (case z36 => k_mem))
   | (refine' ne_trs ?z41 ?z6 ?z36; (case z41 | z6 => with_reducible assumption); (case z36 => k_mem))
   | (refine' ne_tr2 ?z41 ?z26 ?z6 ?z36; (case z41 | z26 | z6 => with_reducible assumption); (case z36 => k_mem))
   | (refine' ne_tr2s ?z41 ?z26 ?z6 ?z36; (case z41 | z26 | z6 => with_reducible assumption); (case z36 => k_mem))
   | (with_reducible refine' ne_up1 ?z6 ?z36; (case z6 => assumption); (case z36 => k_dflt k_mem))
   | (with_reducible refine' ne_up2 ?z6 ?z36; (case z6 => assumption); (case z36 => k_dflt k_mem))
   | (with_reducible refine' ne_up3 ?z6 ?z36; (case z6 => assumption); (case z36 => k_dflt k_mem))
   | (with_reducible refine' ne_dn1 ?z6 ?z36; (case z6 => assumption); (case z36 => k_dflt k_mem))
   | (with_reducible refine' ne_dn2 ?z6 ?z36; (case z6 => assumption); (case z36 => k_dflt k_mem))
   | (with_reducible refine' ne_dn3 ?z6 ?z36; (case z6 => assumption); (case z36 => k_dflt k_mem))
   | fail)
  k_with "subscriptTail" =>
   ((k_here; (with_reducible show wpAny _ _ (subscriptTail _ _ (Value.ref _) (Value.int _ _)) _ _ _); k_dflt (first
   | (refine' my_tup ?Z0 ?Z1 ?Z2 ?Z3 ?Z4 ?Z5 ?_; (case Z0 => k_asm); (case Z1 => k_mem); (case Z2 | Z3 => decide); (case Z4 | Z5 => rfl); k_whole)
   | (refine' my_lst ?Z0 ?Z1 ?Z2 ?Z3 ?Z5 ?_; (case Z0 => k_asm); (case Z1 => k_mem); (case Z2 | Z3 => decide); (case Z5 => rfl); k_whole))))
  k_with "eval Name" =>
   ((k_here; k_dflt (refine' nameX_L ?Z6 ?Z7 ?_; (case Z6 => k_asm); (case Z7 => exact rfl); k_whole)))
  k_with "w_kqd_all" =>
   (first
   | with_reducible assumption
   | ((with_reducible refine off_cons ?_ ?_); k_ne; kqd_all)
   | ((with_reducible refine off_app ?_ ?_); kqd_all; kqd_all)
   | exact off_sub (by with_reducible assumption) (by tb_start)
   | exact off_above (by with_reducible assumption) (by k_mem)
   | exact off_lt (by with_reducible assumption) (by (show (_ : Nat) ≤ _); omega) (by tb_start)
   | exact off_nil
   | fail "kqd_all: not off")
  k_with "w_k_all" =>
   (first | assumption | ((show Off _ _); kqd_all))
  k_with "w_k_ne" =>
   (first
   | with_reducible assumption
   | (refine' Ne.symm ?Z8; (case Z8 => with_reducible assumption))
   | (refine' pne ?Z8 ?Z9; (case Z8 => with_reducible assumption); (case Z9 => kqd_all))
   | (refine' Ne.symm (pne ?Z8 ?Z9); (case Z8 => with_reducible assumption); (case Z9 => kqd_all))
   | (refine' cne ?Z8 ?Za ?Z9; (case Z8 => with_reducible assumption); (case Za => k_mem); (case Z9 => kqd_all))
   | (refine' Ne.symm (cne ?Z8 ?Za ?Z9); (case Z8 => with_reducible assumption); (case Za => k_mem); (case Z9 => kqd_all))
   | (refine neN ?_; (try dsimp only); omega))
  k_with "w_kqd_all" =>
   (first
   | with_reducible assumption
   | ((with_reducible refine off_cons ?_ ?_); k_ne; kqd_all)
   | ((with_reducible refine off_app ?_ ?_); kqd_all; kqd_all)
   | (refine' off_above ?Zb ?Zc; (case Zb => with_reducible assumption); (case Zc => k_mem))
   | (refine' off_lt ?Zb (Nat.le_refl _) ?Zc; (case Zb => with_reducible assumption); (case Zc => tb_start))
   | (refine' off_sub ?Zb ?Zc; (case Zb => with_reducible assumption); (case Zc => tb_start))
   | exact off_nil
   | (refine' off_lt ?Zb ?Zd ?Zc; (case Zb => with_reducible assumption); (case Zd => (show (_ : Nat) ≤ _; omega)); (case Zc => tb_start))
   | fail "kqd_all: not off")
  k_with "w_k_room" =>
   (ktr_room)
  k_with "getAttr ref" =>
   ((k_here; k_dflt (refine' get_own ?Ze ?Zf ?Zg ?Zh ?Zi ?Zj ?Zk ?Zl ?Zm ?_; (case Ze | Zf => k_asm); (case Zg => (refine' InstAt.of_news ?Zn ?Zo ?Zp; (case Zn => k_asm); (case Zo | Zp => k_mem))); (case Zh | Zi | Zj | Zk => k_is); (case Zl => with_reducible assumption); (case Zm => exact rfl); k_whole)))
  k_with "call type:zip" =>
   ((k_here; k_dflt (refine' zip_use ?Zq ?Zr ?Zs ?Zt ?_; (case Zq | Zr => k_asm); (case Zs | Zt => k_mem)); intro B9 h9 Z9 F9 N9 lz9 hL9))
  k_with "call type:dict" =>
   ((k_here; (with_reducible show wpAny _ _ (call (Value.type "dict") [Value.ref _]) _ _ _); k_dflt (refine' dict_use ?Zu ?Zv ?Zw ?Zx ?Zy ?Zz ?Z10 ?Z11 ?Z12 ?_; (case Zy => with_reducible assumption); (case Zu | Zv | Zw => k_asm); (case Zx => exact rfl); (case Zz | Z10 => with_reducible assumption); (case Z11 | Z12 => k_mem)); intro d9 o9 h9 tk9 F9 N9 l1 lo9 di9; (try k_lt l1)))
  k_with "subscriptTail" =>
   ((k_here; (with_reducible show wpAny _ _ (subscriptTail _ _ (Value.ref _) (Value.str _ _)) _ _ _); k_dflt (refine' item_use ?Z13 ?Z14 ?Z15 ?_; (case Z13 => k_asm); (case Z14 => k_mem); (case Z15 => with_reducible assumption)); intro tk9))
  k_with "subscriptTail" =>
   ((k_here; (with_reducible show wpAny _ _ (subscriptTail _ _ (Value.ref _) (Value.int _ _)) _ _ _); k_dflt (first
   | (refine' my_tup ?Z16 ?Z17 ?Z18 ?Z19 ?Z1a ?Z1b ?_; (case Z16 => k_asm); (case Z17 => k_mem); (case Z18 | Z19 => decide); (case Z1a | Z1b => rfl); k_whole)
   | (refine' my_lst ?Z16 ?Z17 ?Z18 ?Z19 ?Z1b ?_; (case Z16 => k_asm); (case Z17 => k_mem); (case Z18 | Z19 | Z1b => with_reducible assumption); k_whole))))
  k_with "exec FunctionDef" =>
   (((k_here; (repeat (with_reducible rename _ ∧ _ => hc; (have hcl := hc.1); (have hcr := hc.2); clear hc)); k_dflt (refine' nestDef_K ?Z1c ?Z1d ?Z1e ?_; (case Z1c | Z1d | Z1e => exact rfl)); k_dflt (refine' nest_any ?Z1f ?Z1g ?Z1h ?Z1i ?Z1j ?Z1k ?Z1l ?Z1m ?Z1n ?Z1o ?Z1p ?_; (case Z1f | Z1g | Z1h => k_asm); (case Z1j => exact rfl); (case Z1i => with_reducible assumption); (case Z1k => (repeat (first | exact Pull.head | apply Pull.tail))); (case Z1l => kqd_all); (case Z1n => with_reducible assumption); (case Z1o => tb_start); (case Z1m => first | with_unfolding_all rfl | kernel_rfl); (case Z1p => exact rfl)); intro f9 c9 oc9 vs9 t9 doc9 ctv9 h9 tk9 ps9 F9 N9 hd9 hv9 ts9 l1 l2 l3 n9 cg9 mk9; (try k_lt l1))); all_goals (try (with_reducible rename News _ _ _ _ => nL9; refine led_let nL9 ?_; clear nL9; intro Y9 N9)))
  k_with "CompSrc" =>
   ((k_here; k_dflt (refine LCg.CompSrc.range (by rfl) (by k_asm) (by k_asm) (by assumption) (by first | decide | rfl) (by first | rfl | decide) (by first | size_fits | exact Nat.le_of_ble_eq_true rfl) ?_; intro g'; lcg_lit)))
  k_with "CompRest" =>
   ((with_unfolding_all first
   | (refine LCg.CompRest.succ ?_; intro v' I' oI' C' oC' D' m' h' tk' E' hv' hC' hx' F' N' off' ne'; (obtain ⟨t9', hv9'⟩ := hv'; subst hv9'); (have off0' := off'); (try simp only [LCg.Off3, and_true] at off'))
   | refine LCg.CompRest.zero ?_))
  k_with "CompRestP" =>
   ((with_unfolding_all first
   | (refine LCp.CompRestP.succ ?_; intro v' hv'; lcg_open hv'; refine ⟨_, _, _, _, _, rfl, by k_mem, rfl, rfl, ?_⟩; intro I' oI' C' oC' D' m' h' tk' E' hC' hx' hy' F' N' off' ne'; (have off0' := off'); (try simp only [LCg.Off3, and_true] at off'))
   | refine LCp.CompRestP.zero ?_))
  k_with "SrcLP" =>
   ((k_here; k_dflt (refine LCp.SrcLP.ledger (by rfl) (by k_asm) (by k_asm) (by k_mem) (by first | size_fits | exact Nat.le_of_ble_eq_true rfl) ?_; intro g'; lcp_lit)))
  k_with "w_lcg_src" =>
   (first | exact True.intro | exact Or.inr ⟨_, by k_mem, rfl, _, rfl⟩)
  k_with "CompEnd" =>
   ((refine' comp_end ?Z1q ?Z1r ?Z1s ?Z1t ?Z1u ?Z1v ?Z1w ?_; (case Z1q | Z1r => k_asm); (case Z1s | Z1t | Z1u => (repeat (first | exact Pull.head | apply Pull.tail))); (case Z1v => lcg_off); (case Z1w => lcg_src)))
  k_with "eval ListComp" =>
   (((k_here; (repeat (with_reducible rename _ ∧ _ => hc; (have hcl := hc.1); (have hcr := hc.2); clear hc)); k_dflt (refine' have_change (w := _) (ρ := _) (G := _) ?Z1x ?Z1y ?Z1z ?Z20 ?Z21 ?Z22 ?Z23 ?Z24 ?Z25 ?Z26 ?Z27 ?Z28 ?Z29 ?Z2a; (case Z1x | Z1y => k_asm); (case Z1z => with_reducible assumption); (case Z20 => exact rfl); (case Z25 | Z26 | Z27 => k_mem); (case Z21 => assumption); (case Z28 => k_mem); (case Z22 | Z23 => with_reducible assumption); (case Z24 => exact rfl)); (case' Z29 => (intro tk9 news9 dp9 un9 gd9 cn9 cs9 a9 ccd9 cl9 outer9 A9 base9 g9 L9 m9 s9 Q9 E9 B9 F9 X9 N9 T9 hk9 hr9 hu9 ret9)); (case' Z2a => (intro hch9; (k_dflt (refine LCp.ListComp_P (F₀ := by k_asm) (by with_unfolding_all rfl) (by decide) (by rfl) (by decide) (by rfl) (by rfl) (by decide) ?_)))))); all_goals (try (with_reducible rename News _ _ _ _ => nL9; refine led_let nL9 ?_; clear nL9; intro Y9 N9)))
  k_with "call ref" =>
   ((k_here; k_dflt (refine wpAny_call ?_; (refine' code_nest ?Z2b ?Z2c ?Z2d ?Z2e ?Z2f ?Z2g ?Z2h ?Z2i ?Z2j ?Z2k ?Z2l ?Z2m ?Z2n ?_ ?Z2o ?Z2p ?Z2q ?Z2r; (case Z2g | Z2h => exact rfl); (case Z2i => assumption); (case Z2b | Z2c | Z2d | Z2e | Z2f => k_asm); (case Z2j => k_mem); (case Z2k => exact codeRec_news (by k_asm) (by k_mem) (by assumption) (by assumption)); (case Z2l => ktr_room); (case Z2m => exact BindsTo.of_eq rfl); (case Z2r => decide); (case Z2n => exact locs rfl); (case Z2o | Z2p | Z2q => exact rfl); k_whole; intro g' L' h' FG' F' N' B' X' T'; (try dsimp only); (try k_fold)))))
  k_with "getMethod ref" =>
   ((k_here; (with_reducible show wpAny _ _ (getMethod (Value.ref _) (Str.ofString "get") _) _ _ _); k_dflt (refine kdg_method (knd := PySem.strKind _ _) (by k_asm) (by k_mem) (by k_asm) ?_)))
  k_with "call builtin:dict.get" =>
   ((k_here; k_dflt (refine kdg_get2 (knd := PySem.strKind _ _) (by k_asm) (by k_mem) (by k_asm) (by k_asm) (strKind_is _ _ _ _) _ (by rfl) ?_)))
  k_with "call ref" =>
   ((k_here; (with_reducible show wpAny _ _ (call (Value.ref 45) _) _ _ _); k_dflt (refine' wrf_use ?Z2s ?Z2t ?Z2u ?Z2v ?Z2w ?Z2x ?Z2y ?Z2z ?Z30 ?Z31 ?Z32 ?Z33 ?_; (case Z2t => with_reducible assumption); (case Z2x | Z2z => k_asm); (case Z2s => with_reducible assumption); (case Z2u | Z2v => tb_start); (case Z2w | Z2y | Z30 => k_asm); (case Z31 => first | exact rfl | with_reducible assumption); (case Z32 => ktr_room); (case Z33 => ktr_units)); intro r9 tl9 h9 tk9 F9 N9 ab9 dt9; (try simp only [List.nil_append, List.cons_append, List.append_nil] at N9); (try dsimp only); (try k_fold)))
  k_with "call ref" =>
   ((k_here; (with_reducible show wpAny _ _ (call (Value.ref 40) _) _ _ _); k_dflt (refine' sbf_use ?Z34 ?Z35 ?Z36 ?Z37 ?Z38 ?Z39 ?Z3a ?Z3b ?Z3c ?Z3d ?Z3e ?Z3f ?Z3g ?Z3h ?Z3i ?_; (case Z34 => with_reducible assumption); (case Z3c | Z3e => k_asm); (case Z36 => k_mem); (case Z37 | Z38 => with_reducible assumption); (case Z39 => tb_start); (case Z3b | Z3d | Z3f => k_asm); (case Z3g => first | exact rfl | with_reducible assumption); (case Z3h => ktr_room); (case Z3i => ktr_units); (case Z35 => with_reducible assumption); (case Z3a => tb_start)); intro r9 tl9 h9 tk9 F9 N9 ab9 dt9; (try simp only [List.nil_append, List.cons_append, List.append_nil] at N9); (try dsimp only); (try k_fold)))
  k_with "execs cons" =>
   (k_here; (try k_gentoks); (first | ((fail_if_success (fail_if_success k_fold)); (with_reducible refine' ec_let2 ?_); intro q0 e0 K0) | ((with_reducible refine' ec_let ?_); intro K0)); (all_goals (try ((with_reducible rename Fr _ _ _ (fun _ => ite _ _ _) => f9); refine fr_let f9 ?_; clear f9; intro m0 F0))); (try dsimp only))
  k_with "eval Constant str" =>
   (with_reducible refine' con_str ?_)
  k_with "eval Constant int" =>
   (with_reducible refine' con_int ?_)
  k_with "subscriptTail Name Constant ref int" =>
   (k_extra "subscriptTail")
  k_with "callWith ref" =>
   (k_here; (with_reducible show wpAny _ _ (callWith _ (Value.ref _) _ (backTo _ (starEach (_ :: _) _)) []) _ _ _); k_dflt (refine' callWith_K ?zc1 ?zc2 ?_; (case zc1 => with_reducible assumption); (case zc2 => k_is); k_whole))
  k_with "callWith ref" =>
   (k_here; (with_reducible show wpAny _ _ (callWith _ (Value.ref _) _ (backTo _ (starEach [] _)) []) _ _ _); k_dflt (refine' callWith_K0 ?zc1 ?zc2 ?_; (case zc1 => exact Frag.In.keeps (by with_reducible assumption) (Fr.keep (by k_asm))); (case zc2 => k_is); k_whole))
  k_with "eval Name" =>
   (k_here; k_dflt (first
   | (refine' nameX_L ?zn1 ?zn2 ?_ ?zn3 ?zn4; (case zn3 | zn4 => rfl); (case zn1 => k_asm); (case zn2 => rfl); k_whole)
   | (refine' nameX_K ?zn1 ?zn2 ?zn3 ?zn4 ?_ ?zn5 ?zn6; (case zn5 | zn6 => rfl); (case zn1 | zn2 | zn3 => k_asm); (case zn4 => k_is); k_whole)
   | (refine' nameX_B ?zn1 ?zn2 ?zn3 ?zn4 ?zn5 ?zn6 ?_ ?zn7 ?zn8; (case zn7 | zn8 => rfl); (case zn1 | zn2 | zn3 => k_asm); (case zn4 => k_is); (case zn5 => boot_fast); (case zn6 => decide); k_whole)
   | fail))
  k_with "newTuple" =>
   (k_here; k_dflt (refine' tup_let ?z30 ?z4 ?z0 ?_; (case z30 | z4 => k_asm); (case z0 => kmk_size)); intro D' h' e' Y' F' N' l1; (try k_sweep))
  k_with "newList" =>
   (k_here; k_dflt (refine' lst_let ?z30 ?z4 ?z0 ?_; (case z30 | z4 => k_asm); (case z0 => kmk_size)); intro D' h' e' Y' F' N' l1; (try k_sweep))
  k_with "binaryOp Add ref ref" =>
   (k_here; (with_reducible show wpAny _ _ (binaryOp Operator.Add (Value.ref _) (Value.ref _)) _ _ _); k_dflt (refine' kde_addT ?z1 ?z27 ?z25 ?z2 ?z18 ?z23 ?z21 ?z24 ?_; (case z1 | z27 => k_asm); (case z25 | z2 => exact News.isTup (by k_asm) (by k_mem)); (case z18 | z23 => exact List.cons_ne_nil _ _); (case z21 => exact Nat.le_of_ble_eq_true rfl); (case z24 => kun_lit)); intro D' h' F' N' l1; (replace l1 := allLt_of l1); (try k_sweep))
  k_with "k_up" =>
   (first
   | with_reducible exact hp
   | ((with_reducible refine List.mem_cons_of_mem _ ?_); k_extra "k_up")
   | ((with_reducible refine List.mem_append_left _ ?_); k_extra "k_up")
   | ((with_reducible refine List.mem_append_right _ ?_); k_extra "k_up")
   | fail)
  k_with "w_tb_start" =>
   (first
   | exact sub_nil
   | (intro p hp; k_extra "k_up")
   | (refine' sub_trans ?z28 ?z13; (case z28 => with_reducible assumption); (case z13 => (intro p hp; k_extra "k_up")))
   | ((with_reducible refine sub_app ?_ ?_) <;> tb_start)
   | ((with_reducible refine sub_cons ?_ ?_); k_mem; tb_start)
   | fail)
  k_with "w_k_mem" =>
   (focus ((repeat (with_reducible first | exact List.mem_cons_self | refine List.mem_cons_of_mem _ ?_ | refine List.mem_append_left _ ?_)); done))
  k_with "w_kqd_sub" =>
   (with_reducible first
   | exact gdJ_nil
   | (refine' gdJ_app ?_ ?_ <;> kqd_sub)
   | (refine' gd_app ?_ ?_ <;> kqd_sub)
   | (refine' gdJ_new ?z32 ?z12 ?z22 ?z9; (case z12 | z22 => assumption); (case z32 | z9 => k_dflt tb_start))
   | (refine' gd_new ?z32 ?z12 ?z9; (case z12 => assumption); (case z32 | z9 => k_dflt tb_start))
   | (refine' gd_cons0 ?z15 ?z10; (case z15 => first | (refine' gd_had ?z31 ?z38; (case z38 => assumption); (case z31 => k_dflt k_mem)) | (refine' gd_one ?z31 ?z38 ?z37; (case z38 => assumption); (case z31 => k_dflt k_mem); (case z37 => k_dflt tb_start))); (case z10 => kqd_sub))
   | (refine' gdJ_old ?z32 ?z9; (case z9 | z32 => k_dflt tb_start))
   | (refine' gd_old ?z32 ?z9; (case z9 | z32 => k_dflt tb_start))
   | fail)
  k_with "w_tb_rel" =>
   (with_reducible first
   | exact DatP.none
   | exact DatP.bool _
   | exact DatP.int _ _
   | exact DatP.str _ _
   | exact DatPs.nil
   | (refine' DatPs.cons ?_ ?_ <;> first | ((with_reducible show DatP _ _ _); tb_rel) | ((with_reducible show DatPs _ _ _); tb_rel) | ((with_reducible show Dat); skip) | ((with_reducible show List Dat); skip))
   | (refine' datP_in ?z5 ?z37; (case z5 => assumption); (case z37 => k_dflt kqd_sub))
   | (refine' datP_gdJ ?z31 ?z34 ?z35; (case z31 => k_dflt k_mem); (case z34 => first | (refine' gdJ_had ?z31 ?z38; (case z38 => assumption); (case z31 => k_dflt k_mem)) | (refine' gdJ_one ?z31 ?z38 ?z37 ?z19; (case z38 => assumption); (case z31 => k_dflt k_mem); (case z37 => k_dflt tb_start); (case z19 => k_dflt (k_extra "k_ltA")))); (case z35 => tb_rel))
   | (refine' datP_gd ?z31 ?z34 ?z35; (case z31 => k_dflt k_mem); (case z34 => first | (refine' gd_had ?z31 ?z38; (case z38 => assumption); (case z31 => k_dflt k_mem)) | (refine' gd_one ?z31 ?z38 ?z37; (case z38 => assumption); (case z31 => k_dflt k_mem); (case z37 => k_dflt tb_start))); (case z35 => tb_rel))
   | fail)
  k_with "w_lcg_off" =>
   (with_reducible first
   | assumption
   | exact off3_nil
   | (refine' off3_app ?_ ?_ <;> lcg_off)
   | (refine' off3_any ?z40 ?z14 ?z3; (case z40 => assumption); (case z14 => k_dflt k_mem); (case z3 => lcg_off))
   | (refine' off3_cons ⟨?z42, ?z16, ?z17⟩ ?z3; (case z42 | z16 | z17 => k_dflt k_ne); (case z3 => lcg_off))
   | (refine' off3_above ?z40 ?z42 ?z16 ?z17; (case z40 => assumption); (case z42 | z16 | z17 => k_dflt k_mem))
   | (refine' off3_sub ?z40 ?z3; (case z40 => assumption); (case z3 => k_dflt tb_start))
   | fail)
  k_with "w_ktr_room" =>
   ((try simp only [depth_under_make, depth_under_kw, depth_in1, depth_deeper, depth_caller]); (try dsimp only [ktrTop]); with_reducible first
   | (refine' room2 ?z11 ?z20; (case z11 => assumption); (case z20 => k_dflt (first | exact Nat.le_of_ble_eq_true rfl | omega)))
   | (refine' room1 ?z11 ?z20; (case z11 => assumption); (case z20 => k_dflt (first | exact Nat.le_of_ble_eq_true rfl | omega)))
   | (refine' room0 ?z11; (case z11 => assumption))
   | fail)
  k_with "w_ktr_units" =>
   ((try simp only [units_in1, units_deeper, Around.mark_units, units_caller]); (try dsimp only [ktrTop]); with_reducible first
   | (refine' unit2 ?z11 ?z20; (case z11 => assumption); (case z20 => k_dflt (first | exact Nat.le_of_ble_eq_true rfl | omega)))
   | (refine' unit1 ?z11 ?z20; (case z11 => assumption); (case z20 => k_dflt (first | exact Nat.le_of_ble_eq_true rfl | omega)))
   | fail)
  k_with "k_ltA" =>
   (first
   | (refine' lt_all ?z6 ?z36; (case z6 => with_reducible assumption); (case z36 => k_mem))
   | (refine ltN ?_; omega))
  k_with "pack" =>
   skip
  trivial
theorem fields0 {ρ : Rg} {t : Ty} {va wa fl : Addr} {vs fs : List Value} {nv nf : Nat} {i : Int} {ti : Tok} {v vk : Value} {ps : Array Value} {rest D lt : List (Addr × Obj)} {sn sk : Str} {fd : List Dat} (off : Off 68 rest) (ht : t.dp ≤ 2) (hW : WorldR w rest wa va) (hva : (va, listOf vs.toArray nv) ∈ rest) (hi0 : 0 ≤ i) (hi1 : i < 2 ^ 63) (hvk : vs[i.toNat]? = some vk) (hv : Dt D v (tyD (.adt ρ t))) (hk' : Dt D vk (.tuple [.str sn, .str sk, .list fd])) (hs1 : ∀ p ∈ D, p ∈ rest) (hT : TabSt ⟨50, 4, 51, 42⟩ (Str.ofString "fields_of.<locals>.put_in") ps lt) (hlt : ∀ p ∈ lt, p ∈ rest) (hf : FdsD fd []) : CallOk PySem.Challenge.rw_xm0591_01.row.prog w (hd.heap_1 w.params) topProg loose mean mg mb 14 71 [v, .int i ti, .ref wa] ((68, tabObj ps) :: rest) (FPost ⟨50, 4, 51, 42⟩ lt D rest ρ t []) := by
  obtain ⟨a1, w1, w2, w3, n1, rfl, hm1, k1, k2, k3⟩ := in_tup3 hk'
  obtain ⟨kt1, rfl⟩ := in_str k1
  obtain ⟨kt2, rfl⟩ := in_str k2
  obtain ⟨fl, fs, nf, rfl, hm2, k4⟩ := in_list k3
  cases hf
  obtain rfl := all_nil k4
  obtain ⟨b, t1, t2, t3, t4, n, rfl, hm, h1, h2, h3, h4⟩ := in_tup4 hv
  obtain ⟨tk1, rfl⟩ := in_str h1
  obtain ⟨tk2, rfl⟩ := in_str h2
  obtain ⟨b3, r1, n3, rfl, hm4, h5⟩ := in_tup1 h3
  obtain ⟨b4, i1, n4, rfl, hm5, h6⟩ := in_tup1 h4
  obtain ⟨dx, es, k, ad, o, ai, dy, fs', k2', rl, nr, tr, pl, np, tp, m1, m2, g1, m3, g2, g3, m4, m5, g4, g5, g6, m6, m7⟩ := hW
  unfold CallOk
  intro dp un gd cn cs a' ccd cl outer A₀ base h₀ L m s Q E B F X N T hk hdp hun hret
  replace N := News.sub N (sub_cons (.tail _ hva) (sub_cons (.tail _ (hs1 _ hm1)) (sub_cons (.tail _ (hs1 _ hm2)) (sub_cons (.tail _ (hs1 _ hm)) (sub_cons (.tail _ (hs1 _ hm4)) (sub_cons (.tail _ (hs1 _ hm5)) (sub_cons (.tail _ m1) (sub_cons (.tail _ m2) (sub_cons (.tail _ m3) (sub_cons (.tail _ m4) (sub_cons (.tail _ m5) (sub_cons (.tail _ m6) (sub_cons (.tail _ m7) fun p hp => hp)))))))))))))
  have e1 := off _ hva
  have e2 := off _ (hs1 _ hm1)
  have e3 := off _ (hs1 _ hm2)
  have e5 := off _ (hs1 _ hm)
  have e6 := off _ (hs1 _ hm4)
  have e7 := off _ (hs1 _ hm5)
  have f1 := off _ m1
  have f2 := off _ m2
  have f3 := off _ m3
  have f4 := off _ m4
  have f5 := off _ m5
  have f6 := off _ m6
  have f7 := off _ m7
  dsimp only at e1 e2 e3  e5 e6 e7 f1 f2 f3 f4 f5 f6 f7
  refine wpAny_call ?_
  refine' code_defC ?k1 ?k2 ?k3 ?k4 ?k5 ?kA ?kF ?kK ?k6 ?k7 ?k8 ?k9 ?kB ?kD ?_ ?c2 ?c3 ?c4; (case kA => exact rfl); (case kF => exact rfl); (case kK => first | exact rfl | assumption); (case k1 => k_asm); (case k2 => k_asm); (case k3 => k_asm); (case k4 => k_asm); (case k5 => k_asm); (case k6 => k_is); (case k7 => k_is); (case k8 => ktr_room); (case k9 => exact BindsTo.of_eq rfl); (case kB => exact rfl); (case kD => decide +kernel); (case c2 => exact rfl); (case c3 => exact rfl); (case c4 => exact rfl)
  k_whole
  intro g' L' h' tk' cells' FG' F' N' Y' B' X' T' l1
  have hoc1 := cell_off l1
  have hoc2 := cell_off2 l1
  have hoc3 := cell_off3 l1
  have C68 : CodeHd g' 70 68 := codeHd_of_K X' (by kernel_rfl)
  replace l1 := allLt_of l1
  have hY := CellsAre.three Y'
  obtain ⟨o1', o2', o3', hE', d1', d2', d3'⟩ := hY
  subst hE'
  clear Y'
  replace d1' := cell_empty d1' (by with_unfolding_all rfl)
  replace d2' := cell_empty d2' (by with_unfolding_all rfl)
  replace d3' := cell_empty d3' (by with_unfolding_all rfl)
  simp only [List.cons_append, List.nil_append] at N'
  dsimp only
  try k_fold
  all_goals (try (with_reducible rename News _ _ _ _ => nL9; refine led_let nL9 ?_; clear nL9; intro Y0 N9))
  k_steps
  all_goals (repeat (with_reducible rename _ ∧ _ => hc; (have hcl := hc.1); (have hcr := hc.2); clear hc))
  rotate_left
  · with_reducible rename Back _ _ _ _ _ _ _ => retX
    refine' back_use retX ?F ?N ?s ?d
    case F => k_asm
    case N => k_asm
    case s => tb_start
    case d => with_reducible assumption
  refine hret _ _ _ _ (by k_asm) (by k_asm) ?_
  refine' fpost ?h1 ?h2 ?h3 ?h4 ?h5 ?h6 ?h7 ?h8 ?h9 ?h10 ?h11
  case h1 => k_mem
  case h2 => tb_start
  case h3 => with_reducible assumption
  case h4 => with_reducible assumption
  case h5 => tb_start
  case h6 => k_mem
  case h7 => k_mem
  case h8 => (refine' off_of1 ?h ?s; (case h => with_reducible assumption); (case s => tb_start))
  case h9 => k_ne
  case h10 => tb_rel
  case h11 => repeat (first | exact OutsD.nil | apply OutsD.cons)
end
section
theorem fields1 {ρ : Rg} {t : Ty} {va wa fl : Addr} {vs fs : List Value} {nv nf : Nat} {i : Int} {ti : Tok} {v vk : Value} {ps : Array Value} {rest D lt : List (Addr × Obj)} {sn sk : Str} {fd : List Dat} (off : Off 68 rest) (ht : t.dp ≤ 2) (hW : WorldR w rest wa va) (hva : (va, listOf vs.toArray nv) ∈ rest) (hi0 : 0 ≤ i) (hi1 : i < 2 ^ 63) (hvk : vs[i.toNat]? = some vk) (hv : Dt D v (tyD (.adt ρ t))) (hk' : Dt D vk (.tuple [.str sn, .str sk, .list fd])) (hs1 : ∀ p ∈ D, p ∈ rest) (hT : TabSt ⟨50, 4, 51, 42⟩ (Str.ofString "fields_of.<locals>.put_in") ps lt) (hlt : ∀ p ∈ lt, p ∈ rest) {ff0 : Fd} (hf : FdsD fd [ff0]) : CallOk PySem.Challenge.rw_xm0591_01.row.prog w (hd.heap_1 w.params) topProg loose mean mg mb 14 71 [v, .int i ti, .ref wa] ((68, tabObj ps) :: rest) (FPost ⟨50, 4, 51, 42⟩ lt D rest ρ t [ff0]) := by
  obtain ⟨a1, w1, w2, w3, n1, rfl, hm1, k1, k2, k3⟩ := in_tup3 hk'
  obtain ⟨kt1, rfl⟩ := in_str k1
  obtain ⟨kt2, rfl⟩ := in_str k2
  obtain ⟨fl, fs, nf, rfl, hm2, k4⟩ := in_list k3
  cases hf with
  | cons hf =>
  cases hf
  obtain ⟨z0, zs0, rfl, kz0, ky0⟩ := all_cons k4
  obtain ⟨bb0, xx0, yy0, nn0, rfl, hmm0, kk0, kl0⟩ := in_tup2 kz0
  obtain ⟨kt10, rfl⟩ := in_str kk0
  obtain rfl := all_nil ky0
  obtain ⟨b, t1, t2, t3, t4, n, rfl, hm, h1, h2, h3, h4⟩ := in_tup4 hv
  obtain ⟨tk1, rfl⟩ := in_str h1
  obtain ⟨tk2, rfl⟩ := in_str h2
  obtain ⟨b3, r1, n3, rfl, hm4, h5⟩ := in_tup1 h3
  obtain ⟨b4, i1, n4, rfl, hm5, h6⟩ := in_tup1 h4
  obtain ⟨dx, es, k, ad, o, ai, dy, fs', k2', rl, nr, tr, pl, np, tp, m1, m2, g1, m3, g2, g3, m4, m5, g4, g5, g6, m6, m7⟩ := hW
  unfold CallOk
  intro dp un gd cn cs a' ccd cl outer A₀ base h₀ L m s Q E B F X N T hk hdp hun hret
  replace N := News.sub N (sub_cons (.tail _ hva) (sub_cons (.tail _ (hs1 _ hm1)) (sub_cons (.tail _ (hs1 _ hm2)) (sub_cons (.tail _ (hs1 _ hmm0)) (sub_cons (.tail _ (hs1 _ hm)) (sub_cons (.tail _ (hs1 _ hm4)) (sub_cons (.tail _ (hs1 _ hm5)) (sub_cons (.tail _ m1) (sub_cons (.tail _ m2) (sub_cons (.tail _ m3) (sub_cons (.tail _ m4) (sub_cons (.tail _ m5) (sub_cons (.tail _ m6) (sub_cons (.tail _ m7) fun p hp => hp))))))))))))))
  have e1 := off _ hva
  have e2 := off _ (hs1 _ hm1)
  have e3 := off _ (hs1 _ hm2)
  have ee0 := off _ (hs1 _ hmm0)
  have e5 := off _ (hs1 _ hm)
  have e6 := off _ (hs1 _ hm4)
  have e7 := off _ (hs1 _ hm5)
  have f1 := off _ m1
  have f2 := off _ m2
  have f3 := off _ m3
  have f4 := off _ m4
  have f5 := off _ m5
  have f6 := off _ m6
  have f7 := off _ m7
  dsimp only at e1 e2 e3 ee0 e5 e6 e7 f1 f2 f3 f4 f5 f6 f7
  refine wpAny_call ?_
  refine' code_defC ?k1 ?k2 ?k3 ?k4 ?k5 ?kA ?kF ?kK ?k6 ?k7 ?k8 ?k9 ?kB ?kD ?_ ?c2 ?c3 ?c4; (case kA => exact rfl); (case kF => exact rfl); (case kK => first | exact rfl | assumption); (case k1 => k_asm); (case k2 => k_asm); (case k3 => k_asm); (case k4 => k_asm); (case k5 => k_asm); (case k6 => k_is); (case k7 => k_is); (case k8 => ktr_room); (case k9 => exact BindsTo.of_eq rfl); (case kB => exact rfl); (case kD => decide +kernel); (case c2 => exact rfl); (case c3 => exact rfl); (case c4 => exact rfl)
  k_whole
  intro g' L' h' tk' cells' FG' F' N' Y' B' X' T' l1
  have hoc1 := cell_off l1
  have hoc2 := cell_off2 l1
  have hoc3 := cell_off3 l1
  have C68 : CodeHd g' 70 68 := codeHd_of_K X' (by kernel_rfl)
  replace l1 := allLt_of l1
  have hY := CellsAre.three Y'
  obtain ⟨o1', o2', o3', hE', d1', d2', d3'⟩ := hY
  subst hE'
  clear Y'
  replace d1' := cell_empty d1' (by with_unfolding_all rfl)
  replace d2' := cell_empty d2' (by with_unfolding_all rfl)
  replace d3' := cell_empty d3' (by with_unfolding_all rfl)
  simp only [List.cons_append, List.nil_append] at N'
  dsimp only
  try k_fold
  all_goals (try (with_reducible rename News _ _ _ _ => nL9; refine led_let nL9 ?_; clear nL9; intro Y0 N9))
  k_steps
  all_goals (repeat (with_reducible rename _ ∧ _ => hc; (have hcl := hc.1); (have hcr := hc.2); clear hc))
  rotate_left
  · with_reducible rename Back _ _ _ _ _ _ _ => retX
    refine' back_use retX ?F ?N ?s ?d
    case F => k_asm
    case N => k_asm
    case s => tb_start
    case d => with_reducible assumption
  refine hret _ _ _ _ (by k_asm) (by k_asm) ?_
  refine' fpost ?h1 ?h2 ?h3 ?h4 ?h5 ?h6 ?h7 ?h8 ?h9 ?h10 ?h11
  case h1 => k_mem
  case h2 => tb_start
  case h3 => with_reducible assumption
  case h4 => with_reducible assumption
  case h5 => tb_start
  case h6 => k_mem
  case h7 => k_mem
  case h8 => (refine' off_of1 ?h ?s; (case h => with_reducible assumption); (case s => tb_start))
  case h9 => k_ne
  case h10 => tb_rel
  case h11 => repeat (first | exact OutsD.nil | apply OutsD.cons)
end
section
theorem fields2 {ρ : Rg} {t : Ty} {va wa fl : Addr} {vs fs : List Value} {nv nf : Nat} {i : Int} {ti : Tok} {v vk : Value} {ps : Array Value} {rest D lt : List (Addr × Obj)} {sn sk : Str} {fd : List Dat} (off : Off 68 rest) (ht : t.dp ≤ 2) (hW : WorldR w rest wa va) (hva : (va, listOf vs.toArray nv) ∈ rest) (hi0 : 0 ≤ i) (hi1 : i < 2 ^ 63) (hvk : vs[i.toNat]? = some vk) (hv : Dt D v (tyD (.adt ρ t))) (hk' : Dt D vk (.tuple [.str sn, .str sk, .list fd])) (hs1 : ∀ p ∈ D, p ∈ rest) (hT : TabSt ⟨50, 4, 51, 42⟩ (Str.ofString "fields_of.<locals>.put_in") ps lt) (hlt : ∀ p ∈ lt, p ∈ rest) {ff0 ff1 : Fd} (hf : FdsD fd [ff0, ff1]) : CallOk PySem.Challenge.rw_xm0591_01.row.prog w (hd.heap_1 w.params) topProg loose mean mg mb 14 71 [v, .int i ti, .ref wa] ((68, tabObj ps) :: rest) (FPost ⟨50, 4, 51, 42⟩ lt D rest ρ t [ff0, ff1]) := by
  obtain ⟨a1, w1, w2, w3, n1, rfl, hm1, k1, k2, k3⟩ := in_tup3 hk'
  obtain ⟨kt1, rfl⟩ := in_str k1
  obtain ⟨kt2, rfl⟩ := in_str k2
  obtain ⟨fl, fs, nf, rfl, hm2, k4⟩ := in_list k3
  cases hf with
  | cons hf =>
  cases hf with
  | cons hf =>
  cases hf
  obtain ⟨z0, zs0, rfl, kz0, ky0⟩ := all_cons k4
  obtain ⟨bb0, xx0, yy0, nn0, rfl, hmm0, kk0, kl0⟩ := in_tup2 kz0
  obtain ⟨kt10, rfl⟩ := in_str kk0
  obtain ⟨z1, zs1, rfl, kz1, ky1⟩ := all_cons ky0
  obtain ⟨bb1, xx1, yy1, nn1, rfl, hmm1, kk1, kl1⟩ := in_tup2 kz1
  obtain ⟨kt11, rfl⟩ := in_str kk1
  obtain rfl := all_nil ky1
  obtain ⟨b, t1, t2, t3, t4, n, rfl, hm, h1, h2, h3, h4⟩ := in_tup4 hv
  obtain ⟨tk1, rfl⟩ := in_str h1
  obtain ⟨tk2, rfl⟩ := in_str h2
  obtain ⟨b3, r1, n3, rfl, hm4, h5⟩ := in_tup1 h3
  obtain ⟨b4, i1, n4, rfl, hm5, h6⟩ := in_tup1 h4
  obtain ⟨dx, es, k, ad, o, ai, dy, fs', k2', rl, nr, tr, pl, np, tp, m1, m2, g1, m3, g2, g3, m4, m5, g4, g5, g6, m6, m7⟩ := hW
  unfold CallOk
  intro dp un gd cn cs a' ccd cl outer A₀ base h₀ L m s Q E B F X N T hk hdp hun hret
  replace N := News.sub N (sub_cons (.tail _ hva) (sub_cons (.tail _ (hs1 _ hm1)) (sub_cons (.tail _ (hs1 _ hm2)) (sub_cons (.tail _ (hs1 _ hmm0)) (sub_cons (.tail _ (hs1 _ hmm1)) (sub_cons (.tail _ (hs1 _ hm)) (sub_cons (.tail _ (hs1 _ hm4)) (sub_cons (.tail _ (hs1 _ hm5)) (sub_cons (.tail _ m1) (sub_cons (.tail _ m2) (sub_cons (.tail _ m3) (sub_cons (.tail _ m4) (sub_cons (.tail _ m5) (sub_cons (.tail _ m6) (sub_cons (.tail _ m7) fun p hp => hp)))))))))))))))
  have e1 := off _ hva
  have e2 := off _ (hs1 _ hm1)
  have e3 := off _ (hs1 _ hm2)
  have ee0 := off _ (hs1 _ hmm0)
  have ee1 := off _ (hs1 _ hmm1)
  have e5 := off _ (hs1 _ hm)
  have e6 := off _ (hs1 _ hm4)
  have e7 := off _ (hs1 _ hm5)
  have f1 := off _ m1
  have f2 := off _ m2
  have f3 := off _ m3
  have f4 := off _ m4
  have f5 := off _ m5
  have f6 := off _ m6
  have f7 := off _ m7
  dsimp only at e1 e2 e3 ee0 ee1 e5 e6 e7 f1 f2 f3 f4 f5 f6 f7
  refine wpAny_call ?_
  refine' code_defC ?k1 ?k2 ?k3 ?k4 ?k5 ?kA ?kF ?kK ?k6 ?k7 ?k8 ?k9 ?kB ?kD ?_ ?c2 ?c3 ?c4; (case kA => exact rfl); (case kF => exact rfl); (case kK => first | exact rfl | assumption); (case k1 => k_asm); (case k2 => k_asm); (case k3 => k_asm); (case k4 => k_asm); (case k5 => k_asm); (case k6 => k_is); (case k7 => k_is); (case k8 => ktr_room); (case k9 => exact BindsTo.of_eq rfl); (case kB => exact rfl); (case kD => decide +kernel); (case c2 => exact rfl); (case c3 => exact rfl); (case c4 => exact rfl)
  k_whole
  intro g' L' h' tk' cells' FG' F' N' Y' B' X' T' l1
  have hoc1 := cell_off l1
  have hoc2 := cell_off2 l1
  have hoc3 := cell_off3 l1
  have C68 : CodeHd g' 70 68 := codeHd_of_K X' (by kernel_rfl)
  replace l1 := allLt_of l1
  have hY := CellsAre.three Y'
  obtain ⟨o1', o2', o3', hE', d1', d2', d3'⟩ := hY
  subst hE'
  clear Y'
  replace d1' := cell_empty d1' (by with_unfolding_all rfl)
  replace d2' := cell_empty d2' (by with_unfolding_all rfl)
  replace d3' := cell_empty d3' (by with_unfolding_all rfl)
  simp only [List.cons_append, List.nil_append] at N'
  dsimp only
  try k_fold
  all_goals (try (with_reducible rename News _ _ _ _ => nL9; refine led_let nL9 ?_; clear nL9; intro Y0 N9))
  k_steps
  all_goals (repeat (with_reducible rename _ ∧ _ => hc; (have hcl := hc.1); (have hcr := hc.2); clear hc))
  rotate_left
  · with_reducible rename Back _ _ _ _ _ _ _ => retX
    refine' back_use retX ?F ?N ?s ?d
    case F => k_asm
    case N => k_asm
    case s => tb_start
    case d => with_reducible assumption
  refine hret _ _ _ _ (by k_asm) (by k_asm) ?_
  refine' fpost ?h1 ?h2 ?h3 ?h4 ?h5 ?h6 ?h7 ?h8 ?h9 ?h10 ?h11
  case h1 => k_mem
  case h2 => tb_start
  case h3 => with_reducible assumption
  case h4 => with_reducible assumption
  case h5 => tb_start
  case h6 => k_mem
  case h7 => k_mem
  case h8 => (refine' off_of1 ?h ?s; (case h => with_reducible assumption); (case s => tb_start))
  case h9 => k_ne
  case h10 => tb_rel
  case h11 => repeat (first | exact OutsD.nil | apply OutsD.cons)
end
end
end Mine
namespace Mine
example : True := by
  w_top off
  k_with_none
  trivial

section
variable {w : World} {loose : List Str} {mean : ExcName → Option Value} {mg mb : Str → Option Value}
theorem off68 {rest tl : List (Addr × Obj)} {wa va : Addr} (hW : WorldR w rest wa va) (h68 : @LT.lt Nat _ 68 wa) (ab : Above rest tl) : Off 68 tl := by
  obtain ⟨dx, es, k, ad, o, ai, dy, fs, k2, rl, nr, tr, pl, np, tp, h1, h2⟩ := hW
  exact fun p hp => Nat.ne_of_gt (Nat.lt_trans h68 (ab p hp _ h1))
theorem fields_from {ρ : Rg} {t : Ty} {va wa : Addr} {i : Int} {ti : Tok} {v : Value} {ps : Array Value} {news rest D lt : List (Addr × Obj)} {fds : List Fd} {dp un : Nat} {gd : Option (List Code)} {cn : Str} {cs : Scope} {a : Addr} {ccd : Value} {cl : List (Str × Addr)} {outer : List Env} {A₀ : Around} {base h₀ : Heap} {L : Addr} {m : Str → Option Value} {hS : Heap} {gS : Array GenState} {dS : Drawn} {tS : Nat} {oS : OsState} {Q E : Value → Shared → Prop}
  {P : Pull (68, tabObj ps) news rest} (hs1 : ∀ p ∈ D, p ∈ rest) (off : Off 68 rest) (h68 : @LT.lt Nat _ 68 wa) (hW : WorldR w rest wa va) (C : CallOk PySem.Challenge.rw_xm0591_01.row.prog w (hd.heap_1 w.params) topProg loose mean mg mb 14 71 [v, .int i ti, .ref wa] ((68, tabObj ps) :: rest) (FPost ⟨50, 4, 51, 42⟩ lt D rest ρ t fds))
  (B : Below A₀ base outer h₀) (F : Fr h₀ L hS m) (X : (hd.heap_1 w.params).In h₀) (N : News h₀ L hS news) (T : Top topProg loose mean mg mb h₀) (hk : cs.kind = .function) (hr : dp + 14 < recursionLimit) (hu : un + 8 * 14 < cLine)
  (ret : ∀ ps' lt' fo n vs ds tl h' tk', Fr h₀ L h' m → News h₀ L h' ((68, tabObj ps') :: (fo, listOf (List.toArray vs) n) :: (rest ++ tl)) → Above rest tl → Off 68 tl → TabSt ⟨50, 4, 51, 42⟩ (Str.ofString "fields_of.<locals>.put_in") ps' lt' → (∀ p ∈ lt', p ∈ lt ++ tl) → Off fo rest → @Ne Nat fo 68 → Dts (D ++ tl) vs ds → OutsD ρ t ds fds → Q (.ref fo) ⟨h', gS, dS, tk', oS⟩) : wpAny (model PySem.Challenge.rw_xm0591_01.row.prog w) (ktrTop dp un gd cn cs L a ccd cl outer) (call (.ref 71) [v, .int i ti, .ref wa]) Q E ⟨hS, gS, dS, tS, oS⟩ :=
  C _ _ _ _ _ _ _ _ _ _ _ _ _ _ _ _ _ B F X (News.sub N P.mem) T hk hr hu fun r l h' tk' F' N' hp => by
    classical
    obtain ⟨ps', lt', fo, vs, n, ds, rfl, h1, h2, h3, h4, h5, h6, h7, h8, h9⟩ := hp
    have key : ∀ D : List (Addr × Obj), ∀ p, Gd D rest l p → p ∈ D ++ l.filter fun p => decide (∀ q ∈ rest, q.1 < p.1) := fun D p hG => by
      rcases hG.2 with h | h
      · exact List.mem_append.mpr (.inl h)
      · exact List.mem_append.mpr (.inr (List.mem_filter.mpr ⟨hG.1, decide_eq_true h⟩))
    have ab : Above rest (l.filter fun p => decide (∀ q ∈ rest, q.1 < p.1)) := fun p hp q hq => of_decide_eq_true (List.mem_filter.mp hp).2 q hq
    exact ret ps' lt' fo n vs ds (l.filter fun p => decide (∀ q ∈ rest, q.1 < p.1)) h' tk' F'
      (News.sub N' (sub_cons h1 (sub_cons h5 fun q hq => (List.mem_append.mp hq).elim (h2 q) fun h => (List.mem_filter.mp h).1))) ab (off68 hW h68 ab) h3 (fun p hp => key _ p (h4 p hp)) h6 h7 (h8.to_all (key D)) h9
theorem fields_use0 {ρ : Rg} {t : Ty} {va wa : Addr} {vs : List Value} {nv : Nat} {i : Int} {ti : Tok} {v vk : Value} {ps : Array Value} {news rest D lt : List (Addr × Obj)} {sn sk : Str} {fd : List Dat} {dp un : Nat} {gd : Option (List Code)} {cn : Str} {cs : Scope} {a : Addr} {ccd : Value} {cl : List (Str × Addr)} {outer : List Env} {A₀ : Around} {base h₀ : Heap} {L : Addr} {m : Str → Option Value} {hS : Heap} {gS : Array GenState} {dS : Drawn} {tS : Nat} {oS : OsState} {Q E : Value → Shared → Prop}
  (P : Pull (68, tabObj ps) news rest) (off : Off 68 rest) (h68 : @LT.lt Nat _ 68 wa) (ht : t.dp ≤ 2) (hW : WorldR w rest wa va) (hva : (va, listOf vs.toArray nv) ∈ rest) (hi0 : 0 ≤ i) (hi1 : i < 2 ^ 63) (hvk : vs[i.toNat]? = some vk) (hv : Dt D v (tyD (.adt ρ t))) (hk' : Dt D vk (.tuple [.str sn, .str sk, .list fd])) (hs1 : ∀ p ∈ D, p ∈ rest) (hT : TabSt ⟨50, 4, 51, 42⟩ (Str.ofString "fields_of.<locals>.put_in") ps lt) (hlt : ∀ p ∈ lt, p ∈ rest) (hf : FdsD fd [])
  (B : Below A₀ base outer h₀) (F : Fr h₀ L hS m) (X : (hd.heap_1 w.params).In h₀) (N : News h₀ L hS news) (T : Top topProg loose mean mg mb h₀) (hk : cs.kind = .function) (hr : dp + 14 < recursionLimit) (hu : un + 8 * 14 < cLine)
  (ret : ∀ ps' lt' fo n  tl h' tk', Fr h₀ L h' m → News h₀ L h' ((68, tabObj ps') :: (fo, listOf (List.toArray []) n) :: (rest ++ tl)) → Above rest tl → Off 68 tl → TabSt ⟨50, 4, 51, 42⟩ (Str.ofString "fields_of.<locals>.put_in") ps' lt' → (∀ p ∈ lt', p ∈ lt ++ tl) → Off fo rest → @Ne Nat fo 68 → Q (.ref fo) ⟨h', gS, dS, tk', oS⟩) : wpAny (model PySem.Challenge.rw_xm0591_01.row.prog w) (ktrTop dp un gd cn cs L a ccd cl outer) (call (.ref 71) [v, .int i ti, .ref wa]) Q E ⟨hS, gS, dS, tS, oS⟩ :=
  fields_from (P := P) hs1 off h68 hW (fields0 (fl := 0) (fs := []) (nf := 0) off ht hW hva hi0 hi1 hvk hv hk' hs1 hT hlt hf) B F X N T hk hr hu fun ps' lt' fo n vs ds tl h' tk' F' N' ab o68 hT' hl' o1 o2 dt ho => by
    cases ho
    obtain rfl := all_nil dt
    exact ret ps' lt' fo n  tl h' tk' F' N' ab o68 hT' hl' o1 o2
theorem fields_use1 {ρ : Rg} {t : Ty} {va wa : Addr} {vs : List Value} {nv : Nat} {i : Int} {ti : Tok} {v vk : Value} {ps : Array Value} {news rest D lt : List (Addr × Obj)} {sn sk : Str} {fd : List Dat} {dp un : Nat} {gd : Option (List Code)} {cn : Str} {cs : Scope} {a : Addr} {ccd : Value} {cl : List (Str × Addr)} {outer : List Env} {A₀ : Around} {base h₀ : Heap} {L : Addr} {m : Str → Option Value} {hS : Heap} {gS : Array GenState} {dS : Drawn} {tS : Nat} {oS : OsState} {Q E : Value → Shared → Prop} {f0 : Fd}
  (P : Pull (68, tabObj ps) news rest) (off : Off 68 rest) (h68 : @LT.lt Nat _ 68 wa) (ht : t.dp ≤ 2) (hW : WorldR w rest wa va) (hva : (va, listOf vs.toArray nv) ∈ rest) (hi0 : 0 ≤ i) (hi1 : i < 2 ^ 63) (hvk : vs[i.toNat]? = some vk) (hv : Dt D v (tyD (.adt ρ t))) (hk' : Dt D vk (.tuple [.str sn, .str sk, .list fd])) (hs1 : ∀ p ∈ D, p ∈ rest) (hT : TabSt ⟨50, 4, 51, 42⟩ (Str.ofString "fields_of.<locals>.put_in") ps lt) (hlt : ∀ p ∈ lt, p ∈ rest) (hf : FdsD fd [f0])
  (B : Below A₀ base outer h₀) (F : Fr h₀ L hS m) (X : (hd.heap_1 w.params).In h₀) (N : News h₀ L hS news) (T : Top topProg loose mean mg mb h₀) (hk : cs.kind = .function) (hr : dp + 14 < recursionLimit) (hu : un + 8 * 14 < cLine)
  (ret : ∀ ps' lt' fo n b0 s0 k0 w0 m0 tl h' tk', Fr h₀ L h' m → News h₀ L h' ((68, tabObj ps') :: (fo, listOf (List.toArray [.ref b0]) n) :: (b0, tupO [.str s0 k0, w0] m0) :: (rest ++ tl)) → Above rest tl → Off 68 tl → TabSt ⟨50, 4, 51, 42⟩ (Str.ofString "fields_of.<locals>.put_in") ps' lt' → (∀ p ∈ lt', p ∈ lt ++ tl) → Off fo rest → @Ne Nat fo 68 → (b0, tupO [.str s0 k0, w0] m0) ∈ D ++ tl → Dt (D ++ tl) w0 (tyD (f0.due ρ t)) → Q (.ref fo) ⟨h', gS, dS, tk', oS⟩) : wpAny (model PySem.Challenge.rw_xm0591_01.row.prog w) (ktrTop dp un gd cn cs L a ccd cl outer) (call (.ref 71) [v, .int i ti, .ref wa]) Q E ⟨hS, gS, dS, tS, oS⟩ :=
  fields_from (P := P) hs1 off h68 hW (fields1 (fl := 0) (fs := []) (nf := 0) off ht hW hva hi0 hi1 hvk hv hk' hs1 hT hlt hf) B F X N T hk hr hu fun ps' lt' fo n vs ds tl h' tk' F' N' ab o68 hT' hl' o1 o2 dt ho => by
    cases ho with
    | cons ho =>
    cases ho
    obtain ⟨z0, zs0, rfl, kz0, dy0⟩ := all_cons dt
    obtain ⟨b0, x0, w0, m0, rfl, hm0, kk0, kl0⟩ := in_tup2 kz0
    obtain ⟨k0, rfl⟩ := in_str kk0
    obtain rfl := all_nil dy0
    have hD : ∀ p ∈ D ++ tl, p ∈ rest ++ tl := fun p hp => (List.mem_append.mp hp).elim (fun h => List.mem_append.mpr (.inl (hs1 _ h))) (fun h => List.mem_append.mpr (.inr h))
    exact ret ps' lt' fo n b0 _ k0 w0 m0 tl h' tk' F' (News.sub N' (sub_cons (.head _) (sub_cons (.tail _ (.head _)) (sub_cons (.tail _ (.tail _ (hD _ hm0))) (fun p hp => .tail _ (.tail _ hp)))))) ab o68 hT' hl' o1 o2 hm0 kl0
theorem fields_use2 {ρ : Rg} {t : Ty} {va wa : Addr} {vs : List Value} {nv : Nat} {i : Int} {ti : Tok} {v vk : Value} {ps : Array Value} {news rest D lt : List (Addr × Obj)} {sn sk : Str} {fd : List Dat} {dp un : Nat} {gd : Option (List Code)} {cn : Str} {cs : Scope} {a : Addr} {ccd : Value} {cl : List (Str × Addr)} {outer : List Env} {A₀ : Around} {base h₀ : Heap} {L : Addr} {m : Str → Option Value} {hS : Heap} {gS : Array GenState} {dS : Drawn} {tS : Nat} {oS : OsState} {Q E : Value → Shared → Prop} {f0 f1 : Fd}
  (P : Pull (68, tabObj ps) news rest) (off : Off 68 rest) (h68 : @LT.lt Nat _ 68 wa) (ht : t.dp ≤ 2) (hW : WorldR w rest wa va) (hva : (va, listOf vs.toArray nv) ∈ rest) (hi0 : 0 ≤ i) (hi1 : i < 2 ^ 63) (hvk : vs[i.toNat]? = some vk) (hv : Dt D v (tyD (.adt ρ t))) (hk' : Dt D vk (.tuple [.str sn, .str sk, .list fd])) (hs1 : ∀ p ∈ D, p ∈ rest) (hT : TabSt ⟨50, 4, 51, 42⟩ (Str.ofString "fields_of.<locals>.put_in") ps lt) (hlt : ∀ p ∈ lt, p ∈ rest) (hf : FdsD fd [f0, f1])
  (B : Below A₀ base outer h₀) (F : Fr h₀ L hS m) (X : (hd.heap_1 w.params).In h₀) (N : News h₀ L hS news) (T : Top topProg loose mean mg mb h₀) (hk : cs.kind = .function) (hr : dp + 14 < recursionLimit) (hu : un + 8 * 14 < cLine)
  (ret : ∀ ps' lt' fo n b0 s0 k0 w0 m0 b1 s1 k1 w1 m1 tl h' tk', Fr h₀ L h' m → News h₀ L h' ((68, tabObj ps') :: (fo, listOf (List.toArray [.ref b0, .ref b1]) n) :: (b0, tupO [.str s0 k0, w0] m0) :: (b1, tupO [.str s1 k1, w1] m1) :: (rest ++ tl)) → Above rest tl → Off 68 tl → TabSt ⟨50, 4, 51, 42⟩ (Str.ofString "fields_of.<locals>.put_in") ps' lt' → (∀ p ∈ lt', p ∈ lt ++ tl) → Off fo rest → @Ne Nat fo 68 → (b0, tupO [.str s0 k0, w0] m0) ∈ D ++ tl → Dt (D ++ tl) w0 (tyD (f0.due ρ t)) → (b1, tupO [.str s1 k1, w1] m1) ∈ D ++ tl → Dt (D ++ tl) w1 (tyD (f1.due ρ t)) → Q (.ref fo) ⟨h', gS, dS, tk', oS⟩) : wpAny (model PySem.Challenge.rw_xm0591_01.row.prog w) (ktrTop dp un gd cn cs L a ccd cl outer) (call (.ref 71) [v, .int i ti, .ref wa]) Q E ⟨hS, gS, dS, tS, oS⟩ :=
  fields_from (P := P) hs1 off h68 hW (fields2 (fl := 0) (fs := []) (nf := 0) off ht hW hva hi0 hi1 hvk hv hk' hs1 hT hlt hf) B F X N T hk hr hu fun ps' lt' fo n vs ds tl h' tk' F' N' ab o68 hT' hl' o1 o2 dt ho => by
    cases ho with
    | cons ho =>
    cases ho with
    | cons ho =>
    cases ho
    obtain ⟨z0, zs0, rfl, kz0, dy0⟩ := all_cons dt
    obtain ⟨b0, x0, w0, m0, rfl, hm0, kk0, kl0⟩ := in_tup2 kz0
    obtain ⟨k0, rfl⟩ := in_str kk0
    obtain ⟨z1, zs1, rfl, kz1, dy1⟩ := all_cons dy0
    obtain ⟨b1, x1, w1, m1, rfl, hm1, kk1, kl1⟩ := in_tup2 kz1
    obtain ⟨k1, rfl⟩ := in_str kk1
    obtain rfl := all_nil dy1
    have hD : ∀ p ∈ D ++ tl, p ∈ rest ++ tl := fun p hp => (List.mem_append.mp hp).elim (fun h => List.mem_append.mpr (.inl (hs1 _ h))) (fun h => List.mem_append.mpr (.inr h))
    exact ret ps' lt' fo n b0 _ k0 w0 m0 b1 _ k1 w1 m1 tl h' tk' F' (News.sub N' (sub_cons (.head _) (sub_cons (.tail _ (.head _)) (sub_cons (.tail _ (.tail _ (hD _ hm0))) (sub_cons (.tail _ (.tail _ (hD _ hm1))) (fun p hp => .tail _ (.tail _ hp))))))) ab o68 hT' hl' o1 o2 hm0 kl0 hm1 kl1

/-! the loop of inner_types -/
structure TyAt (rest D lt₀ : List (Addr × Obj)) (fn : Addr) (ρ : Rg) (t : Ty) (fss : List (List Fd)) (i : Nat) (ps : Array Value) (lt : List (Addr × Obj)) (ws : List Value) (tl : List (Addr × Obj)) : Prop where
  a68 : Off 68 tl
  afn : Off fn tl
  ab : Above rest tl
  ts : TabSt ⟨50, 4, 51, 42⟩ (Str.ofString "fields_of.<locals>.put_in") ps lt
  hl : ∀ p ∈ lt, p ∈ lt₀ ++ tl
  dt : Dts (D ++ tl) ws (dueV ρ t (fss.take i))
abbrev tyLed (fn : Addr) (rest : List (Addr × Obj)) (ps : Array Value) (ws : List Value) (n : Nat) (tl : List (Addr × Obj)) : List (Addr × Obj) := (68, tabObj ps) :: (fn, listOf ws.toArray n) :: (rest ++ tl)
def Jty (rest D lt₀ : List (Addr × Obj)) (fn : Addr) (ρ : Rg) (t : Ty) (fss : List (List Fd)) (i : Nat) (led : List (Addr × Obj)) : Prop :=
  ∃ ps lt ws n tl, TyAt rest D lt₀ fn ρ t fss i ps lt ws tl ∧ led = tyLed fn rest ps ws n tl
theorem vars_len {ds : List Dat} {fss : List (List Fd)} (h : VarsD ds fss) : ∀ fs ∈ fss, fs.length ≤ 2 := by
  induction h with
  | nil => exact fun _ h => nomatch h
  | cons a b r ih =>
    intro fs hf
    rcases List.mem_cons.mp hf with rfl | hf
    · exact b
    · exact ih fs hf
theorem vars_at {D : List (Addr × Obj)} : ∀ {vs : List Value} {vd : List Dat} {fss : List (List Fd)} (i : Nat), Dts D vs vd → VarsD vd fss → i < vs.length →
    ∃ vk sn sk fd fds, vs[i]? = some vk ∧ Dt D vk (.tuple [.str sn, .str sk, .list fd]) ∧ FdsD fd fds ∧ fds.length ≤ 2 ∧ fss.take (i + 1) = fss.take i ++ [fds] := by
  intro vs vd fss i h hv
  induction hv generalizing vs i with
  | nil => cases h; intro hi; exact absurd hi (Nat.not_lt_zero _)
  | cons a b r ih =>
    obtain ⟨v, ws, rfl, h1, h2⟩ := all_cons h
    intro hi
    cases i with
    | zero => exact ⟨v, _, _, _, _, rfl, h1, a, b, rfl⟩
    | succ i =>
      obtain ⟨vk, sn, sk, fd, fds, e1, e2, e3, e4, e5⟩ := ih i h2 (by simpa using hi)
      exact ⟨vk, sn, sk, fd, fds, by simpa using e1, e2, e3, e4, by simp [e5]⟩
theorem fds_three {fds : List Fd} (h : fds.length ≤ 2) : fds = [] ∨ (∃ f, fds = [f]) ∨ ∃ f g, fds = [f, g] := by
  match fds, h with
  | [], _ => exact .inl rfl
  | [f], _ => exact .inr (.inl ⟨f, rfl⟩)
  | [f, g], _ => exact .inr (.inr ⟨f, g, rfl⟩)
end
section
variable {prog : Program} {w : World} {A : Around} {E : Value → Shared → Prop} {s : Shared} {env : Env} {h₀ : Heap} {body : List Stmt} {Q : Flow → Shared → Prop}
  {r : Addr} {t₀ u₀ v₀ : Tok} {m₀ : Str → Option Value} {news n1 rest D lt : List (Addr × Obj)} {fn : Addr} {nf : Nat} {ρ : Rg} {t : Ty} {vs : List Value} {vd : List Dat} {fss : List (List Fd)} {ps : Array Value}
theorem types_loop (kv : List (Str × Value)) (hkv : KvIn m₀ kv) (F : Fr h₀ env.locals s.heap m₀) (N : News h₀ env.locals s.heap news)
    {v : Value} (_hτ : Dt D v (tyD (.adt ρ t))) (h68m : (68, tabObj ps) ∈ news) (hfm : (fn, listOf (List.toArray []) nf) ∈ news) (hrs : ∀ p ∈ rest, p ∈ news) (_o68 : Off 68 rest) (_ofn : Off fn rest) (_h1 : @Ne Nat fn 68)
    (dv : Dts D vs vd) (hv : VarsD vd fss) (hlen : fss.length ≤ 3) (hT : TabSt ⟨50, 4, 51, 42⟩ (Str.ofString "fields_of.<locals>.put_in") ps lt)
    (hh : A.handled = none) (hr : IsRange s.heap r 0 (vs.length : Int) 1 t₀ u₀ v₀)
    (turn : ∀ (i : Nat) tk u h tk' I oI ps' lt' ws n tl vk sn sk fd fds, i < 3 → vs[((0 : Int) + (i : Int)).toNat]? = some vk → Dt D vk (.tuple [.str sn, .str sk, .list fd]) → FdsD fd fds → fds.length ≤ 2 → fss.take (i + 1) = fss.take i ++ [fds] → ws.length ≤ 2 * i → TyAt rest D lt fn ρ t fss i ps' lt' ws tl → Off I rest → Off I tl → @Ne Nat 68 I → @Ne Nat fn I →
      Fr h₀ env.locals h (fun z => if z = Str.ofString "variant" then some (.int (0 + (i : Int)) tk) else mapKv u kv z) → News h₀ env.locals h ((I, oI) :: tyLed fn rest ps' ws n tl) →
      wpAny (model prog w) A (execs body env) (LedPost h₀ env.locals I oI kv (Jty rest D lt fn ρ t fss (i + 1)) { s with heap := h, toks := tk' } Q) E { s with heap := h, toks := tk' })
    (done : ∀ u h tk ps' lt' ws n tl, TyAt rest D lt fn ρ t fss vs.length ps' lt' ws tl → fss.take vs.length = fss →
      Fr h₀ env.locals h (fun z => mapKv u kv z) → News h₀ env.locals h (tyLed fn rest ps' ws n tl) → Q .next { s with heap := h, toks := tk }) :
    wpAny (model prog w) A (pyIter (.ref r)) (fun it s₂ => LoopAtV prog w A h₀ env (Str.ofString "variant") body Q E it s₂) E s := by
  have lv : vs.length = fss.length := by rw [dts_len dv, hv.len]
  have N3 : News h₀ env.locals s.heap (tyLed fn rest ps [] nf []) := by
    exact News.sub N (sub_cons h68m (sub_cons hfm (by rw [List.append_nil]; exact hrs)))
  have st : TyAt rest D lt fn ρ t fss 0 ps lt [] [] := ⟨off_nil, off_nil, (fun _ h => nomatch h), hT, fun p hp => by simpa using hp, .nil⟩
  have hsm : Builtin.Range.small 0 (vs.length : Int) 1 = true := small_k (Int.natCast_nonneg _) (by omega)
  have hsz : Builtin.Range.rangeSize 0 (vs.length : Int) 1 = ((vs.length : Nat) : Int) := by rw [size_k]; simp
  refine loop_led (c := vs.length) kv (Jty rest D lt fn ρ t fss) hkv hh hr hsm hsz F N3 ⟨_, _, _, _, _, st, rfl⟩ ?_ ?_
  · rintro i tk u h tk' I oI led hi ⟨ps', lt', ws, n, tl, at', rfl⟩ off F' N'
    obtain ⟨o1, o2, o3⟩ := off_two off
    obtain ⟨vk, sn, sk, fd, fds, e1, e2, e3, e4, e5⟩ := vars_at i dv hv hi
    have hw : ws.length ≤ 2 * i := by
      rw [dts_len at'.dt]
      have hall := vars_len hv
      have key : ∀ (l : List (List Fd)), (∀ fs ∈ l, fs.length ≤ 2) → (dueV ρ t l).length ≤ 2 * l.length := by
        intro l
        induction l with
        | nil => intro _; exact Nat.zero_le _
        | cons a l ih =>
          intro h
          have h1 := h a (.head _)
          have h2 := ih fun fs hf => h fs (.tail _ hf)
          simp only [dueV, List.flatMap_cons, List.length_append, dueL, List.length_map, List.length_cons] at h2 ⊢
          omega
      have := key (fss.take i) fun fs hf => hall fs (List.mem_of_mem_take hf)
      have h3 : (fss.take i).length ≤ i := by rw [List.length_take]; omega
      omega
    exact turn i tk u h tk' I oI ps' lt' ws n tl vk sn sk fd fds (by omega) (by simpa using e1) e2 e3 e4 e5 hw at' (fun p hp => o3 p (List.mem_append.mpr (.inl hp))) (fun p hp => o3 p (List.mem_append.mpr (.inr hp))) o1 o2 F' N'
  · rintro u h tk led ⟨ps', lt', ws, n, tl, at', rfl⟩ F' N'
    exact done u h tk ps' lt' ws n tl at' (by rw [lv]; exact List.take_length) F' N'
theorem types_next {L I : Addr} {oI : Obj} {kv : List (Str × Value)} {s₁ : Shared} {h' : Heap} {tk : Nat} {m' : Str → Option Value} {news n0 n1 n2 tl tl9 lt' lt9 big : List (Addr × Obj)} {i : Nat} {ps' ps9 : Array Value} {ws ws2 : List Value} {n : Nat} {fds : List Fd}
    (at' : TyAt rest D lt fn ρ t fss i ps' lt' ws tl) (he : fss.take (i + 1) = fss.take i ++ [fds]) (F : Fr h₀ L h' m') (N : News h₀ L h' news) (hk : KvIn m' kv)
    (P0 : Pull (I, oI) news n0) (P1 : Pull (68, tabObj ps9) n0 n1) (P2 : Pull (fn, listOf (List.toArray (ws ++ ws2)) n) n1 n2)
    (hs : ∀ p ∈ rest ++ tl ++ tl9, p ∈ n2) (oI1 : Off I rest) (oI2 : Off I tl) (oI3 : Off I tl9) (n68 : @Ne Nat 68 I) (nfn : @Ne Nat fn I) (o1 : Off 68 tl9) (o2 : Off fn tl9) (ab : Above big tl9) (hb : ∀ p ∈ rest, p ∈ big)
    (ts : TabSt ⟨50, 4, 51, 42⟩ (Str.ofString "fields_of.<locals>.put_in") ps9 lt9) (hl : ∀ p ∈ lt9, p ∈ lt' ++ tl9) (d2 : Dts (D ++ tl ++ tl9) ws2 (dueL ρ t fds)) :
    LedPost h₀ L I oI kv (Jty rest D lt fn ρ t fss (i + 1)) s₁ Q .next { s₁ with heap := h', toks := tk } := by
  refine led_next (tyLed fn rest ps9 (ws ++ ws2) n (tl ++ tl9)) F N (P0.mem _ (.head _)) (fun p hp => P0.mem _ (.tail _ ?_)) (off_cons n68 (off_cons nfn (off_app oI1 (off_app oI2 oI3)))) hk ?_
  · rcases List.mem_cons.mp hp with rfl | hp
    · exact P1.mem _ (.head _)
    · refine P1.mem _ (.tail _ ?_)
      rcases List.mem_cons.mp hp with rfl | hp
      · exact P2.mem _ (.head _)
      · exact P2.mem _ (.tail _ (hs _ (by rw [List.append_assoc]; exact hp)))
  · refine ⟨ps9, lt9, ws ++ ws2, n, tl ++ tl9, ⟨off_app at'.a68 o1, off_app at'.afn o2, fun p hp q hq => (List.mem_append.mp hp).elim (fun h => at'.ab p h q hq) fun h => ab p h q (hb q hq), ts, fun p hp => ?_, ?_⟩, rfl⟩
    · rcases List.mem_append.mp (hl p hp) with h | h
      · rcases List.mem_append.mp (at'.hl p h) with h | h
        · exact List.mem_append.mpr (.inl h)
        · exact List.mem_append.mpr (.inr (List.mem_append.mpr (.inl h)))
      · exact List.mem_append.mpr (.inr (List.mem_append.mpr (.inr h)))
    · rw [he, dueV_snoc]
      have d2' : Dts (D ++ (tl ++ tl9)) ws2 (dueL ρ t fds) := by rw [← List.append_assoc]; exact d2
      exact dts_app d2' (at'.dt.mono fun p hp => (List.mem_append.mp hp).elim (fun h => List.mem_append.mpr (.inl h)) fun h => List.mem_append.mpr (.inr (List.mem_append.mpr (.inl h))))
theorem mem_sub {q : Addr × Obj} {l l' : List (Addr × Obj)} (h : q ∈ l) (s : ∀ p ∈ l, p ∈ l') : q ∈ l' := s q h
theorem off_mem {d a : Addr} {o : Obj} {l : List (Addr × Obj)} (h : Off d l) (m : (a, o) ∈ l) : @Ne Nat a d := h _ m
theorem dts0 {l : List (Addr × Obj)} : Dts l [] (dueL ρ t []) := .nil
theorem dts1 {l l' : List (Addr × Obj)} {w : Value} {f : Fd} (h : Dt l' w (tyD (f.due ρ t))) (s : ∀ p ∈ l', p ∈ l) : Dts l [w] (dueL ρ t [f]) := .cons (h.mono s) .nil
theorem dts2 {l l' : List (Addr × Obj)} {w x : Value} {f g : Fd} (h : Dt l' w (tyD (f.due ρ t))) (k : Dt l' x (tyD (g.due ρ t))) (s : ∀ p ∈ l', p ∈ l) : Dts l [w, x] (dueL ρ t [f, g]) := .cons (h.mono s) (.cons (k.mono s) .nil)
def IPost (D rest : List (Addr × Obj)) (ρ : Rg) (t : Ty) (fss : List (List Fd)) (r : Value) (l : List (Addr × Obj)) : Prop :=
  ∃ fo ws n ps, r = .ref fo ∧ Off fo rest ∧ (∀ p ∈ rest, p ∈ l) ∧ (68, tabObj ps) ∈ l ∧ (fo, listOf (List.toArray ws) n) ∈ l ∧ DatPs (Gd D rest l) ws (dueV ρ t fss)
theorem ipost {lt' tl l : List (Addr × Obj)} {k n : Nat} {ws : List Value} (at' : TyAt rest D lt fn ρ t fss k ps lt' ws tl) (he : fss.take k = fss) (hs1 : ∀ p ∈ D, p ∈ rest) {ps9 : Array Value} (h7 : Off fn rest) (h6 : (68, tabObj ps9) ∈ l) (hm : (fn, listOf (List.toArray ws) n) ∈ l) (hs : ∀ p ∈ rest, p ∈ l) (ht : ∀ p ∈ tl, p ∈ l) : IPost D rest ρ t fss (.ref fn) l := by
  have d := at'.dt
  rw [he] at d
  exact ⟨fn, ws, n, ps9, rfl, h7, hs, h6, hm, DatPs.of_all (fun p hp => (List.mem_append.mp hp).elim (fun h => ⟨hs _ (hs1 p h), .inl h⟩) fun h => ⟨ht p h, .inr fun q hq => at'.ab p h q hq⟩) d⟩
end
end Mine
namespace Mine
example : True := by
  w_top off
  k_with_none
  trivial

section
variable {w : World} {loose : List Str} {mean : ExcName → Option Value} {mg mb : Str → Option Value}

example : True := by
  k_with_none
  k_with "w_kqd_all" =>
   (with_reducible first
   | assumption
   | exact off_nil
   | (refine' off_cons ?z29 ?z39; (case z29 => k_dflt k_ne); (case z39 => kqd_all))
   | (refine' off_app ?_ ?_ <;> kqd_all)
   | (refine' off_sub ?z8 ?z7; (case z8 => assumption); (case z7 => k_dflt tb_start))
   | (refine' off_above ?z8 ?z7; (case z8 => assumption); (case z7 => k_dflt k_mem))
   | (refine' off_lt ?z8 ?z33 ?z7; (case z8 => assumption); (case z33 => k_dflt ((show (_ : Nat) ≤ _); omega)); (case z7 => k_dflt tb_start))
   | (refine' off_o3a ?z8 ?z7; (case z8 => assumption); (case z7 => k_dflt tb_start))
   | (refine' off_o3b ?z8 ?z7; (case z8 => assumption); (case z7 => k_dflt tb_start))
   | (refine' off_o3c ?z8 ?z7; (case z8 => assumption); (case z7 => k_dflt tb_start))
   | (refine' off_o1 ?z8 ?z7; (case z8 => assumption); (case z7 => k_dflt tb_start))
   | fail)
  k_with "w_k_ne" =>
   (first
   | with_reducible assumption
   | (refine' ne_all ?z6 ?z36; (case z6 => with_reducible assumption); (case z36 => k_mem))
   | (refine' ne_all2 ?z6 ?z36; (case z6 => with_reducible assumption); (case z36 => k_mem))
   | (refine' Ne.symm ?z6; (case z6 => with_reducible assumption))
   | (refine' ne_o3a ?z6 ?z36; (case z6 => with_reducible assumption); (case z36 => k_mem))
   | (refine' ne_o3b ?z6 ?z36; (case z6 => with_reducible assumption); (case z36 => k_mem))
   | (refine' ne_o3c ?z6 ?z36; (case z6 => with_reducible assumption); (case z36 => k_mem))
   | (refine' ne_o3a' ?z6 ?z36; (case z6 => with_reducible assumption); (case z36 => k_mem))
   | (refine' ne_o3b' ?z6 ?z36; (case z6 => with_reducible assumption); (case z36 => k_mem))
   | (refine' ne_o3c' ?z6 ?z36; (case z6 => with_reducible assumption); (case z36 => k_mem))
   | (refine' ne_o1 ?z6 ?z36; (case z6 => with_reducible assumption); (case z36 => k_mem))
   | (refine' ne_o1' ?z6 ?z36; (case z6 => with_reducible assumption); (case z36 => k_mem))
   | (refine' ne_of_lt' ?z6; (case z6 => with_reducible assumption))
   | (refine' ne_of_gt' ?z6; (case z6 => with_reducible assumption))
   | (refine' ne_tr ?z41 ?z6 ?z36; (case z41 | z6 => with_reducible assumption); (case z36 => k_mem))
   | (refine' ne_trs ?z41 ?z6 ?z36; (case z41 | z6 => with_reducible assumption); (case z36 => k_mem))
   | (refine' ne_tr2 ?z41 ?z26 ?z6 ?z36; (case z41 | z26 | z6 => with_reducible assumption); (case z36 => k_mem))
   | (refine' ne_tr2s ?z41 ?z26 ?z6 ?z36; (case z41 | z26 | z6 => with_reducible assumption); (case z36 => k_mem))
   | (with_reducible refine' ne_up1 ?z6 ?z36; (case z6 => assumption); (case z36 => k_dflt k_mem))
   | (with_reducible refine' ne_up2 ?z6 ?z36; (case z6 => assumption); (case z36 => k_dflt k_mem))
   | (with_reducible refine' ne_up3 ?z6 ?z36; (case z6 => assumption); (case z36 => k_dflt k_mem))
   | (with_reducible refine' ne_dn1 ?z6 ?z36; (case z6 => assumption); (case z36 => k_dflt k_mem))
   | (with_reducible refine' ne_dn2 ?z6 ?z36; (case z6 => assumption); (case z36 => k_dflt k_mem))
   | (with_reducible refine' ne_dn3 ?z6 ?z36; (case z6 => assumption); (case z36 => k_dflt k_mem))
   | fail)
  k_with "subscriptTail" =>
   ((k_here; (with_reducible show wpAny _ _ (subscriptTail _ _ (Value.ref _) (Value.int _ _)) _ _ _); k_dflt (first
   | (refine' my_tup ?Z0 ?Z1 ?Z2 ?Z3 ?Z4 ?Z5 ?_; (case Z0 => k_asm); (case Z1 => k_mem); (case Z2 | Z3 => decide); (case Z4 | Z5 => rfl); k_whole)
   | (refine' my_lst ?Z0 ?Z1 ?Z2 ?Z3 ?Z5 ?_; (case Z0 => k_asm); (case Z1 => k_mem); (case Z2 | Z3 => decide); (case Z5 => rfl); k_whole))))
  k_with "eval Name" =>
   ((k_here; k_dflt (refine' nameX_L ?Z6 ?Z7 ?_; (case Z6 => k_asm); (case Z7 => exact rfl); k_whole)))
  k_with "w_kqd_all" =>
   (first
   | with_reducible assumption
   | ((with_reducible refine off_cons ?_ ?_); k_ne; kqd_all)
   | ((with_reducible refine off_app ?_ ?_); kqd_all; kqd_all)
   | exact off_sub (by with_reducible assumption) (by tb_start)
   | exact off_above (by with_reducible assumption) (by k_mem)
   | exact off_lt (by with_reducible assumption) (by (show (_ : Nat) ≤ _); omega) (by tb_start)
   | exact off_nil
   | fail "kqd_all: not off")
  k_with "w_k_all" =>
   (first | assumption | ((show Off _ _); kqd_all))
  k_with "w_k_ne" =>
   (first
   | with_reducible assumption
   | (refine' Ne.symm ?Z8; (case Z8 => with_reducible assumption))
   | (refine' pne ?Z8 ?Z9; (case Z8 => with_reducible assumption); (case Z9 => kqd_all))
   | (refine' Ne.symm (pne ?Z8 ?Z9); (case Z8 => with_reducible assumption); (case Z9 => kqd_all))
   | (refine' cne ?Z8 ?Za ?Z9; (case Z8 => with_reducible assumption); (case Za => k_mem); (case Z9 => kqd_all))
   | (refine' Ne.symm (cne ?Z8 ?Za ?Z9); (case Z8 => with_reducible assumption); (case Za => k_mem); (case Z9 => kqd_all))
   | (refine neN ?_; (try dsimp only); omega))
  k_with "w_k_ne" =>
   (first
   | with_reducible assumption
   | (refine' Ne.symm ?Zb; (case Zb => with_reducible assumption))
   | (refine' pne ?Zb ?Zc; (case Zb => with_reducible assumption); (case Zc => kqd_all))
   | (refine' Ne.symm (pne ?Zb ?Zc); (case Zb => with_reducible assumption); (case Zc => kqd_all))
   | (refine' off_mem ?Zb ?Zd; (case Zb => with_reducible assumption); (case Zd => k_mem))
   | (refine' Ne.symm (off_mem ?Zb ?Zd); (case Zb => with_reducible assumption); (case Zd => k_mem))
   | (refine neN ?_; (try dsimp only); omega))
  k_with "w_kqd_all" =>
   (first
   | with_reducible assumption
   | ((with_reducible refine off_cons ?_ ?_); k_ne; kqd_all)
   | ((with_reducible refine off_app ?_ ?_); kqd_all; kqd_all)
   | (refine' off_above ?Ze ?Zf; (case Ze => with_reducible assumption); (case Zf => k_mem))
   | (refine' off_lt ?Ze (Nat.le_refl _) ?Zf; (case Ze => with_reducible assumption); (case Zf => tb_start))
   | (refine' off_sub ?Ze ?Zf; (case Ze => with_reducible assumption); (case Zf => tb_start))
   | exact off_nil
   | (refine' off_lt ?Ze ?Zg ?Zf; (case Ze => with_reducible assumption); (case Zg => (show (_ : Nat) ≤ _; omega)); (case Zf => tb_start))
   | fail "kqd_all: not off")
  k_with "w_k_room" =>
   (ktr_room)
  k_with "getAttr ref" =>
   ((k_here; k_dflt (refine' get_own ?Zh ?Zi ?Zj ?Zk ?Zl ?Zm ?Zn ?Zo ?Zp ?_; (case Zh | Zi => k_asm); (case Zj => (refine' InstAt.of_news ?Zq ?Zr ?Zs; (case Zq => k_asm); (case Zr | Zs => k_mem))); (case Zk | Zl | Zm | Zn => k_is); (case Zo => with_reducible assumption); (case Zp => exact rfl); k_whole)))
  k_with "subscriptTail" =>
   ((k_here; (with_reducible show wpAny _ _ (subscriptTail _ _ (Value.ref _) (Value.str _ _)) _ _ _); k_dflt (refine' item_use ?Zt ?Zu ?Zv ?_; (case Zt => k_asm); (case Zu => k_mem); (case Zv => with_reducible assumption)); intro tk9))
  k_with "subscriptTail" =>
   ((k_here; (with_reducible show wpAny _ _ (subscriptTail _ _ (Value.ref _) (Value.int _ _)) _ _ _); k_dflt (first
   | (refine' my_tup ?Zw ?Zx ?Zy ?Zz ?Z10 ?Z11 ?_; (case Zw => k_asm); (case Zx => k_mem); (case Zy | Zz => decide); (case Z10 | Z11 => rfl); k_whole)
   | (refine' my_lst ?Zw ?Zx ?Zy ?Zz ?Z11 ?_; (case Zw => k_asm); (case Zx => k_mem); (case Zy | Zz | Z11 => with_reducible assumption); k_whole))))
  k_with "call type:range" =>
   ((k_here; (with_reducible show wpAny _ _ (call (Value.type _) [Value.int _ _]) _ _ _); k_dflt (refine' range1_rows ?Z12 ?Z13 ?_; (case Z12 | Z13 => k_asm)); intro h' tk' t1' u1' v1' R' F' N' k'; (clear k')))
  k_with "call builtin:list.extend" =>
   (((k_here; (with_reducible show wpAny _ _ (call (Value.builtin _) [Value.ref _, Value.ref _]) _ _ _); (repeat (with_reducible rename _ ∧ _ => hc; (have hcl := hc.1); (have hcr := hc.2); clear hc)); k_dflt (refine' ext_use ?Z14 ?Z15 ?Z16 ?Z17 ?Z18 ?Z19 ?Z1a ?_; (case Z14 | Z15 => k_asm); (case Z16 => (repeat (first | exact Pull.head | apply Pull.tail))); (case Z18 => k_mem); (case Z17 => kqd_all); (case Z19 => omega); (case Z1a => (simp only [List.length_cons, List.length_nil]; omega))); intro h9 n9 F9 N9)); all_goals (try (with_reducible rename News _ _ _ _ => nL9; refine led_let nL9 ?_; clear nL9; intro Y9 N9)))
  k_with "call builtin:len" =>
   ((k_here; k_dflt (refine' my_len ?Z1b ?Z1c ?Z1d ?_; (case Z1b => k_asm); (case Z1c => k_mem); (case Z1d => omega))))
  k_with "CompSrc" =>
   ((k_here; k_dflt (refine LCg.CompSrc.range (by rfl) (by k_asm) (by k_asm) (by assumption) (by first | decide | rfl) (by first | rfl | decide) (by first | size_fits | exact Nat.le_of_ble_eq_true rfl) ?_; intro g'; lcg_lit)))
  k_with "CompRest" =>
   ((with_unfolding_all first
   | (refine LCg.CompRest.succ ?_; intro v' I' oI' C' oC' D' m' h' tk' E' hv' hC' hx' F' N' off' ne'; (obtain ⟨t9', hv9'⟩ := hv'; subst hv9'); (have off0' := off'); (try simp only [LCg.Off3, and_true] at off'))
   | refine LCg.CompRest.zero ?_))
  k_with "CompRestP" =>
   ((with_unfolding_all first
   | (refine LCp.CompRestP.succ ?_; intro v' hv'; lcg_open hv'; refine ⟨_, _, _, _, _, rfl, by k_mem, rfl, rfl, ?_⟩; intro I' oI' C' oC' D' m' h' tk' E' hC' hx' hy' F' N' off' ne'; (have off0' := off'); (try simp only [LCg.Off3, and_true] at off'))
   | refine LCp.CompRestP.zero ?_))
  k_with "SrcLP" =>
   ((k_here; k_dflt (refine LCp.SrcLP.ledger (by rfl) (by k_asm) (by k_asm) (by k_mem) (by first | size_fits | exact Nat.le_of_ble_eq_true rfl) ?_; intro g'; lcp_lit)))
  k_with "w_lcg_src" =>
   (first | exact True.intro | exact Or.inr ⟨_, by k_mem, rfl, _, rfl⟩)
  k_with "CompEnd" =>
   ((refine' comp_end ?Z1e ?Z1f ?Z1g ?Z1h ?Z1i ?Z1j ?Z1k ?_; (case Z1e | Z1f => k_asm); (case Z1g | Z1h | Z1i => (repeat (first | exact Pull.head | apply Pull.tail))); (case Z1j => lcg_off); (case Z1k => lcg_src)))
  k_with "eval ListComp" =>
   ((k_here; k_dflt (refine LCp.ListComp_P (F₀ := by k_asm) (by with_unfolding_all rfl) (by decide) (by rfl) (by decide) (by rfl) (by rfl) (by decide) ?_)))
  k_with "call ref" =>
   (((k_here; (with_reducible show wpAny _ _ (call (Value.ref 71) _) _ _ _); k_dflt (refine' fields_use0 ?Z1l ?Z1m ?Z1n ?Z1o ?Z1p ?Z1q ?Z1r ?Z1s ?Z1t ?Z1u ?Z1v ?Z1w ?Z1x ?Z1y ?Z1z ?Z20 ?Z21 ?Z22 ?Z23 ?Z24 ?Z25 ?Z26 ?Z27 ?_; (case Z1z => with_reducible assumption); (case Z21 | Z23 => k_asm); (case Z1l => (repeat (first | exact Pull.head | apply Pull.tail))); (case Z1m => kqd_all); (case Z1n | Z1o => with_reducible assumption); (case Z1p => (refine' WorldR.mono ?Z28 ?Z29; (case Z28 => with_reducible assumption); (case Z29 => tb_start))); (case Z1q => (refine' mem_sub ?Z2a ?Z2b; (case Z2a => with_reducible assumption); (case Z2b => tb_start))); (case Z1r | Z1s => omega); (case Z1t | Z1u | Z1v => with_reducible assumption); (case Z1w => tb_start); (case Z1x => with_reducible assumption); (case Z1y => (refine' sub_trans (TyAt.hl ?Z2c) ?Z2d; (case Z2c => with_reducible assumption); (case Z2d => tb_start))); (case Z20 | Z22 | Z24 => k_asm); (case Z25 => first | exact rfl | with_reducible assumption); (case Z26 => ktr_room); (case Z27 => ktr_units)); intro ps9 lt9 fo9 n9  tl9 h9 tk9 F9 N9 ab9 o689 ts9 hl9 ofo9 nfo9 ; (try simp only [List.nil_append, List.cons_append, List.append_nil] at N9); (try dsimp only); (try k_fold))); all_goals (try (with_reducible rename News _ _ _ _ => nL9; refine led_let nL9 ?_; clear nL9; intro Y9 N9)))
  k_with "call ref" =>
   (((k_here; (with_reducible show wpAny _ _ (call (Value.ref 71) _) _ _ _); k_dflt (refine' fields_use1 ?Z2e ?Z2f ?Z2g ?Z2h ?Z2i ?Z2j ?Z2k ?Z2l ?Z2m ?Z2n ?Z2o ?Z2p ?Z2q ?Z2r ?Z2s ?Z2t ?Z2u ?Z2v ?Z2w ?Z2x ?Z2y ?Z2z ?Z30 ?_; (case Z2s => with_reducible assumption); (case Z2u | Z2w => k_asm); (case Z2e => (repeat (first | exact Pull.head | apply Pull.tail))); (case Z2f => kqd_all); (case Z2g | Z2h => with_reducible assumption); (case Z2i => (refine' WorldR.mono ?Z31 ?Z32; (case Z31 => with_reducible assumption); (case Z32 => tb_start))); (case Z2j => (refine' mem_sub ?Z33 ?Z34; (case Z33 => with_reducible assumption); (case Z34 => tb_start))); (case Z2k | Z2l => omega); (case Z2m | Z2n | Z2o => with_reducible assumption); (case Z2p => tb_start); (case Z2q => with_reducible assumption); (case Z2r => (refine' sub_trans (TyAt.hl ?Z35) ?Z36; (case Z35 => with_reducible assumption); (case Z36 => tb_start))); (case Z2t | Z2v | Z2x => k_asm); (case Z2y => first | exact rfl | with_reducible assumption); (case Z2z => ktr_room); (case Z30 => ktr_units)); intro ps9 lt9 fo9 n9 b90 s90 k90 w90 m90 tl9 h9 tk9 F9 N9 ab9 o689 ts9 hl9 ofo9 nfo9 hm90 dd90; (have pn90 := pne_of hm90); (try simp only [List.nil_append, List.cons_append, List.append_nil] at N9); (try dsimp only); (try k_fold))); all_goals (try (with_reducible rename News _ _ _ _ => nL9; refine led_let nL9 ?_; clear nL9; intro Y9 N9)))
  k_with "call ref" =>
   (((k_here; (with_reducible show wpAny _ _ (call (Value.ref 71) _) _ _ _); k_dflt (refine' fields_use2 ?Z37 ?Z38 ?Z39 ?Z3a ?Z3b ?Z3c ?Z3d ?Z3e ?Z3f ?Z3g ?Z3h ?Z3i ?Z3j ?Z3k ?Z3l ?Z3m ?Z3n ?Z3o ?Z3p ?Z3q ?Z3r ?Z3s ?Z3t ?_; (case Z3l => with_reducible assumption); (case Z3n | Z3p => k_asm); (case Z37 => (repeat (first | exact Pull.head | apply Pull.tail))); (case Z38 => kqd_all); (case Z39 | Z3a => with_reducible assumption); (case Z3b => (refine' WorldR.mono ?Z3u ?Z3v; (case Z3u => with_reducible assumption); (case Z3v => tb_start))); (case Z3c => (refine' mem_sub ?Z3w ?Z3x; (case Z3w => with_reducible assumption); (case Z3x => tb_start))); (case Z3d | Z3e => omega); (case Z3f | Z3g | Z3h => with_reducible assumption); (case Z3i => tb_start); (case Z3j => with_reducible assumption); (case Z3k => (refine' sub_trans (TyAt.hl ?Z3y) ?Z3z; (case Z3y => with_reducible assumption); (case Z3z => tb_start))); (case Z3m | Z3o | Z3q => k_asm); (case Z3r => first | exact rfl | with_reducible assumption); (case Z3s => ktr_room); (case Z3t => ktr_units)); intro ps9 lt9 fo9 n9 b90 s90 k90 w90 m90 b91 s91 k91 w91 m91 tl9 h9 tk9 F9 N9 ab9 o689 ts9 hl9 ofo9 nfo9 hm90 dd90 hm91 dd91; (have pn90 := pne_of hm90); (have pn91 := pne_of hm91); (try simp only [List.nil_append, List.cons_append, List.append_nil] at N9); (try dsimp only); (try k_fold))); all_goals (try (with_reducible rename News _ _ _ _ => nL9; refine led_let nL9 ?_; clear nL9; intro Y9 N9)))
  k_with "pyIter ref" =>
   (((k_here; (with_reducible show wpAny _ _ (pyIter (Value.ref _)) (fun it s₂ => LoopAtV _ _ _ _ _ (Str.ofString "variant") _ _ _ it s₂) _ _); (repeat (with_reducible rename _ ∧ _ => hc; (have hcl := hc.1); (have hcr := hc.2); clear hc)); k_dflt (refine' types_loop (fn := ?fn_m1) [(Str.ofString "T", _), (Str.ofString "world", _), (Str.ofString "found", .ref ?fn_m1)] ?Z40 ?Z41 ?Z42 ?Z43 ?Z44 ?Z45 ?Z46 ?Z47 ?Z48 ?Z49 ?Z4a ?Z4b ?Z4c ?Z4d ?Z4e ?Z4f ?_ ?_; (case Z41 | Z42 => k_asm); (case Z40 => (refine' kvIn_cons ?Z4g ?Z4h; (case Z4g => exact rfl); (case Z4h => (refine' kvIn_cons ?Z4i ?Z4j; (case Z4i => exact rfl); (case Z4j => (refine' kvIn_cons ?Z4k ?Z4l; (case Z4k => exact rfl); (case Z4l => (exact kvIn_nil)))))))); (case Z43 => with_reducible assumption); (case Z44 | Z45 => k_mem); (case Z47 => with_reducible assumption); (case Z46 => tb_start); (case Z48 => kqd_all); (case Z49 => k_ne); (case Z4a | Z4b | Z4c | Z4d => with_reducible assumption); (case Z4e => rfl); (case Z4f => assumption)); (focus (intro i9 t9 u9 h9 tk9 I9 oI9 ps9 lt9 ws9 n9 tl9 vk9 sn9 sk9 fd9 fds9 hi9 hvk9 hk9 hf9 hl9 he9 hw9 at9 oI91 oI92 n689 nfn9 F9 N9; (have a689 := at9.a68); (have afn9 := at9.afn); (have ts9 := at9.ts); (rcases fds_three hl9 with e9 | ⟨f9, e9⟩ | ⟨f9, g9, e9⟩ <;> subst e9))); (rotate_left 3); (intro u9 h9 tk9 ps9 lt9 ws9 n9 tl9 at9 he9 F9 N9; (have a689 := at9.a68); (have afn9 := at9.afn)))); all_goals (try (with_reducible rename News _ _ _ _ => nL9; refine led_let nL9 ?_; clear nL9; intro Y9 N9)))
  k_with "execs cons" =>
   (k_here; (try k_gentoks); (first | ((fail_if_success (fail_if_success k_fold)); (with_reducible refine' ec_let2 ?_); intro q0 e0 K0) | ((with_reducible refine' ec_let ?_); intro K0)); (all_goals (try ((with_reducible rename Fr _ _ _ (fun _ => ite _ _ _) => f9); refine fr_let f9 ?_; clear f9; intro m0 F0))); (try dsimp only))
  k_with "eval Constant str" =>
   (with_reducible refine' con_str ?_)
  k_with "eval Constant int" =>
   (with_reducible refine' con_int ?_)
  k_with "subscriptTail Name Constant ref int" =>
   (k_extra "subscriptTail")
  k_with "callWith ref" =>
   (k_here; (with_reducible show wpAny _ _ (callWith _ (Value.ref _) _ (backTo _ (starEach (_ :: _) _)) []) _ _ _); k_dflt (refine' callWith_K ?zc1 ?zc2 ?_; (case zc1 => with_reducible assumption); (case zc2 => k_is); k_whole))
  k_with "callWith ref" =>
   (k_here; (with_reducible show wpAny _ _ (callWith _ (Value.ref _) _ (backTo _ (starEach [] _)) []) _ _ _); k_dflt (refine' callWith_K0 ?zc1 ?zc2 ?_; (case zc1 => exact Frag.In.keeps (by with_reducible assumption) (Fr.keep (by k_asm))); (case zc2 => k_is); k_whole))
  k_with "eval Name" =>
   (k_here; k_dflt (first
   | (refine' nameX_L ?zn1 ?zn2 ?_ ?zn3 ?zn4; (case zn3 | zn4 => rfl); (case zn1 => k_asm); (case zn2 => rfl); k_whole)
   | (refine' nameX_K ?zn1 ?zn2 ?zn3 ?zn4 ?_ ?zn5 ?zn6; (case zn5 | zn6 => rfl); (case zn1 | zn2 | zn3 => k_asm); (case zn4 => k_is); k_whole)
   | (refine' nameX_B ?zn1 ?zn2 ?zn3 ?zn4 ?zn5 ?zn6 ?_ ?zn7 ?zn8; (case zn7 | zn8 => rfl); (case zn1 | zn2 | zn3 => k_asm); (case zn4 => k_is); (case zn5 => boot_fast); (case zn6 => decide); k_whole)
   | fail))
  k_with "newTuple" =>
   (k_here; k_dflt (refine' tup_let ?z30 ?z4 ?z0 ?_; (case z30 | z4 => k_asm); (case z0 => kmk_size)); intro D' h' e' Y' F' N' l1; (try k_sweep))
  k_with "newList" =>
   (k_here; k_dflt (refine' lst_let ?z30 ?z4 ?z0 ?_; (case z30 | z4 => k_asm); (case z0 => kmk_size)); intro D' h' e' Y' F' N' l1; (try k_sweep))
  k_with "binaryOp Add ref ref" =>
   (k_here; (with_reducible show wpAny _ _ (binaryOp Operator.Add (Value.ref _) (Value.ref _)) _ _ _); k_dflt (refine' kde_addT ?z1 ?z27 ?z25 ?z2 ?z18 ?z23 ?z21 ?z24 ?_; (case z1 | z27 => k_asm); (case z25 | z2 => exact News.isTup (by k_asm) (by k_mem)); (case z18 | z23 => exact List.cons_ne_nil _ _); (case z21 => exact Nat.le_of_ble_eq_true rfl); (case z24 => kun_lit)); intro D' h' F' N' l1; (replace l1 := allLt_of l1); (try k_sweep))
  k_with "k_up" =>
   (first
   | with_reducible exact hp
   | ((with_reducible refine List.mem_cons_of_mem _ ?_); k_extra "k_up")
   | ((with_reducible refine List.mem_append_left _ ?_); k_extra "k_up")
   | ((with_reducible refine List.mem_append_right _ ?_); k_extra "k_up")
   | fail)
  k_with "w_tb_start" =>
   (first
   | exact sub_nil
   | (intro p hp; k_extra "k_up")
   | (refine' sub_trans ?z28 ?z13; (case z28 => with_reducible assumption); (case z13 => (intro p hp; k_extra "k_up")))
   | ((with_reducible refine sub_app ?_ ?_) <;> tb_start)
   | ((with_reducible refine sub_cons ?_ ?_); k_mem; tb_start)
   | fail)
  k_with "w_k_mem" =>
   (focus ((repeat (with_reducible first | exact List.mem_cons_self | refine List.mem_cons_of_mem _ ?_ | refine List.mem_append_left _ ?_)); done))
  k_with "w_kqd_sub" =>
   (with_reducible first
   | exact gdJ_nil
   | (refine' gdJ_app ?_ ?_ <;> kqd_sub)
   | (refine' gd_app ?_ ?_ <;> kqd_sub)
   | (refine' gdJ_new ?z32 ?z12 ?z22 ?z9; (case z12 | z22 => assumption); (case z32 | z9 => k_dflt tb_start))
   | (refine' gd_new ?z32 ?z12 ?z9; (case z12 => assumption); (case z32 | z9 => k_dflt tb_start))
   | (refine' gd_cons0 ?z15 ?z10; (case z15 => first | (refine' gd_had ?z31 ?z38; (case z38 => assumption); (case z31 => k_dflt k_mem)) | (refine' gd_one ?z31 ?z38 ?z37; (case z38 => assumption); (case z31 => k_dflt k_mem); (case z37 => k_dflt tb_start))); (case z10 => kqd_sub))
   | (refine' gdJ_old ?z32 ?z9; (case z9 | z32 => k_dflt tb_start))
   | (refine' gd_old ?z32 ?z9; (case z9 | z32 => k_dflt tb_start))
   | fail)
  k_with "w_tb_rel" =>
   (with_reducible first
   | exact DatP.none
   | exact DatP.bool _
   | exact DatP.int _ _
   | exact DatP.str _ _
   | exact DatPs.nil
   | (refine' DatPs.cons ?_ ?_ <;> first | ((with_reducible show DatP _ _ _); tb_rel) | ((with_reducible show DatPs _ _ _); tb_rel) | ((with_reducible show Dat); skip) | ((with_reducible show List Dat); skip))
   | (refine' datP_in ?z5 ?z37; (case z5 => assumption); (case z37 => k_dflt kqd_sub))
   | (refine' datP_gdJ ?z31 ?z34 ?z35; (case z31 => k_dflt k_mem); (case z34 => first | (refine' gdJ_had ?z31 ?z38; (case z38 => assumption); (case z31 => k_dflt k_mem)) | (refine' gdJ_one ?z31 ?z38 ?z37 ?z19; (case z38 => assumption); (case z31 => k_dflt k_mem); (case z37 => k_dflt tb_start); (case z19 => k_dflt (k_extra "k_ltA")))); (case z35 => tb_rel))
   | (refine' datP_gd ?z31 ?z34 ?z35; (case z31 => k_dflt k_mem); (case z34 => first | (refine' gd_had ?z31 ?z38; (case z38 => assumption); (case z31 => k_dflt k_mem)) | (refine' gd_one ?z31 ?z38 ?z37; (case z38 => assumption); (case z31 => k_dflt k_mem); (case z37 => k_dflt tb_start))); (case z35 => tb_rel))
   | fail)
  k_with "w_lcg_off" =>
   (with_reducible first
   | assumption
   | exact off3_nil
   | (refine' off3_app ?_ ?_ <;> lcg_off)
   | (refine' off3_any ?z40 ?z14 ?z3; (case z40 => assumption); (case z14 => k_dflt k_mem); (case z3 => lcg_off))
   | (refine' off3_cons ⟨?z42, ?z16, ?z17⟩ ?z3; (case z42 | z16 | z17 => k_dflt k_ne); (case z3 => lcg_off))
   | (refine' off3_above ?z40 ?z42 ?z16 ?z17; (case z40 => assumption); (case z42 | z16 | z17 => k_dflt k_mem))
   | (refine' off3_sub ?z40 ?z3; (case z40 => assumption); (case z3 => k_dflt tb_start))
   | fail)
  k_with "w_ktr_room" =>
   ((try simp only [depth_under_make, depth_under_kw, depth_in1, depth_deeper, depth_caller]); (try dsimp only [ktrTop]); with_reducible first
   | (refine' room2 ?z11 ?z20; (case z11 => assumption); (case z20 => k_dflt (first | exact Nat.le_of_ble_eq_true rfl | omega)))
   | (refine' room1 ?z11 ?z20; (case z11 => assumption); (case z20 => k_dflt (first | exact Nat.le_of_ble_eq_true rfl | omega)))
   | (refine' room0 ?z11; (case z11 => assumption))
   | fail)
  k_with "w_ktr_units" =>
   ((try simp only [units_in1, units_deeper, Around.mark_units, units_caller]); (try dsimp only [ktrTop]); with_reducible first
   | (refine' unit2 ?z11 ?z20; (case z11 => assumption); (case z20 => k_dflt (first | exact Nat.le_of_ble_eq_true rfl | omega)))
   | (refine' unit1 ?z11 ?z20; (case z11 => assumption); (case z20 => k_dflt (first | exact Nat.le_of_ble_eq_true rfl | omega)))
   | fail)
  k_with "k_ltA" =>
   (first
   | (refine' lt_all ?z6 ?z36; (case z6 => with_reducible assumption); (case z36 => k_mem))
   | (refine ltN ?_; omega))
  k_with "pack" =>
   skip
  trivial
theorem inner_adt {ρ : Rg} {t : Ty} {va wa : Addr} {vs : List Value} {nv : Nat} {v : Value} {ps : Array Value} {rest D lt : List (Addr × Obj)} {vd : List Dat} {fss : List (List Fd)} (off : Off 68 rest) (h68 : @LT.lt Nat _ 68 wa) (ht : t.dp ≤ 2) (hW : WorldR w rest wa va) (hva : (va, listOf vs.toArray nv) ∈ rest) (dv : Dts D vs vd) (hvD : VarsD vd fss) (hlen : fss.length ≤ 3) (hv : Dt D v (tyD (.adt ρ t))) (hs1 : ∀ p ∈ D, p ∈ rest) (hT : TabSt ⟨50, 4, 51, 42⟩ (Str.ofString "fields_of.<locals>.put_in") ps lt) (hlt : ∀ p ∈ lt, p ∈ rest) : CallOk PySem.Challenge.rw_xm0591_01.row.prog w (hd.heap_1 w.params) topProg loose mean mg mb 18 109 [v, .ref wa] ((68, tabObj ps) :: rest) (IPost D rest ρ t fss) := by
  have hv0 := hv
  have lv : vs.length = fss.length := by rw [dts_len dv, hvD.len]
  obtain ⟨b, t1, t2, t3, t4, n, rfl, hm, h1, h2, h3, h4⟩ := in_tup4 hv
  obtain ⟨tk1, rfl⟩ := in_str h1
  obtain ⟨tk2, rfl⟩ := in_str h2
  have hW0 := hW
  obtain ⟨dx, es, k, ad, o, ai, dy, fs', k2', rl, nr, tr, pl, np, tp, m1, m2, g1, m3, g2, g3, m4, m5, g4, g5, g6, m6, m7⟩ := hW
  unfold CallOk
  intro dp un gd cn cs a' ccd cl outer A₀ base h₀ L m s Q E B F X N T hk hdp hun hret
  replace N := News.sub N (sub_cons (.tail _ hva) (sub_cons (.tail _ (hs1 _ hm)) (sub_cons (.tail _ m1) (sub_cons (.tail _ m2) (sub_cons (.tail _ m3) (sub_cons (.tail _ m4) (sub_cons (.tail _ m5) fun p hp => hp)))))))
  refine wpAny_call ?_
  k_dflt ktr_enter
  all_goals (try (with_reducible rename News _ _ _ _ => nL9; refine led_let nL9 ?_; clear nL9; intro Y0 N9))
  k_steps
  all_goals (repeat (with_reducible rename _ ∧ _ => hc; (have hcl := hc.1); (have hcr := hc.2); clear hc))
  all_goals first
    | (refine' types_next ?aat ?he ?F ?N ?hk ?P0 ?P1 ?P2 ?hs ?oI1 ?oI2 ?oI3 ?n68 ?nfn ?o1 ?o2 ?ab ?hb ?ts ?hl ?d2; (case aat => with_reducible assumption); (case he => with_reducible assumption); (case F => k_asm); (case N => k_asm); (case hk => (refine' kvIn_cons ?va0 ?vb0; (case va0 => exact rfl); (case vb0 => (refine' kvIn_cons ?va1 ?vb1; (case va1 => exact rfl); (case vb1 => (refine' kvIn_cons ?va2 ?vb2; (case va2 => exact rfl); (case vb2 => (exact kvIn_nil)))))))); (case P0 => (repeat (first | exact Pull.head | apply Pull.tail))); (case P1 => (repeat (first | exact Pull.head | apply Pull.tail))); (case P2 => (repeat (first | exact Pull.head | apply Pull.tail))); (case ab => with_reducible assumption); (case ts => with_reducible assumption); (case hl => with_reducible assumption); (case hs => tb_start); (case oI1 => with_reducible assumption); (case oI2 => with_reducible assumption); (case oI3 => kqd_all); (case n68 => with_reducible assumption); (case nfn => with_reducible assumption); (case o1 => with_reducible assumption); (case o2 => kqd_all); (case hb => tb_start); (case d2 => first | exact dts0 | (refine' dts1 ?da ?ds; (case da => with_reducible assumption); (case ds => tb_start)) | (refine' dts2 ?da ?db ?ds; (case da => with_reducible assumption); (case db => with_reducible assumption); (case ds => tb_start))))
    | (refine hret _ _ _ _ (by k_asm) (by k_asm) ?_; (refine' ipost ?aat ?he ?hs1 ?h7 ?h6 ?hm ?hs ?ht; (case aat => with_reducible assumption); (case he => with_reducible assumption); (case hs1 => with_reducible assumption); (case h7 => kqd_all); (case h6 => k_mem); (case hm => k_mem); (case hs => tb_start); (case ht => tb_start)))
end
end Mine
namespace Mine
example : True := by
  w_top off
  k_with_none
  trivial

section
variable {w : World} {loose : List Str} {mean : ExcName → Option Value} {mg mb : Str → Option Value}
def LPost (news : List (Addr × Obj)) (vs : List Value) (r : Value) (l : List (Addr × Obj)) : Prop := ∃ q n, r = .ref q ∧ (q, listOf vs.toArray n) ∈ l ∧ ∀ e ∈ news, e ∈ l
theorem lpost {news l : List (Addr × Obj)} {vs : List Value} {q : Addr} {n : Nat} (h1 : (q, listOf vs.toArray n) ∈ l) (h2 : ∀ e ∈ news, e ∈ l) : LPost news vs (.ref q) l := ⟨q, n, rfl, h1, h2⟩
theorem list_use {vs ws : List Value} {news : List (Addr × Obj)} {dp un : Nat} {gd : Option (List Code)} {cn : Str} {cs : Scope} {a : Addr} {ccd : Value} {cl : List (Str × Addr)} {outer : List Env} {A₀ : Around} {base h₀ : Heap} {L : Addr} {m : Str → Option Value} {hS : Heap} {gS : Array GenState} {dS : Drawn} {tS : Nat} {oS : OsState} {Q E : Value → Shared → Prop}
  (C : CallOk PySem.Challenge.rw_xm0591_01.row.prog w (hd.heap_1 w.params) topProg loose mean mg mb 10 109 ws news (LPost news vs)) (B : Below A₀ base outer h₀) (F : Fr h₀ L hS m) (X : (hd.heap_1 w.params).In h₀) (N : News h₀ L hS news) (T : Top topProg loose mean mg mb h₀) (hk : cs.kind = .function) (hr : dp + 10 < recursionLimit) (hu : un + 8 * 10 < cLine)
  (ret : ∀ q n h' tk', Fr h₀ L h' m → News h₀ L h' ((q, listOf vs.toArray n) :: news) → Q (.ref q) ⟨h', gS, dS, tk', oS⟩) : wpAny (model PySem.Challenge.rw_xm0591_01.row.prog w) (ktrTop dp un gd cn cs L a ccd cl outer) (call (.ref 109) ws) Q E ⟨hS, gS, dS, tS, oS⟩ :=
  C _ _ _ _ _ _ _ _ _ _ _ _ _ _ _ _ _ B F X N T hk hr hu fun r l h' tk' F' N' hp => by
    obtain ⟨q, n, rfl, h1, h2⟩ := hp
    exact ret q n h' tk' F' (News.sub N' (sub_cons h1 h2))

example : True := by
  k_with_none
  k_with "subscriptTail" =>
   ((k_here; (with_reducible show wpAny _ _ (subscriptTail _ _ (Value.ref _) (Value.int _ _)) _ _ _); k_dflt (first
   | (refine' my_tup ?Z0 ?Z1 ?Z2 ?Z3 ?Z4 ?Z5 ?_; (case Z0 => k_asm); (case Z1 => k_mem); (case Z2 | Z3 => decide); (case Z4 | Z5 => rfl); k_whole)
   | (refine' my_lst ?Z0 ?Z1 ?Z2 ?Z3 ?Z5 ?_; (case Z0 => k_asm); (case Z1 => k_mem); (case Z2 | Z3 => decide); (case Z5 => rfl); k_whole))))
  k_with "eval Name" =>
   ((k_here; k_dflt (refine' nameX_L ?Z6 ?Z7 ?_; (case Z6 => k_asm); (case Z7 => exact rfl); k_whole)))
  k_with "w_k_room" =>
   (ktr_room)
  k_with "callWith ref" =>
   ((k_here; (with_reducible show wpAny _ _ (callWith _ (Value.ref _) _ (backTo _ (starEach (_ :: _) _)) []) _ _ _); k_dflt (refine' callWith_K ?Z8 ?Z9 ?_; (case Z8 => with_reducible assumption); (case Z9 => k_is); k_whole)))
  k_with "callWith ref" =>
   ((k_here; (with_reducible show wpAny _ _ (callWith _ (Value.ref _) _ (backTo _ (starEach [] _)) []) _ _ _); k_dflt (refine' callWith_K0 ?Za ?Zb ?_; (case Za => exact Frag.In.keeps (by with_reducible assumption) (Fr.keep (by k_asm))); (case Zb => k_is); k_whole)))
  k_with "execs cons" =>
   (k_here; (try k_gentoks); (first | ((fail_if_success (fail_if_success k_fold)); (with_reducible refine' ec_let2 ?_); intro q0 e0 K0) | ((with_reducible refine' ec_let ?_); intro K0)); (all_goals (try ((with_reducible rename Fr _ _ _ (fun _ => ite _ _ _) => f9); refine fr_let f9 ?_; clear f9; intro m0 F0))); (try dsimp only))
  k_with "eval Constant str" =>
   (with_reducible refine' con_str ?_)
  k_with "eval Constant int" =>
   (with_reducible refine' con_int ?_)
  k_with "subscriptTail Name Constant ref int" =>
   (k_extra "subscriptTail")
  k_with "eval Name" =>
   (k_here; k_dflt (first
   | (refine' nameX_L ?zn1 ?zn2 ?_ ?zn3 ?zn4; (case zn3 | zn4 => rfl); (case zn1 => k_asm); (case zn2 => rfl); k_whole)
   | (refine' nameX_K ?zn1 ?zn2 ?zn3 ?zn4 ?_ ?zn5 ?zn6; (case zn5 | zn6 => rfl); (case zn1 | zn2 | zn3 => k_asm); (case zn4 => k_is); k_whole)
   | (refine' nameX_B ?zn1 ?zn2 ?zn3 ?zn4 ?zn5 ?zn6 ?_ ?zn7 ?zn8; (case zn7 | zn8 => rfl); (case zn1 | zn2 | zn3 => k_asm); (case zn4 => k_is); (case zn5 => boot_fast); (case zn6 => decide); k_whole)
   | fail))
  k_with "newTuple" =>
   (k_here; k_dflt (refine' tup_let ?z30 ?z4 ?z0 ?_; (case z30 | z4 => k_asm); (case z0 => kmk_size)); intro D' h' e' Y' F' N' l1; (try k_sweep))
  k_with "newList" =>
   (k_here; k_dflt (refine' lst_let ?z30 ?z4 ?z0 ?_; (case z30 | z4 => k_asm); (case z0 => kmk_size)); intro D' h' e' Y' F' N' l1; (try k_sweep))
  k_with "binaryOp Add ref ref" =>
   (k_here; (with_reducible show wpAny _ _ (binaryOp Operator.Add (Value.ref _) (Value.ref _)) _ _ _); k_dflt (refine' kde_addT ?z1 ?z27 ?z25 ?z2 ?z18 ?z23 ?z21 ?z24 ?_; (case z1 | z27 => k_asm); (case z25 | z2 => exact News.isTup (by k_asm) (by k_mem)); (case z18 | z23 => exact List.cons_ne_nil _ _); (case z21 => exact Nat.le_of_ble_eq_true rfl); (case z24 => kun_lit)); intro D' h' F' N' l1; (replace l1 := allLt_of l1); (try k_sweep))
  k_with "k_up" =>
   (first
   | with_reducible exact hp
   | ((with_reducible refine List.mem_cons_of_mem _ ?_); k_extra "k_up")
   | ((with_reducible refine List.mem_append_left _ ?_); k_extra "k_up")
   | ((with_reducible refine List.mem_append_right _ ?_); k_extra "k_up")
   | fail)
  k_with "w_tb_start" =>
   (first
   | exact sub_nil
   | (intro p hp; k_extra "k_up")
   | (refine' sub_trans ?z28 ?z13; (case z28 => with_reducible assumption); (case z13 => (intro p hp; k_extra "k_up")))
   | ((with_reducible refine sub_app ?_ ?_) <;> tb_start)
   | ((with_reducible refine sub_cons ?_ ?_); k_mem; tb_start)
   | fail)
  k_with "w_k_mem" =>
   (focus ((repeat (with_reducible first | exact List.mem_cons_self | refine List.mem_cons_of_mem _ ?_ | refine List.mem_append_left _ ?_)); done))
  k_with "w_kqd_sub" =>
   (with_reducible first
   | exact gdJ_nil
   | (refine' gdJ_app ?_ ?_ <;> kqd_sub)
   | (refine' gd_app ?_ ?_ <;> kqd_sub)
   | (refine' gdJ_new ?z32 ?z12 ?z22 ?z9; (case z12 | z22 => assumption); (case z32 | z9 => k_dflt tb_start))
   | (refine' gd_new ?z32 ?z12 ?z9; (case z12 => assumption); (case z32 | z9 => k_dflt tb_start))
   | (refine' gd_cons0 ?z15 ?z10; (case z15 => first | (refine' gd_had ?z31 ?z38; (case z38 => assumption); (case z31 => k_dflt k_mem)) | (refine' gd_one ?z31 ?z38 ?z37; (case z38 => assumption); (case z31 => k_dflt k_mem); (case z37 => k_dflt tb_start))); (case z10 => kqd_sub))
   | (refine' gdJ_old ?z32 ?z9; (case z9 | z32 => k_dflt tb_start))
   | (refine' gd_old ?z32 ?z9; (case z9 | z32 => k_dflt tb_start))
   | fail)
  k_with "w_tb_rel" =>
   (with_reducible first
   | exact DatP.none
   | exact DatP.bool _
   | exact DatP.int _ _
   | exact DatP.str _ _
   | exact DatPs.nil
   | (refine' DatPs.cons ?_ ?_ <;> first | ((with_reducible show DatP _ _ _); tb_rel) | ((with_reducible show DatPs _ _ _); tb_rel) | ((with_reducible show Dat); skip) | ((with_reducible show List Dat); skip))
   | (refine' datP_in ?z5 ?z37; (case z5 => assumption); (case z37 => k_dflt kqd_sub))
   | (refine' datP_gdJ ?z31 ?z34 ?z35; (case z31 => k_dflt k_mem); (case z34 => first | (refine' gdJ_had ?z31 ?z38; (case z38 => assumption); (case z31 => k_dflt k_mem)) | (refine' gdJ_one ?z31 ?z38 ?z37 ?z19; (case z38 => assumption); (case z31 => k_dflt k_mem); (case z37 => k_dflt tb_start); (case z19 => k_dflt (k_extra "k_ltA")))); (case z35 => tb_rel))
   | (refine' datP_gd ?z31 ?z34 ?z35; (case z31 => k_dflt k_mem); (case z34 => first | (refine' gd_had ?z31 ?z38; (case z38 => assumption); (case z31 => k_dflt k_mem)) | (refine' gd_one ?z31 ?z38 ?z37; (case z38 => assumption); (case z31 => k_dflt k_mem); (case z37 => k_dflt tb_start))); (case z35 => tb_rel))
   | fail)
  k_with "w_lcg_off" =>
   (with_reducible first
   | assumption
   | exact off3_nil
   | (refine' off3_app ?_ ?_ <;> lcg_off)
   | (refine' off3_any ?z40 ?z14 ?z3; (case z40 => assumption); (case z14 => k_dflt k_mem); (case z3 => lcg_off))
   | (refine' off3_cons ⟨?z42, ?z16, ?z17⟩ ?z3; (case z42 | z16 | z17 => k_dflt k_ne); (case z3 => lcg_off))
   | (refine' off3_above ?z40 ?z42 ?z16 ?z17; (case z40 => assumption); (case z42 | z16 | z17 => k_dflt k_mem))
   | (refine' off3_sub ?z40 ?z3; (case z40 => assumption); (case z3 => k_dflt tb_start))
   | fail)
  k_with "w_ktr_room" =>
   ((try simp only [depth_under_make, depth_under_kw, depth_in1, depth_deeper, depth_caller]); (try dsimp only [ktrTop]); with_reducible first
   | (refine' room2 ?z11 ?z20; (case z11 => assumption); (case z20 => k_dflt (first | exact Nat.le_of_ble_eq_true rfl | omega)))
   | (refine' room1 ?z11 ?z20; (case z11 => assumption); (case z20 => k_dflt (first | exact Nat.le_of_ble_eq_true rfl | omega)))
   | (refine' room0 ?z11; (case z11 => assumption))
   | fail)
  k_with "w_ktr_units" =>
   ((try simp only [units_in1, units_deeper, Around.mark_units, units_caller]); (try dsimp only [ktrTop]); with_reducible first
   | (refine' unit2 ?z11 ?z20; (case z11 => assumption); (case z20 => k_dflt (first | exact Nat.le_of_ble_eq_true rfl | omega)))
   | (refine' unit1 ?z11 ?z20; (case z11 => assumption); (case z20 => k_dflt (first | exact Nat.le_of_ble_eq_true rfl | omega)))
   | fail)
  k_with "k_ltA" =>
   (first
   | (refine' lt_all ?z6 ?z36; (case z6 => with_reducible assumption); (case z36 => k_mem))
   | (refine ltN ?_; omega))
  k_with "w_kqd_all" =>
   (with_reducible first
   | assumption
   | exact off_nil
   | (refine' off_cons ?z29 ?z39; (case z29 => k_dflt k_ne); (case z39 => kqd_all))
   | (refine' off_app ?_ ?_ <;> kqd_all)
   | (refine' off_sub ?z8 ?z7; (case z8 => assumption); (case z7 => k_dflt tb_start))
   | (refine' off_above ?z8 ?z7; (case z8 => assumption); (case z7 => k_dflt k_mem))
   | (refine' off_lt ?z8 ?z33 ?z7; (case z8 => assumption); (case z33 => k_dflt ((show (_ : Nat) ≤ _); omega)); (case z7 => k_dflt tb_start))
   | (refine' off_o3a ?z8 ?z7; (case z8 => assumption); (case z7 => k_dflt tb_start))
   | (refine' off_o3b ?z8 ?z7; (case z8 => assumption); (case z7 => k_dflt tb_start))
   | (refine' off_o3c ?z8 ?z7; (case z8 => assumption); (case z7 => k_dflt tb_start))
   | (refine' off_o1 ?z8 ?z7; (case z8 => assumption); (case z7 => k_dflt tb_start))
   | fail)
  k_with "w_k_ne" =>
   (first
   | with_reducible assumption
   | (refine' ne_all ?z6 ?z36; (case z6 => with_reducible assumption); (case z36 => k_mem))
   | (refine' ne_all2 ?z6 ?z36; (case z6 => with_reducible assumption); (case z36 => k_mem))
   | (refine' Ne.symm ?z6; (case z6 => with_reducible assumption))
   | (refine' ne_o3a ?z6 ?z36; (case z6 => with_reducible assumption); (case z36 => k_mem))
   | (refine' ne_o3b ?z6 ?z36; (case z6 => with_reducible assumption); (case z36 => k_mem))
   | (refine' ne_o3c ?z6 ?z36; (case z6 => with_reducible assumption); (case z36 => k_mem))
   | (refine' ne_o3a' ?z6 ?z36; (case z6 => with_reducible assumption); (case z36 => k_mem))
   | (refine' ne_o3b' ?z6 ?z36; (case z6 => with_reducible assumption); (case z36 => k_mem))
   | (refine' ne_o3c' ?z6 ?z36; (case z6 => with_reducible assumption); (case z36 => k_mem))
   | (refine' ne_o1 ?z6 ?z36; (case z6 => with_reducible assumption); (case z36 => k_mem))
   | (refine' ne_o1' ?z6 ?z36; (case z6 => with_reducible assumption); (case z36 => k_mem))
   | (refine' ne_of_lt' ?z6; (case z6 => with_reducible assumption))
   | (refine' ne_of_gt' ?z6; (case z6 => with_reducible assumption))
   | (refine' ne_tr ?z41 ?z6 ?z36; (case z41 | z6 => with_reducible assumption); (case z36 => k_mem))
   | (refine' ne_trs ?z41 ?z6 ?z36; (case z41 | z6 => with_reducible assumption); (case z36 => k_mem))
   | (refine' ne_tr2 ?z41 ?z26 ?z6 ?z36; (case z41 | z26 | z6 => with_reducible assumption); (case z36 => k_mem))
   | (refine' ne_tr2s ?z41 ?z26 ?z6 ?z36; (case z41 | z26 | z6 => with_reducible assumption); (case z36 => k_mem))
   | (with_reducible refine' ne_up1 ?z6 ?z36; (case z6 => assumption); (case z36 => k_dflt k_mem))
   | (with_reducible refine' ne_up2 ?z6 ?z36; (case z6 => assumption); (case z36 => k_dflt k_mem))
   | (with_reducible refine' ne_up3 ?z6 ?z36; (case z6 => assumption); (case z36 => k_dflt k_mem))
   | (with_reducible refine' ne_dn1 ?z6 ?z36; (case z6 => assumption); (case z36 => k_dflt k_mem))
   | (with_reducible refine' ne_dn2 ?z6 ?z36; (case z6 => assumption); (case z36 => k_dflt k_mem))
   | (with_reducible refine' ne_dn3 ?z6 ?z36; (case z6 => assumption); (case z36 => k_dflt k_mem))
   | fail)
  k_with "pack" =>
   skip
  trivial
theorem inner_box {news : List (Addr × Obj)} {p : Addr} {t : Tok} {x w₁ : Value} {n : Nat} (hm : (p, tupO [.str (Str.ofString "box") t, x] n) ∈ news) : CallOk PySem.Challenge.rw_xm0591_01.row.prog w (hd.heap_1 w.params) topProg loose mean mg mb 10 109 [.ref p, w₁] news (LPost news [x]) := by
  unfold CallOk
  intro dp un gd cn cs a' ccd cl outer A₀ base h₀ L m s Q E B F X N T hk hdp hun hret
  refine wpAny_call ?_
  k_dflt ktr_enter
  all_goals (try (with_reducible rename News _ _ _ _ => nL9; refine led_let nL9 ?_; clear nL9; intro Y0 N9))
  k_steps
  (refine' hret _ _ _ _ ?F9 ?N9 ?P9; (case F9 => k_asm); (case N9 => k_asm); (case P9 => (refine' lpost ?m9 ?s9; (case m9 => k_mem); (case s9 => tb_start))))
theorem inner_arr {news : List (Addr × Obj)} {p : Addr} {t : Tok} {x y w₁ : Value} {n : Nat} (hm : (p, tupO [.str (Str.ofString "array") t, x, y] n) ∈ news) : CallOk PySem.Challenge.rw_xm0591_01.row.prog w (hd.heap_1 w.params) topProg loose mean mg mb 10 109 [.ref p, w₁] news (LPost news [x]) := by
  unfold CallOk
  intro dp un gd cn cs a' ccd cl outer A₀ base h₀ L m s Q E B F X N T hk hdp hun hret
  refine wpAny_call ?_
  k_dflt ktr_enter
  all_goals (try (with_reducible rename News _ _ _ _ => nL9; refine led_let nL9 ?_; clear nL9; intro Y0 N9))
  k_steps
  (refine' hret _ _ _ _ ?F9 ?N9 ?P9; (case F9 => k_asm); (case N9 => k_asm); (case P9 => (refine' lpost ?m9 ?s9; (case m9 => k_mem); (case s9 => tb_start))))
theorem inner_tup3 {news : List (Addr × Obj)} {p q : Addr} {t : Tok} {x y z w₁ : Value} {n k : Nat} (hm : (p, tupO [.str (Str.ofString "tuple") t, .ref q] n) ∈ news) (hq : (q, tupO [x, y, z] k) ∈ news) : CallOk PySem.Challenge.rw_xm0591_01.row.prog w (hd.heap_1 w.params) topProg loose mean mg mb 10 109 [.ref p, w₁] news (LPost news [x, y, z]) := by
  unfold CallOk
  intro dp un gd cn cs a' ccd cl outer A₀ base h₀ L m s Q E B F X N T hk hdp hun hret
  refine wpAny_call ?_
  k_dflt ktr_enter
  all_goals (try (with_reducible rename News _ _ _ _ => nL9; refine led_let nL9 ?_; clear nL9; intro Y0 N9))
  k_steps
  (refine' hret _ _ _ _ ?F9 ?N9 ?P9; (case F9 => k_asm); (case N9 => k_asm); (case P9 => (refine' lpost ?m9 ?s9; (case m9 => k_mem); (case s9 => tb_start))))
theorem inner_tup0 {news : List (Addr × Obj)} {p q : Addr} {t : Tok} {w₁ : Value} {n k : Nat} (hm : (p, tupO [.str (Str.ofString "tuple") t, .ref q] n) ∈ news) (hq : (q, tupO [] k) ∈ news) : CallOk PySem.Challenge.rw_xm0591_01.row.prog w (hd.heap_1 w.params) topProg loose mean mg mb 10 109 [.ref p, w₁] news (LPost news []) := by
  unfold CallOk
  intro dp un gd cn cs a' ccd cl outer A₀ base h₀ L m s Q E B F X N T hk hdp hun hret
  refine wpAny_call ?_
  k_dflt ktr_enter
  all_goals (try (with_reducible rename News _ _ _ _ => nL9; refine led_let nL9 ?_; clear nL9; intro Y0 N9))
  k_steps
  (refine' hret _ _ _ _ ?F9 ?N9 ?P9; (case F9 => k_asm); (case N9 => k_asm); (case P9 => (refine' lpost ?m9 ?s9; (case m9 => k_mem); (case s9 => tb_start))))
theorem inner_ref {news : List (Addr × Obj)} {p : Addr} {t : Tok} {x y z w₁ : Value} {n : Nat} (hm : (p, tupO [.str (Str.ofString "ref") t, x, y, z] n) ∈ news) : CallOk PySem.Challenge.rw_xm0591_01.row.prog w (hd.heap_1 w.params) topProg loose mean mg mb 10 109 [.ref p, w₁] news (LPost news []) := by
  unfold CallOk
  intro dp un gd cn cs a' ccd cl outer A₀ base h₀ L m s Q E B F X N T hk hdp hun hret
  refine wpAny_call ?_
  k_dflt ktr_enter
  all_goals (try (with_reducible rename News _ _ _ _ => nL9; refine led_let nL9 ?_; clear nL9; intro Y0 N9))
  k_steps
  (refine' hret _ _ _ _ ?F9 ?N9 ?P9; (case F9 => k_asm); (case N9 => k_asm); (case P9 => (refine' lpost ?m9 ?s9; (case m9 => k_mem); (case s9 => tb_start))))
theorem inner_par {news : List (Addr × Obj)} {p : Addr} {t : Tok} {x w₁ : Value} {n : Nat} (hm : (p, tupO [.str (Str.ofString "param") t, x] n) ∈ news) : CallOk PySem.Challenge.rw_xm0591_01.row.prog w (hd.heap_1 w.params) topProg loose mean mg mb 10 109 [.ref p, w₁] news (LPost news []) := by
  unfold CallOk
  intro dp un gd cn cs a' ccd cl outer A₀ base h₀ L m s Q E B F X N T hk hdp hun hret
  refine wpAny_call ?_
  k_dflt ktr_enter
  all_goals (try (with_reducible rename News _ _ _ _ => nL9; refine led_let nL9 ?_; clear nL9; intro Y0 N9))
  k_steps
  (refine' hret _ _ _ _ ?F9 ?N9 ?P9; (case F9 => k_asm); (case N9 => k_asm); (case P9 => (refine' lpost ?m9 ?s9; (case m9 => k_mem); (case s9 => tb_start))))
theorem inner_int {news : List (Addr × Obj)} {p : Addr} {t : Tok} {x w₁ : Value} {n : Nat} (hm : (p, tupO [.str (Str.ofString "int") t, x] n) ∈ news) : CallOk PySem.Challenge.rw_xm0591_01.row.prog w (hd.heap_1 w.params) topProg loose mean mg mb 10 109 [.ref p, w₁] news (LPost news []) := by
  unfold CallOk
  intro dp un gd cn cs a' ccd cl outer A₀ base h₀ L m s Q E B F X N T hk hdp hun hret
  refine wpAny_call ?_
  k_dflt ktr_enter
  all_goals (try (with_reducible rename News _ _ _ _ => nL9; refine led_let nL9 ?_; clear nL9; intro Y0 N9))
  k_steps
  (refine' hret _ _ _ _ ?F9 ?N9 ?P9; (case F9 => k_asm); (case N9 => k_asm); (case P9 => (refine' lpost ?m9 ?s9; (case m9 => k_mem); (case s9 => tb_start))))
end
end Mine
namespace Mine
example : True := by
  w_top off
  k_with_none
  trivial

theorem duesIn_nil {l : List (Addr × Obj)} {a : Addr} {k : Nat} (h : (a, listOf (List.toArray []) k) ∈ l) : DuesIn l [] a (fun _ => none) :=
  ⟨k, [], [], h, .nil, Nat.zero_le _, fun _ _ => .inl ⟨rfl, rfl⟩⟩
section
variable {j va da fa : Addr} {q q1 q2 q3 : Addr × Obj} {n : Nat} {keep : List (Addr × Obj)} {ρ : Rg} {t : Ty} {vr vi : Value} {k : Nat} {x : Int} {tx : Tok} {y : Int} {ty : Tok} {vs fs : List Value} {nv nf : Nat} {es : List Value} {ne : Nat} {vd fd ds₀ : List Dat} {fss : List (List Fd)} {fds : List Fd} {rest : List (Addr × Obj)}
theorem out_es (h : OutAt j va da q n keep ρ t vr vi k x tx y ty vs nv es ne vd fss rest) : es.length ≤ 2 * k := by
  rw [dts_len h.de, ← h.len]
  exact dueV_len h.hv
theorem out_vs (h : OutAt j va da q n keep ρ t vr vi k x tx y ty vs nv es ne vd fss rest) : vs.length = k := by
  rw [dts_len h.dv, h.hv.len, h.len]
theorem out_len3 (h : OutAt j va da q n keep ρ t vr vi k x tx y ty vs nv es ne vd fss rest) (hk : k ≤ 3) : fss.length ≤ 3 := by rw [h.len]; exact hk
theorem out_ds (h : OutAt j va da q n keep ρ t vr vi k x tx y ty vs nv es ne vd fss rest) : (dueV ρ t fss).length ≤ 2 * k := by
  rw [← h.len]
  exact dueV_len h.hv
theorem in_es (h : InAt j fa da q1 q2 q3 n keep ρ t vr vi ds₀ k x tx y ty fs nf es ne fd fds rest) : es.length = ds₀.length + k := by
  rw [dts_len h.de, List.length_append, dueL, List.length_map, h.len]
theorem in_fs (h : InAt j fa da q1 q2 q3 n keep ρ t vr vi ds₀ k x tx y ty fs nf es ne fd fds rest) : fs.length = k := by
  rw [dts_len h.df, h.hf.len, h.len]
end
section
variable {w : World} {loose : List Str} {mean : ExcName → Option Value} {mg mb : Str → Option Value}

theorem stored1 {K : Type} [DecidableEq K] {prog : Program} {w : World} {knd : KeyKind prog w K} {o : Obj} {x : K} {v : Value} (h : o.IsDictOf knd (stored [] x v)) : o.IsDictOf knd [(x, v)] := h
theorem type_usem {dp un : Nat} {gd : Option (List Code)} {cn : Str} {cs : Scope} {a : Addr} {ccd : Value} {cl : List (Str × Addr)} {outer : List Env} {A₀ : Around} {base h₀ : Heap} {L : Addr} {m : Str → Option Value} {hS : Heap} {gS : Array GenState} {dS : Drawn} {tS : Nat} {oS : OsState} {Q E : Value → Shared → Prop} {kk rk : Nat} {σ : Pm → Option Ty} {i : Int} {t : Tok} {D : List (Addr × Obj)} {b : Addr} {j : Addr} {x y : Int} {tx ty : Tok} {n : Nat} {news rest : List (Addr × Obj)}
  (P : Pull (j, jarO x tx y ty n) news rest) (ok : JarOk x y) (off : Off j rest) (hC : TypeOk w loose mean mg mb σ kk rk) (hi : i = (kk : Int)) (hV : σ .V = none) (hds : DuesIn rest D b σ) (hs1 : ∀ p ∈ D, p ∈ rest) (B : Below A₀ base outer h₀) (F : Fr h₀ L hS m) (X : (hd.heap_1 w.params).In h₀) (N : News h₀ L hS news) (T : Top topProg loose mean mg mb h₀) (hk : cs.kind = .function) (hr : dp + rk < recursionLimit) (hu : un + 8 * rk < cLine)
  (ret : ∀ p v1 v2 n2 tl tt h' tk' x' tx' y' ty', JarOk x' y' → Fr h₀ L h' m → News h₀ L h' ((p, tupO [v1, v2] n2) :: (j, jarO x' tx' y' ty' n) :: (rest ++ tl)) → Above rest tl → (∀ p ∈ tl, @LT.lt Nat _ j p.1) → Off j tl → @Ne Nat p j → (p, tupO [v1, v2] n2) ∈ D ++ tl → tt.dp ≤ kk → Dt (D ++ tl) v1 (tyD tt) → Dt (D ++ tl) v2 (tyD (due σ tt)) → Q (.ref p) ⟨h', gS, dS, tk', oS⟩) : wpAny (model PySem.Challenge.rw_xm0591_01.row.prog w) (ktrTop dp un gd cn cs L a ccd cl outer) (call (.ref 194) [.ref j, .int i t, .ref b]) Q E ⟨hS, gS, dS, tS, oS⟩ :=
  jar_use B F X N T hk P (hC hi ok off hV hds hs1) hr hu fun r tl h' tk' x' tx' y' ty' d ok' hR F' N' ab hj ho dt => by
    obtain ⟨tt, hdp, rfl⟩ := hR
    obtain ⟨p, v1, v2, n2, rfl, hm, d1, d2⟩ := in_tup2 dt
    have hp : (p, tupO [v1, v2] n2) ∈ rest ++ tl := (List.mem_append.mp hm).elim (fun h => List.mem_append.mpr (.inl (hs1 _ h))) (fun h => List.mem_append.mpr (.inr h))
    exact ret p v1 v2 n2 tl tt h' tk' x' tx' y' ty' ok' F' (News.add N' (.tail _ hp)) ab hj ho (off_app off ho _ hp) hm hdp d1 d2
theorem inner_use {ρ : Rg} {t : Ty} {va wa : Addr} {vs : List Value} {nv : Nat} {v : Value} {ps : Array Value} {news rest lt : List (Addr × Obj)} {vd : List Dat} {fss : List (List Fd)} {dp un : Nat} {gd : Option (List Code)} {cn : Str} {cs : Scope} {a : Addr} {ccd : Value} {cl : List (Str × Addr)} {outer : List Env} {A₀ : Around} {base h₀ : Heap} {L : Addr} {m : Str → Option Value} {hS : Heap} {gS : Array GenState} {dS : Drawn} {tS : Nat} {oS : OsState} {Q E : Value → Shared → Prop}
  (P : Pull (68, tabObj ps) news rest) (off : Off 68 rest) (h68 : @LT.lt Nat _ 68 wa) (ht : t.dp ≤ 2) (hW : WorldR w rest wa va) (hva : (va, listOf vs.toArray nv) ∈ rest) {D₂ : List (Addr × Obj)} (dv : Dts D₂ vs vd) (hd2 : ∀ p ∈ D₂, p ∈ rest) (hvD : VarsD vd fss) (hlen : fss.length ≤ 3) (hv : Dt rest v (tyD (.adt ρ t))) (hT : TabSt ⟨50, 4, 51, 42⟩ (Str.ofString "fields_of.<locals>.put_in") ps lt) (hlt : ∀ p ∈ lt, p ∈ rest)
  (B : Below A₀ base outer h₀) (F : Fr h₀ L hS m) (X : (hd.heap_1 w.params).In h₀) (N : News h₀ L hS news) (T : Top topProg loose mean mg mb h₀) (hk : cs.kind = .function) (hr : dp + 18 < recursionLimit) (hu : un + 8 * 18 < cLine)
  (ret : ∀ fo ws n ps' tl h' tk', Fr h₀ L h' m → News h₀ L h' ((68, tabObj ps') :: (fo, listOf (List.toArray ws) n) :: (rest ++ tl)) → Above rest tl → Off fo rest → Dts (rest ++ tl) ws (dueV ρ t fss) → Q (.ref fo) ⟨h', gS, dS, tk', oS⟩) : wpAny (model PySem.Challenge.rw_xm0591_01.row.prog w) (ktrTop dp un gd cn cs L a ccd cl outer) (call (.ref 109) [v, .ref wa]) Q E ⟨hS, gS, dS, tS, oS⟩ :=
  inner_adt (D := rest) off h68 ht hW hva (dv.mono hd2) hvD hlen hv (fun _ h => h) hT hlt _ _ _ _ _ _ _ _ _ _ _ _ _ _ _ _ _ B F X (News.sub N P.mem) T hk hr hu fun r l h' tk' F' N' hp => by
    classical
    obtain ⟨fo, ws, n, ps', rfl, h7, h1, h6, h2, h3⟩ := hp
    exact ret fo ws n ps' (l.filter fun p => decide (∀ q ∈ rest, q.1 < p.1)) h' tk' F' (News.sub N' (sub_cons h6 (sub_cons h2 fun q hq => (List.mem_append.mp hq).elim (h1 q) fun h => (List.mem_filter.mp h).1)))
      (fun p hp q hq => of_decide_eq_true (List.mem_filter.mp hp).2 q hq) h7 (h3.to_all fun p hG => by
        rcases hG.2 with h | h
        · exact List.mem_append.mpr (.inl h)
        · exact List.mem_append.mpr (.inr (List.mem_filter.mpr ⟨hG.1, decide_eq_true h⟩)))
theorem worldR_mk {l : List (Addr × Obj)} {wa va dx ad ai dy rl pl : Addr} {es fs : List DictEntry} {k k2 nr np : Nat} {o : Obj} {tr tp : Tok} (h1 : (wa, instObj 157 dx) ∈ l) (h2 : (dx, dictOf es k) ∈ l) (h3 : getL (Str.ofString "adts") es = some (some (.ref ad))) (h4 : (ad, o) ∈ l) (h5 : o.IsDictOf (PySem.strKind PySem.Challenge.rw_xm0591_01.row.prog w) [(Str.ofString "m::E", .ref ai)]) (h6 : (ad == sysModules) = false) (h7 : (ai, instObj 128 dy) ∈ l) (h8 : (dy, dictOf fs k2) ∈ l) (h9 : getL (Str.ofString "regions") fs = some (some (.ref rl))) (h10 : getL (Str.ofString "params") fs = some (some (.ref pl))) (h11 : getL (Str.ofString "variants") fs = some (some (.ref va))) (h12 : (rl, listOf #[.str (Str.ofString "'r") tr] nr) ∈ l) (h13 : (pl, listOf #[.str (Str.ofString "A") tp] np) ∈ l) : WorldR w l wa va :=
  ⟨dx, es, k, ad, o, ai, dy, fs, k2, rl, nr, tr, pl, np, tp, h1, h2, h3, h4, h5, h6, h7, h8, h9, h10, h11, h12, h13⟩
theorem dt_adt {l D₁ D₂ : List (Addr × Obj)} {a b c : Addr} {t1 t2 : Tok} {n1 n2 n3 : Nat} {vr vi : Value} {ρ : Rg} {t : Ty} (h1 : (a, tupO [.str (Str.ofString "adt") t1, .str (Str.ofString "m::E") t2, .ref b, .ref c] n1) ∈ l) (h2 : (b, tupO [vr] n2) ∈ l) (h3 : (c, tupO [vi] n3) ∈ l) (d1 : Dt D₁ vr (rgD ρ)) (d2 : Dt D₂ vi (tyD t)) (s1 : ∀ p ∈ D₁, p ∈ l) (s2 : ∀ p ∈ D₂, p ∈ l) : Dt l (.ref a) (tyD (.adt ρ t)) :=
  .tuple h1 (.cons (.str _ _) (.cons (.str _ _) (.cons (.tuple h2 (.cons (d1.mono s1) .nil)) (.cons (.tuple h3 (.cons (d2.mono s2) .nil)) .nil))))
theorem dtsc {l l' : List (Addr × Obj)} {v : Value} {d : Dat} {vs : List Value} {ds : List Dat} (h : Dt l' v d) (s : ∀ p ∈ l', p ∈ l) (r : Dts l vs ds) : Dts l (v :: vs) (d :: ds) := .cons (h.mono s) r
theorem dup0 : ∀ d ∈ ([] : List Dat), tupD 20 d = true := fun _ h => nomatch h
theorem dup1 {t : Ty} {ds : List Dat} (h : t.dp ≤ 1) (r : ∀ d ∈ ds, tupD 20 d = true) : ∀ d ∈ tyD t :: ds, tupD 20 d = true := fun d hd => by
  rcases List.mem_cons.mp hd with rfl | hd
  · exact ty_ok _ (by omega)
  · exact r d hd
section
variable {prog : Program} {w : World} {A : Around} {E : Value → Shared → Prop} {s : Shared} {h₀ : Heap} {L x y : Addr} {news l l' : List (Addr × Obj)} {nx ny : Nat} {v u : Value} {t r : Ty} {Q : Value → Shared → Prop}
theorem eq_nil (N : News h₀ L s.heap news) (hx : (x, listOf (List.toArray []) nx) ∈ news) (hy : (y, listOf (List.toArray []) ny) ∈ news) (hu : A.units + 64 < cLine) (h : Q (.bool true) s) : wpAny (model prog w) A (compareOp .Eq (.ref x) (.ref y)) Q E s :=
  td_eqL (k := 20) (n₁ := news) (n₂ := news) N hx hy .nil (fun _ h => h) .nil (fun _ h => h) dup0 (by decide) hu h
theorem eq_one (N : News h₀ L s.heap news) (hx : (x, listOf (List.toArray [v]) nx) ∈ news) (hy : (y, listOf (List.toArray [v]) ny) ∈ news) (hD : Dt l v (tyD t)) (hs : ∀ p ∈ l, p ∈ news) (ht : t.dp ≤ 1) (hu : A.units + 64 < cLine) (h : Q (.bool true) s) : wpAny (model prog w) A (compareOp .Eq (.ref x) (.ref y)) Q E s :=
  td_eqL (k := 20) (n₁ := news) (n₂ := news) N hx hy (dtsc hD hs .nil) (fun _ h => h) (dtsc hD hs .nil) (fun _ h => h) (dup1 ht dup0) (by decide) hu h
theorem eq_three (N : News h₀ L s.heap news) (hx : (x, listOf (List.toArray [v, u, v]) nx) ∈ news) (hy : (y, listOf (List.toArray [v, u, v]) ny) ∈ news) (hD : Dt l v (tyD t)) (hs : ∀ p ∈ l, p ∈ news) (hE : Dt l' u (tyD r)) (hr : ∀ p ∈ l', p ∈ news) (ht : t.dp ≤ 1) (hv : r.dp ≤ 1) (hu : A.units + 64 < cLine) (h : Q (.bool true) s) : wpAny (model prog w) A (compareOp .Eq (.ref x) (.ref y)) Q E s :=
  td_eqL (k := 20) (n₁ := news) (n₂ := news) N hx hy (dtsc hD hs (dtsc hE hr (dtsc hD hs .nil))) (fun _ h => h) (dtsc hD hs (dtsc hE hr (dtsc hD hs .nil))) (fun _ h => h) (dup1 ht (dup1 hv (dup1 ht dup0))) (by decide) hu h
end
theorem due_tup {ρ : Rg} {t : Ty} (h : t.dp ≤ 1) {fss : List (List Fd)} : ∀ d ∈ dueV ρ t fss, tupD 20 d = true := fun d hd => by
  obtain ⟨fs, _, hm⟩ := List.mem_flatMap.mp hd
  obtain ⟨f, _, rfl⟩ := List.mem_map.mp hm
  refine ty_ok _ ?_
  cases f <;> simp only [Fd.due, Ty.dp] <;> omega

example : True := by
  k_with_none
  k_with "w_kqd_all" =>
   (with_reducible first
   | assumption
   | exact off_nil
   | (refine' off_cons ?z29 ?z39; (case z29 => k_dflt k_ne); (case z39 => kqd_all))
   | (refine' off_app ?_ ?_ <;> kqd_all)
   | (refine' off_sub ?z8 ?z7; (case z8 => assumption); (case z7 => k_dflt tb_start))
   | (refine' off_above ?z8 ?z7; (case z8 => assumption); (case z7 => k_dflt k_mem))
   | (refine' off_lt ?z8 ?z33 ?z7; (case z8 => assumption); (case z33 => k_dflt ((show (_ : Nat) ≤ _); omega)); (case z7 => k_dflt tb_start))
   | (refine' off_o3a ?z8 ?z7; (case z8 => assumption); (case z7 => k_dflt tb_start))
   | (refine' off_o3b ?z8 ?z7; (case z8 => assumption); (case z7 => k_dflt tb_start))
   | (refine' off_o3c ?z8 ?z7; (case z8 => assumption); (case z7 => k_dflt tb_start))
   | (refine' off_o1 ?z8 ?z7; (case z8 => assumption); (case z7 => k_dflt tb_start))
   | fail)
  k_with "w_k_ne" =>
   (first
   | with_reducible assumption
   | (refine' ne_all ?z6 ?z36; (case z6 => with_reducible assumption); (case z36 => k_mem))
   | (refine' ne_all2 ?z6 ?z36; (case z6 => with_reducible assumption); (case z36 => k_mem))
   | (refine' Ne.symm ?z6; (case z6 => with_reducible assumption))
   | (refine' ne_o3a ?z6 ?z36; (case z6 => with_reducible assumption); (case z36 => k_mem))
   | (refine' ne_o3b ?z6 ?z36; (case z6 => with_reducible assumption); (case z36 => k_mem))
   | (refine' ne_o3c ?z6 ?z36; (case z6 => with_reducible assumption); (case z36 => k_mem))
   | (refine' ne_o3a' ?z6 ?z36; (case z6 => with_reducible assumption); (case z36 => k_mem))
   | (refine' ne_o3b' ?z6 ?z36; (case z6 => with_reducible assumption); (case z36 => k_mem))
   | (refine' ne_o3c' ?z6 ?z36; (case z6 => with_reducible assumption); (case z36 => k_mem))
   | (refine' ne_o1 ?z6 ?z36; (case z6 => with_reducible assumption); (case z36 => k_mem))
   | (refine' ne_o1' ?z6 ?z36; (case z6 => with_reducible assumption); (case z36 => k_mem))
   | (refine' ne_of_lt' ?z6; (case z6 => with_reducible assumption))
   | (refine' ne_of_gt' ?z6; (case z6 => with_reducible assumption))
   | (refine' ne_tr ?z41 ?z6 ?z36; (case z41 | z6 => with_reducible assumption); (case z36 => k_mem))
   | (refine' ne_trs ?z41 ?z6 ?z36; (case z41 | z6 => with_reducible assumption); (case z36 => k_mem))
   | (refine' ne_tr2 ?z41 ?z26 ?z6 ?z36; (case z41 | z26 | z6 => with_reducible assumption); (case z36 => k_mem))
   | (refine' ne_tr2s ?z41 ?z26 ?z6 ?z36; (case z41 | z26 | z6 => with_reducible assumption); (case z36 => k_mem))
   | (with_reducible refine' ne_up1 ?z6 ?z36; (case z6 => assumption); (case z36 => k_dflt k_mem))
   | (with_reducible refine' ne_up2 ?z6 ?z36; (case z6 => assumption); (case z36 => k_dflt k_mem))
   | (with_reducible refine' ne_up3 ?z6 ?z36; (case z6 => assumption); (case z36 => k_dflt k_mem))
   | (with_reducible refine' ne_dn1 ?z6 ?z36; (case z6 => assumption); (case z36 => k_dflt k_mem))
   | (with_reducible refine' ne_dn2 ?z6 ?z36; (case z6 => assumption); (case z36 => k_dflt k_mem))
   | (with_reducible refine' ne_dn3 ?z6 ?z36; (case z6 => assumption); (case z36 => k_dflt k_mem))
   | fail)
  k_with "subscriptTail" =>
   ((k_here; (with_reducible show wpAny _ _ (subscriptTail _ _ (Value.ref _) (Value.int _ _)) _ _ _); k_dflt (first
   | (refine' my_tup ?Z0 ?Z1 ?Z2 ?Z3 ?Z4 ?Z5 ?_; (case Z0 => k_asm); (case Z1 => k_mem); (case Z2 | Z3 => decide); (case Z4 | Z5 => rfl); k_whole)
   | (refine' my_lst ?Z0 ?Z1 ?Z2 ?Z3 ?Z5 ?_; (case Z0 => k_asm); (case Z1 => k_mem); (case Z2 | Z3 => decide); (case Z5 => rfl); k_whole))))
  k_with "eval Name" =>
   ((k_here; k_dflt (refine' nameX_L ?Z6 ?Z7 ?_; (case Z6 => k_asm); (case Z7 => exact rfl); k_whole)))
  k_with "w_kqd_all" =>
   (first
   | with_reducible assumption
   | ((with_reducible refine off_cons ?_ ?_); k_ne; kqd_all)
   | ((with_reducible refine off_app ?_ ?_); kqd_all; kqd_all)
   | exact off_sub (by with_reducible assumption) (by tb_start)
   | exact off_above (by with_reducible assumption) (by k_mem)
   | exact off_lt (by with_reducible assumption) (by (show (_ : Nat) ≤ _); omega) (by tb_start)
   | exact off_nil
   | fail "kqd_all: not off")
  k_with "w_k_all" =>
   (first | assumption | ((show Off _ _); kqd_all))
  k_with "w_k_ne" =>
   (first
   | with_reducible assumption
   | (refine' Ne.symm ?Z8; (case Z8 => with_reducible assumption))
   | (refine' pne ?Z8 ?Z9; (case Z8 => with_reducible assumption); (case Z9 => kqd_all))
   | (refine' Ne.symm (pne ?Z8 ?Z9); (case Z8 => with_reducible assumption); (case Z9 => kqd_all))
   | (refine neN ?_; (try dsimp only); omega)
   | (refine' off_mem ?Z8 ?Za; (case Z8 => with_reducible assumption); (case Za => (focus ((repeat (with_reducible first | exact List.mem_cons_self | refine List.mem_cons_of_mem _ ?_ | refine List.mem_append_left _ ?_)); done))))
   | (refine' Ne.symm (off_mem ?Z8 ?Za); (case Z8 => with_reducible assumption); (case Za => (focus ((repeat (with_reducible first | exact List.mem_cons_self | refine List.mem_cons_of_mem _ ?_ | refine List.mem_append_left _ ?_)); done)))))
  k_with "w_kqd_all" =>
   (first
   | with_reducible assumption
   | ((with_reducible refine off_cons ?_ ?_); k_ne; kqd_all)
   | ((with_reducible refine off_app ?_ ?_); kqd_all; kqd_all)
   | (refine' off_above ?Zb ?Zc; (case Zb => with_reducible assumption); (case Zc => k_mem))
   | (refine' off_lt ?Zb (Nat.le_refl _) ?Zc; (case Zb => with_reducible assumption); (case Zc => tb_start))
   | (refine' off_sub ?Zb ?Zc; (case Zb => with_reducible assumption); (case Zc => tb_start))
   | exact off_nil
   | (refine' off_lt ?Zb ?Zd ?Zc; (case Zb => with_reducible assumption); (case Zd => (show (_ : Nat) ≤ _; omega)); (case Zc => tb_start))
   | fail "kqd_all: not off")
  k_with "w_k_room" =>
   (ktr_room)
  k_with "call ref" =>
   ((k_here; (with_reducible show wpAny _ _ (call (Value.ref 175) _) _ _ _); k_dflt (refine' dip_use ?Ze ?Zf ?Zg ?Zh ?Zi ?Zj ?Zk ?Zl ?Zm ?Zn ?Zo ?Zp ?Zq ?_; (case Zk | Zm => k_asm); (case Ze => (repeat (first | exact Pull.head | apply Pull.tail))); (case Zf => k_asm); (case Zg => kqd_all); (case Zh | Zi => omega); (case Zj | Zl | Zn => k_asm); (case Zo => first | exact rfl | with_reducible assumption); (case Zp => ktr_room); (case Zq => ktr_units)); intro k9 tk9 h9 tk9' x9 tx9 y9 ty9 ok9 F9 N9 lo9 hi9; (try simp only [List.nil_append, List.cons_append, List.append_nil] at N9); (try dsimp only); (try k_fold)))
  k_with "call ref" =>
   ((k_here; (with_reducible show wpAny _ _ (call (Value.ref 189) _) _ _ _); k_dflt (refine' reg_use ?Zr ?Zs ?Zt ?Zu ?Zv ?Zw ?Zx ?Zy ?Zz ?Z10 ?Z11 ?_; (case Zv | Zx => k_asm); (case Zr => (repeat (first | exact Pull.head | apply Pull.tail))); (case Zs => k_asm); (case Zt => kqd_all); (case Zu | Zw | Zy => k_asm); (case Zz => first | exact rfl | with_reducible assumption); (case Z10 => ktr_room); (case Z11 => ktr_units)); intro r9 tl9 rg9 h9 tk9' x9 tx9 y9 ty9 ok9 F9 N9 ab9 hj9 ho9 dt9; (try simp only [List.nil_append, List.cons_append, List.append_nil] at N9); (try dsimp only); (try k_fold)))
  k_with "call ref" =>
   ((k_here; (with_reducible show wpAny _ _ (call (Value.ref 194) _) _ _ _); k_dflt (refine' type_usem (kk := 1) (σ := fun _ => none) (D := []) ?Z12 ?Z13 ?Z14 ?Z15 ?Z16 ?Z17 ?Z18 ?Z19 ?Z1a ?Z1b ?Z1c ?Z1d ?Z1e ?Z1f ?Z1g ?Z1h ?_; (case Z1b | Z1d => k_asm); (case Z12 => (repeat (first | exact Pull.head | apply Pull.tail))); (case Z16 => rfl); (case Z15 => with_reducible assumption); (case Z13 => k_asm); (case Z14 => kqd_all); (case Z17 => rfl); (case Z18 => exact duesIn_nil (by k_mem)); (case Z19 => exact sub_nil); (case Z1a | Z1c | Z1e => k_asm); (case Z1f => first | exact rfl | with_reducible assumption); (case Z1g => ktr_room); (case Z1h => ktr_units)); intro p9 v9 u9 n9 tl9 tt9 h9 tk9' x9 tx9 y9 ty9 ok9 F9 N9 ab9 hj9 ho9 ne9 dm9 dp9 dt9 du9; (have pn9 := pne_of dm9); (try simp only [List.nil_append, List.cons_append, List.append_nil] at N9); (try simp only [List.nil_append] at dt9 pn9); (try dsimp only); (try k_fold)))
  k_with "call type:range" =>
   ((k_here; (with_reducible show wpAny _ _ (call (Value.type _) [Value.int _ _]) _ _ _); k_dflt (refine' range1_rows ?Z1i ?Z1j ?_; (case Z1i | Z1j => k_asm)); intro h' tk' t1' u1' v1' R' F' N' k'; (clear k')))
  k_with "call builtin:list.append" =>
   ((k_here; (with_reducible show wpAny _ _ (call (Value.builtin _) [Value.ref _, _]) _ _ _); (repeat (with_reducible rename _ ∧ _ => hc; (have hcl := hc.1); (have hcr := hc.2); clear hc)); k_dflt (refine' app_use ?Z1k ?Z1l ?Z1m ?Z1n ?Z1o ?_; (case Z1k | Z1l => k_asm); (case Z1m => (repeat (first | exact Pull.head | apply Pull.tail))); (case Z1n => kqd_all); (case Z1o => omega)); intro h' F' N'))
  k_with "call ref" =>
   ((k_here; (with_reducible show wpAny _ _ (call (Value.ref 227) _) _ _ _); k_dflt (refine' field_use (D := _) ?Z1p ?Z1q ?Z1r ?Z1s ?Z1t ?Z1u ?Z1v ?Z1w ?Z1x ?Z1y ?Z1z ?Z20 ?Z21 ?Z22 ?_; (case Z1w | Z1y => k_asm); (case Z1p => (repeat (first | exact Pull.head | apply Pull.tail))); (case Z1q => k_asm); (case Z1r => kqd_all); (case Z1s | Z1t => with_reducible assumption); (case Z1u => tb_start); (case Z1v | Z1x | Z1z => k_asm); (case Z20 => first | exact rfl | with_reducible assumption); (case Z21 => ktr_room); (case Z22 => ktr_units)); intro p9 v9 u9 n9 tl9 f9 h9 tk9' x9 tx9 y9 ty9 ok9 F9 N9 ab9 hj9 ho9 ne9 dm9 dt9 du9; (have pn9 := pne_of dm9); (try simp only [List.nil_append, List.cons_append, List.append_nil] at N9); (try dsimp only); (try k_fold)))
  k_with "pyIter ref" =>
   ((k_here; (with_reducible show wpAny _ _ (pyIter (Value.ref _)) (fun it s₂ => LoopAtV _ _ _ _ _ (Str.ofString "turn") _ _ _ it s₂) _ _); (repeat (with_reducible rename _ ∧ _ => hc; (have hcl := hc.1); (have hcr := hc.2); clear hc)); k_dflt (refine' out_loop (q := (68, _)) (j := ?j_m5) (va := ?va_m2) (da := ?da_m4) (vr := ?vr_m3) (vi := ?vi_m1) (ρ := _) (t := _) [(Str.ofString "jar", .ref ?j_m5), (Str.ofString "region", ?vr_m3), (Str.ofString "inner", ?vi_m1), (Str.ofString "variants", .ref ?va_m2), (Str.ofString "due", .ref ?da_m4)] ?Z23 ?Z24 ?Z25 ?Z26 ?Z27 ?Z28 ?Z29 ?Z2a ?Z2b ?Z2c ?Z2d ?Z2e ?Z2f ?Z2g ?Z2h ?Z2i ?Z2j ?Z2k ?Z2l ?Z2m ?Z2n ?_ ?_; (case Z24 | Z25 => k_asm); (case Z23 => (refine' kvIn_cons ?Z2o ?Z2p; (case Z2o => exact rfl); (case Z2p => (refine' kvIn_cons ?Z2q ?Z2r; (case Z2q => exact rfl); (case Z2r => (refine' kvIn_cons ?Z2s ?Z2t; (case Z2s => exact rfl); (case Z2t => (refine' kvIn_cons ?Z2u ?Z2v; (case Z2u => exact rfl); (case Z2v => (refine' kvIn_cons ?Z2w ?Z2x; (case Z2w => exact rfl); (case Z2x => (exact kvIn_nil)))))))))))); (case Z26 | Z27 | Z28 | Z29 => (repeat (first | exact Pull.head | apply Pull.tail))); (case Z2a => (dsimp only; kqd_all)); (case Z2b => k_asm); (case Z2c | Z2d | Z2e => kqd_all); (case Z2f | Z2g | Z2h => k_ne); (case Z2i => rfl); (case Z2j => assumption); (case Z2k | Z2l => (refine Dt.mono ?_ (by with_reducible assumption); tb_start)); (case Z2m | Z2n => omega)); all_goals (first | (intro i9 t9 u9 h9 tk9 I9 oI9 x9 tx9 y9 ty9 vs9 nv9 es9 ne9 vd9 fss9 rest9 hi9 at9 oI9' o1 o2 o3 o4 F9 N9; (try dsimp only at o4); (have oq9 := at9.q'); (try dsimp only at oq9); (have ok9 := at9.ok); (have oj9 := at9.oj); (have ova9 := at9.ova); (have oda9 := at9.oda); (have n19 := at9.n1); (have n29 := at9.n2); (have n39 := at9.n3); (have kp9 := at9.kp); (have hr9 := at9.hr); (have ht9 := at9.ht); (have le9 := out_es at9); (have lv9 := out_vs at9); (have ld9 := out_ds at9)) | (intro c9 u9 h9 tk9 x9 tx9 y9 ty9 vs9 nv9 es9 ne9 vd9 fss9 rest9 hc9 at9 F9 N9; (have oq9 := at9.q'); (try dsimp only at oq9); (have ok9 := at9.ok); (have oj9 := at9.oj); (have ova9 := at9.ova); (have oda9 := at9.oda); (have n19 := at9.n1); (have n29 := at9.n2); (have n39 := at9.n3); (have kp9 := at9.kp); (have hr9 := at9.hr); (have ht9 := at9.ht); (have le9 := out_es at9); (have lv9 := out_vs at9); (have ld9 := out_ds at9)))))
  k_with "pyIter ref" =>
   ((k_here; (with_reducible show wpAny _ _ (pyIter (Value.ref _)) (fun it s₂ => LoopAtV _ _ _ _ _ (Str.ofString "place") _ _ _ it s₂) _ _); (repeat (with_reducible rename _ ∧ _ => hc; (have hcl := hc.1); (have hcr := hc.2); clear hc)); k_dflt (refine' in_loop (j := ?j_m11) (fa := ?fa_m9) (da := ?da_m6) (q1 := _) (q2 := (?va_m8, _)) (q3 := (68, _)) (vr := ?vr_m10) (vi := ?vi_m7) (ρ := _) (t := _) (ds₀ := _) [(Str.ofString "jar", .ref ?j_m11), (Str.ofString "region", ?vr_m10), (Str.ofString "inner", ?vi_m7), (Str.ofString "variants", .ref ?va_m8), (Str.ofString "due", .ref ?da_m6), (Str.ofString "turn", _), (Str.ofString "fields", .ref ?fa_m9)] ?Z2y ?Z2z ?Z30 ?Z31 ?Z32 ?Z33 ?Z34 ?Z35 ?Z36 ?Z37 ?Z38 ?Z39 ?Z3a ?Z3b ?Z3c ?Z3d ?Z3e ?Z3f ?Z3g ?Z3h ?Z3i ?Z3j ?Z3k ?Z3l ?Z3m ?Z3n ?_ ?_; (case Z2z | Z30 => k_asm); (case Z2y => (refine' kvIn_cons ?Z3o ?Z3p; (case Z3o => exact rfl); (case Z3p => (refine' kvIn_cons ?Z3q ?Z3r; (case Z3q => exact rfl); (case Z3r => (refine' kvIn_cons ?Z3s ?Z3t; (case Z3s => exact rfl); (case Z3t => (refine' kvIn_cons ?Z3u ?Z3v; (case Z3u => exact rfl); (case Z3v => (refine' kvIn_cons ?Z3w ?Z3x; (case Z3w => exact rfl); (case Z3x => (refine' kvIn_cons ?Z3y ?Z3z; (case Z3y => exact rfl); (case Z3z => (refine' kvIn_cons ?Z40 ?Z41; (case Z40 => exact rfl); (case Z41 => (exact kvIn_nil)))))))))))))))); (case Z31 | Z32 | Z33 | Z34 | Z35 | Z36 => (repeat (first | exact Pull.head | apply Pull.tail))); (case Z37 => k_asm); (case Z38 | Z39 | Z3a => (dsimp only; kqd_all)); (case Z3b | Z3c | Z3d => kqd_all); (case Z3e | Z3f | Z3g => k_ne); (case Z3h => exact OutAt.de (by with_reducible assumption)); (case Z3i => rfl); (case Z3j => assumption); (case Z3k | Z3l => (refine Dt.mono ?_ (by with_reducible assumption); tb_start)); (case Z3m | Z3n => omega)); all_goals (first | (intro i9 t9 u9 h9 tk9 I9 oI9 x9 tx9 y9 ty9 fs9 nf9 es9 ne9 fd9 fds9 rest9 hi9 at9 oI9' o1 o2 o3 o4 o5 o6 F9 N9; (try dsimp only at o4 o5 o6); (have oq39 := at9.q3'); (try dsimp only at oq39); (have ok9 := at9.ok); (have oj9 := at9.oj); (have ofa9 := at9.ofa); (have oda9 := at9.oda); (have n19 := at9.n1); (have n29 := at9.n2); (have n39 := at9.n3); (have kp9 := at9.kp); (have hr9 := at9.hr); (have ht9 := at9.ht); (have oq19 := at9.q1'); (have oq29 := at9.q2'); (have le9 := in_es at9); (have lv9 := in_fs at9); (try dsimp only at oq19 oq29)) | (intro c9 u9 h9 tk9 x9 tx9 y9 ty9 fs9 nf9 es9 ne9 fd9 fds9 rest9 hc9 at9 F9 N9; (have oq39 := at9.q3'); (try dsimp only at oq39); (have ok9 := at9.ok); (have oj9 := at9.oj); (have ofa9 := at9.ofa); (have oda9 := at9.oda); (have n19 := at9.n1); (have n29 := at9.n2); (have n39 := at9.n3); (have kp9 := at9.kp); (have hr9 := at9.hr); (have ht9 := at9.ht); (have oq19 := at9.q1'); (have oq29 := at9.q2'); (have le9 := in_es at9); (have lv9 := in_fs at9); (try dsimp only at oq19 oq29)))))
  k_with "call ref" =>
   ((k_here; (with_reducible show wpAny _ _ (call (Value.ref 157) _) _ _ _); k_dflt (refine' world_use ?Z42 ?Z43 ?Z44 ?Z45 ?Z46 ?Z47 ?Z48 ?Z49 ?_; (case Z43 | Z45 | Z42 | Z44 | Z46 => k_asm); (case Z47 => first | exact rfl | with_reducible assumption); (case Z48 => ktr_room); (case Z49 => ktr_units)); intro wa9 dx9 es9 k9 ad9 o9 h9 tk9 F9 N9 g9 d9 lo9 l1 l2 l3; (try k_lt l1); (try dsimp only); (try k_fold)))
  k_with "call ref" =>
   ((k_here; (with_reducible show wpAny _ _ (call (Value.ref 128) _) _ _ _); k_dflt (refine' adt_use ?Z4a ?Z4b ?Z4c ?Z4d ?Z4e ?Z4f ?Z4g ?Z4h ?_; (case Z4b | Z4d | Z4a | Z4c | Z4e => k_asm); (case Z4f => first | exact rfl | with_reducible assumption); (case Z4g => ktr_room); (case Z4h => ktr_units)); intro wa9 dx9 es9 k9 h9 tk9 F9 N9 g1 g2 g3 l1 l2; (try k_lt l1); (try dsimp only); (try k_fold)))
  k_with "getAttr ref" =>
   ((k_here; k_dflt (refine' get_own ?Z4i ?Z4j ?Z4k ?Z4l ?Z4m ?Z4n ?Z4o ?Z4p ?Z4q ?_; (case Z4i | Z4j => k_asm); (case Z4k => (refine' InstAt.of_news ?Z4r ?Z4s ?Z4t; (case Z4r => k_asm); (case Z4s | Z4t => k_mem))); (case Z4l | Z4m | Z4n | Z4o => k_is); (case Z4p => with_reducible assumption); (case Z4q => exact rfl); k_whole)))
  k_with "setItem ref str" =>
   ((k_here; (repeat (with_reducible rename _ ∧ _ => hc; (have hcl := hc.1); (have hcr := hc.2); clear hc)); k_dflt (refine' store_use ?Z4u ?Z4v ?Z4w ?Z4x ?Z4y ?Z4z ?_; (case Z4u | Z4v => k_asm); (case Z4w => (repeat (first | exact Pull.head | apply Pull.tail))); (case Z4y => with_reducible assumption); (case Z4x => kqd_all); (case Z4z => decide)); intro h9 tk9 o9 F9 N9 d9; (replace d9 := stored1 d9)))
  k_with "callWith ref" =>
   ((k_here; (with_reducible show wpAny _ _ (callWith _ (Value.ref _) _ (backTo _ (starEach (_ :: _) _)) []) _ _ _); k_dflt (refine' callWith_K ?Z50 ?Z51 ?_; (case Z50 => with_reducible assumption); (case Z51 => k_is); k_whole)))
  k_with "callWith ref" =>
   ((k_here; (with_reducible show wpAny _ _ (callWith _ (Value.ref _) _ (backTo _ (starEach [] _)) []) _ _ _); k_dflt (refine' callWith_K0 ?Z52 ?Z53 ?_; (case Z52 => exact Frag.In.keeps (by with_reducible assumption) (Fr.keep (by k_asm))); (case Z53 => k_is); k_whole)))
  k_with "call ref" =>
   ((k_here; (with_reducible show wpAny _ _ (call (Value.ref 109) _) _ _ _); (repeat (with_reducible rename _ ∧ _ => hc; (have hcl := hc.1); (have hcr := hc.2); clear hc)); k_dflt (refine' inner_use (lt := []) ?Z54 ?Z55 ?Z56 ?Z57 ?Z58 ?Z59 ?Z5a ?Z5b ?Z5c ?Z5d ?Z5e ?Z5f ?Z5g ?Z5h ?Z5i ?Z5j ?Z5k ?Z5l ?Z5m ?Z5n ?Z5o ?_; (case Z5i | Z5k => k_asm); (case Z54 => (repeat (first | exact Pull.head | apply Pull.tail))); (case Z5e => (refine' dt_adt ?Z5p ?Z5q ?Z5r ?Z5s ?Z5t ?Z5u ?Z5v; (case Z5p | Z5q | Z5r => (focus ((repeat (with_reducible first | exact List.mem_cons_self | refine List.mem_cons_of_mem _ ?_ | refine List.mem_append_left _ ?_)); done))); (case Z5s | Z5t => with_reducible assumption); (case Z5u | Z5v => tb_start))); (case Z55 => kqd_all); (case Z56 => (refine ltN ?_; omega)); (case Z57 => (refine' Nat.le_trans ?Z5w ?Z5x; rotate_left; (case Z5w => with_reducible assumption); (case Z5x => decide))); (case Z58 => (refine' worldR_mk ?Z5y ?Z5z ?Z60 ?Z61 ?Z62 ?Z63 ?Z64 ?Z65 ?Z66 ?Z67 ?Z68 ?Z69 ?Z6a; (case Z5y | Z5z => k_mem); (case Z60 => with_reducible assumption); (case Z61 => k_mem); (case Z62 | Z63 => with_reducible assumption); (case Z64 | Z65 => k_mem); (case Z66 | Z67 | Z68 => with_reducible assumption); (case Z69 | Z6a => k_mem))); (case Z59 => k_mem); (case Z5a => exact OutAt.dv (by with_reducible assumption)); (case Z5b => tb_start); (case Z5c => exact OutAt.hv (by with_reducible assumption)); (case Z5d => exact out_len3 (by with_reducible assumption) (by with_reducible assumption)); (case Z5f => exact Or.inl rfl); (case Z5g => exact sub_nil); (case Z5h | Z5j | Z5l => k_asm); (case Z5m => first | exact rfl | with_reducible assumption); (case Z5n => ktr_room); (case Z5o => ktr_units)); intro fo9 ws9 n9 ps9 tl9 h9 tk9 F9 N9 ab9 of9 dt9; (try simp only [List.nil_append, List.cons_append, List.append_nil] at N9); (try dsimp only); (try k_fold)))
  k_with "call ref" =>
   ((k_here; (with_reducible show wpAny _ _ (call (Value.ref 109) _) _ _ _); k_dflt (refine' list_use ?Z6b ?Z6c ?Z6d ?Z6e ?Z6f ?Z6g ?Z6h ?Z6i ?Z6j ?_; (case Z6d | Z6f | Z6c | Z6e | Z6g => k_asm); (case Z6h => first | exact rfl | with_reducible assumption); (case Z6i => ktr_room); (case Z6j => ktr_units); (case Z6b => first | (refine' inner_box ?Z6k; (case Z6k => (focus ((repeat (with_reducible first | exact List.mem_cons_self | refine List.mem_cons_of_mem _ ?_ | refine List.mem_append_left _ ?_)); done)))) | (refine' inner_arr ?Z6k; (case Z6k => (focus ((repeat (with_reducible first | exact List.mem_cons_self | refine List.mem_cons_of_mem _ ?_ | refine List.mem_append_left _ ?_)); done)))) | (refine' inner_ref ?Z6k; (case Z6k => (focus ((repeat (with_reducible first | exact List.mem_cons_self | refine List.mem_cons_of_mem _ ?_ | refine List.mem_append_left _ ?_)); done)))) | (refine' inner_par ?Z6k; (case Z6k => (focus ((repeat (with_reducible first | exact List.mem_cons_self | refine List.mem_cons_of_mem _ ?_ | refine List.mem_append_left _ ?_)); done)))) | (refine' inner_int ?Z6k; (case Z6k => (focus ((repeat (with_reducible first | exact List.mem_cons_self | refine List.mem_cons_of_mem _ ?_ | refine List.mem_append_left _ ?_)); done)))) | (refine' inner_tup3 ?Z6k ?Z6l; (case Z6k | Z6l => (focus ((repeat (with_reducible first | exact List.mem_cons_self | refine List.mem_cons_of_mem _ ?_ | refine List.mem_append_left _ ?_)); done)))) | (refine' inner_tup0 ?Z6k ?Z6l; (case Z6k | Z6l => (focus ((repeat (with_reducible first | exact List.mem_cons_self | refine List.mem_cons_of_mem _ ?_ | refine List.mem_append_left _ ?_)); done)))))); intro q9 n9 h9 tk9 F9 N9; (try dsimp only); (try k_fold)))
  k_with "compareOp NotEq ref ref" =>
   ((k_here; k_dflt (refine' td_neL (k := 20) ?Z6m ?Z6n ?Z6o ?Z6p ?Z6q ?Z6r ?Z6s ?Z6t ?Z6u ?Z6v ?_; (case Z6m => k_asm); (case Z6n | Z6o => k_mem); (case Z6p => with_reducible assumption); (case Z6r => exact OutAt.de (by with_reducible assumption)); (case Z6q | Z6s => tb_start); (case Z6t => exact due_tup (by with_reducible assumption)); (case Z6u => decide); (case Z6v => ktr_units))))
  k_with "compareOp Eq ref ref" =>
   ((k_here; k_dflt (first
   | (refine' eq_nil ?Z6w ?Z6x ?Z6y ?Z6z ?_; (case Z6w => k_asm); (case Z6x | Z6y => (focus ((repeat (with_reducible first | exact List.mem_cons_self | refine List.mem_cons_of_mem _ ?_ | refine List.mem_append_left _ ?_)); done))); (case Z6z => ktr_units))
   | (refine' eq_one ?Z6w ?Z6x ?Z6y ?Z70 ?Z71 ?Z72 ?Z6z ?_; (case Z6w => k_asm); (case Z6x | Z6y => (focus ((repeat (with_reducible first | exact List.mem_cons_self | refine List.mem_cons_of_mem _ ?_ | refine List.mem_append_left _ ?_)); done))); (case Z70 => with_reducible assumption); (case Z71 => tb_start); (case Z72 => with_reducible assumption); (case Z6z => ktr_units))
   | (refine' eq_three ?Z6w ?Z6x ?Z6y ?Z70 ?Z71 ?Z73 ?Z74 ?Z72 ?Z75 ?Z6z ?_; (case Z6w => k_asm); (case Z6x | Z6y => (focus ((repeat (with_reducible first | exact List.mem_cons_self | refine List.mem_cons_of_mem _ ?_ | refine List.mem_append_left _ ?_)); done))); (case Z70 => with_reducible assumption); (case Z71 => tb_start); (case Z73 => with_reducible assumption); (case Z74 => tb_start); (case Z72 | Z75 => with_reducible assumption); (case Z6z => ktr_units)))))
  k_with "call ref" =>
   ((k_here; (with_reducible show wpAny _ _ (call (Value.ref 182) _) _ _ _); k_dflt (refine' one_use ?Z76 ?Z77 ?Z78 ?Z79 ?Z7a ?Z7b ?Z7c ?Z7d ?Z7e ?Z7f ?Z7g ?Z7h ?Z7i ?Z7j ?_; (case Z7d | Z7f => k_asm); (case Z76 => (repeat (first | exact Pull.head | apply Pull.tail))); (case Z77 => k_asm); (case Z78 => kqd_all); (case Z79 => k_mem); (case Z7a | Z7b => (simp only [List.length_cons, List.length_nil]; omega)); (case Z7c | Z7e | Z7g => k_asm); (case Z7h => first | exact rfl | with_reducible assumption); (case Z7i => ktr_room); (case Z7j => ktr_units)); intro r9 h9 tk9' x9 tx9 y9 ty9 ok9 F9 N9 hv9; (try simp only [List.nil_append, List.cons_append, List.append_nil] at N9); (simp only [List.mem_cons, List.not_mem_nil, or_false] at hv9); (rcases hv9 with h9 | h9 | h9 | h9 | h9 | h9 | h9 <;> subst h9); all_goals ((try dsimp only); (try k_fold))))
  k_with "subscriptTail" =>
   ((k_here; (with_reducible show wpAny _ _ (subscriptTail _ _ (Value.ref _) (Value.int _ _)) _ _ _); k_dflt (refine' my_tup ?Z7k ?Z7l ?Z7m ?Z7n ?Z7o ?Z7p ?_; (case Z7k => k_asm); (case Z7l => k_mem); (case Z7m | Z7n => decide); (case Z7o | Z7p => rfl); k_whole)))
  k_with "execs cons" =>
   (k_here; (try k_gentoks); (first | ((fail_if_success (fail_if_success k_fold)); (with_reducible refine' ec_let2 ?_); intro q0 e0 K0) | ((with_reducible refine' ec_let ?_); intro K0)); (all_goals (try ((with_reducible rename Fr _ _ _ (fun _ => ite _ _ _) => f9); refine fr_let f9 ?_; clear f9; intro m0 F0))); (try dsimp only))
  k_with "eval Constant str" =>
   (with_reducible refine' con_str ?_)
  k_with "eval Constant int" =>
   (with_reducible refine' con_int ?_)
  k_with "subscriptTail Name Constant ref int" =>
   (k_extra "subscriptTail")
  k_with "eval Name" =>
   (k_here; k_dflt (first
   | (refine' nameX_L ?zn1 ?zn2 ?_ ?zn3 ?zn4; (case zn3 | zn4 => rfl); (case zn1 => k_asm); (case zn2 => rfl); k_whole)
   | (refine' nameX_K ?zn1 ?zn2 ?zn3 ?zn4 ?_ ?zn5 ?zn6; (case zn5 | zn6 => rfl); (case zn1 | zn2 | zn3 => k_asm); (case zn4 => k_is); k_whole)
   | (refine' nameX_B ?zn1 ?zn2 ?zn3 ?zn4 ?zn5 ?zn6 ?_ ?zn7 ?zn8; (case zn7 | zn8 => rfl); (case zn1 | zn2 | zn3 => k_asm); (case zn4 => k_is); (case zn5 => boot_fast); (case zn6 => decide); k_whole)
   | fail))
  k_with "newTuple" =>
   (k_here; k_dflt (refine' tup_let ?z30 ?z4 ?z0 ?_; (case z30 | z4 => k_asm); (case z0 => kmk_size)); intro D' h' e' Y' F' N' l1; (try k_sweep))
  k_with "newList" =>
   (k_here; k_dflt (refine' lst_let ?z30 ?z4 ?z0 ?_; (case z30 | z4 => k_asm); (case z0 => kmk_size)); intro D' h' e' Y' F' N' l1; (try k_sweep))
  k_with "binaryOp Add ref ref" =>
   (k_here; (with_reducible show wpAny _ _ (binaryOp Operator.Add (Value.ref _) (Value.ref _)) _ _ _); k_dflt (refine' kde_addT ?z1 ?z27 ?z25 ?z2 ?z18 ?z23 ?z21 ?z24 ?_; (case z1 | z27 => k_asm); (case z25 | z2 => exact News.isTup (by k_asm) (by k_mem)); (case z18 | z23 => exact List.cons_ne_nil _ _); (case z21 => exact Nat.le_of_ble_eq_true rfl); (case z24 => kun_lit)); intro D' h' F' N' l1; (replace l1 := allLt_of l1); (try k_sweep))
  k_with "k_up" =>
   (first
   | with_reducible exact hp
   | ((with_reducible refine List.mem_cons_of_mem _ ?_); k_extra "k_up")
   | ((with_reducible refine List.mem_append_left _ ?_); k_extra "k_up")
   | ((with_reducible refine List.mem_append_right _ ?_); k_extra "k_up")
   | fail)
  k_with "w_tb_start" =>
   (first
   | exact sub_nil
   | (intro p hp; k_extra "k_up")
   | (refine' sub_trans ?z28 ?z13; (case z28 => with_reducible assumption); (case z13 => (intro p hp; k_extra "k_up")))
   | ((with_reducible refine sub_app ?_ ?_) <;> tb_start)
   | ((with_reducible refine sub_cons ?_ ?_); k_mem; tb_start)
   | fail)
  k_with "w_k_mem" =>
   (focus ((repeat (with_reducible first | exact List.mem_cons_self | refine List.mem_cons_of_mem _ ?_ | refine List.mem_append_left _ ?_)); done))
  k_with "w_kqd_sub" =>
   (with_reducible first
   | exact gdJ_nil
   | (refine' gdJ_app ?_ ?_ <;> kqd_sub)
   | (refine' gd_app ?_ ?_ <;> kqd_sub)
   | (refine' gdJ_new ?z32 ?z12 ?z22 ?z9; (case z12 | z22 => assumption); (case z32 | z9 => k_dflt tb_start))
   | (refine' gd_new ?z32 ?z12 ?z9; (case z12 => assumption); (case z32 | z9 => k_dflt tb_start))
   | (refine' gd_cons0 ?z15 ?z10; (case z15 => first | (refine' gd_had ?z31 ?z38; (case z38 => assumption); (case z31 => k_dflt k_mem)) | (refine' gd_one ?z31 ?z38 ?z37; (case z38 => assumption); (case z31 => k_dflt k_mem); (case z37 => k_dflt tb_start))); (case z10 => kqd_sub))
   | (refine' gdJ_old ?z32 ?z9; (case z9 | z32 => k_dflt tb_start))
   | (refine' gd_old ?z32 ?z9; (case z9 | z32 => k_dflt tb_start))
   | fail)
  k_with "w_tb_rel" =>
   (with_reducible first
   | exact DatP.none
   | exact DatP.bool _
   | exact DatP.int _ _
   | exact DatP.str _ _
   | exact DatPs.nil
   | (refine' DatPs.cons ?_ ?_ <;> first | ((with_reducible show DatP _ _ _); tb_rel) | ((with_reducible show DatPs _ _ _); tb_rel) | ((with_reducible show Dat); skip) | ((with_reducible show List Dat); skip))
   | (refine' datP_in ?z5 ?z37; (case z5 => assumption); (case z37 => k_dflt kqd_sub))
   | (refine' datP_gdJ ?z31 ?z34 ?z35; (case z31 => k_dflt k_mem); (case z34 => first | (refine' gdJ_had ?z31 ?z38; (case z38 => assumption); (case z31 => k_dflt k_mem)) | (refine' gdJ_one ?z31 ?z38 ?z37 ?z19; (case z38 => assumption); (case z31 => k_dflt k_mem); (case z37 => k_dflt tb_start); (case z19 => k_dflt (k_extra "k_ltA")))); (case z35 => tb_rel))
   | (refine' datP_gd ?z31 ?z34 ?z35; (case z31 => k_dflt k_mem); (case z34 => first | (refine' gd_had ?z31 ?z38; (case z38 => assumption); (case z31 => k_dflt k_mem)) | (refine' gd_one ?z31 ?z38 ?z37; (case z38 => assumption); (case z31 => k_dflt k_mem); (case z37 => k_dflt tb_start))); (case z35 => tb_rel))
   | fail)
  k_with "w_lcg_off" =>
   (with_reducible first
   | assumption
   | exact off3_nil
   | (refine' off3_app ?_ ?_ <;> lcg_off)
   | (refine' off3_any ?z40 ?z14 ?z3; (case z40 => assumption); (case z14 => k_dflt k_mem); (case z3 => lcg_off))
   | (refine' off3_cons ⟨?z42, ?z16, ?z17⟩ ?z3; (case z42 | z16 | z17 => k_dflt k_ne); (case z3 => lcg_off))
   | (refine' off3_above ?z40 ?z42 ?z16 ?z17; (case z40 => assumption); (case z42 | z16 | z17 => k_dflt k_mem))
   | (refine' off3_sub ?z40 ?z3; (case z40 => assumption); (case z3 => k_dflt tb_start))
   | fail)
  k_with "w_ktr_room" =>
   ((try simp only [depth_under_make, depth_under_kw, depth_in1, depth_deeper, depth_caller]); (try dsimp only [ktrTop]); with_reducible first
   | (refine' room2 ?z11 ?z20; (case z11 => assumption); (case z20 => k_dflt (first | exact Nat.le_of_ble_eq_true rfl | omega)))
   | (refine' room1 ?z11 ?z20; (case z11 => assumption); (case z20 => k_dflt (first | exact Nat.le_of_ble_eq_true rfl | omega)))
   | (refine' room0 ?z11; (case z11 => assumption))
   | fail)
  k_with "w_ktr_units" =>
   ((try simp only [units_in1, units_deeper, Around.mark_units, units_caller]); (try dsimp only [ktrTop]); with_reducible first
   | (refine' unit2 ?z11 ?z20; (case z11 => assumption); (case z20 => k_dflt (first | exact Nat.le_of_ble_eq_true rfl | omega)))
   | (refine' unit1 ?z11 ?z20; (case z11 => assumption); (case z20 => k_dflt (first | exact Nat.le_of_ble_eq_true rfl | omega)))
   | fail)
  k_with "k_ltA" =>
   (first
   | (refine' lt_all ?z6 ?z36; (case z6 => with_reducible assumption); (case z36 => k_mem))
   | (refine ltN ?_; omega))
  trivial
theorem inner_ok {j : Addr} {x y : Int} {tx ty : Tok} {n : Nat} {rest : List (Addr × Obj)} (ok : JarOk x y) (off : Off j rest) (o68 : Off 68 rest) (j68 : @LT.lt Nat _ 68 j) : CallOk PySem.Challenge.rw_xm0591_01.row.prog w (hd.heap_1 w.params) topProg loose mean mg mb 60 234 [.ref j] ((j, jarO x tx y ty n) :: (68, tabObj #[]) :: rest) (fun r l => r = .bool true ∧ ∃ ps', (68, tabObj ps') ∈ l) := by
  have hC1 : TypeOk w loose mean mg mb (fun _ => none) 1 29 := fun hi ok off hV hds hs1 => type1 hi ok off hV hds hs1
  unfold CallOk
  intro dp un gd cn cs a' ccd cl outer A₀ base h₀ L m s Q E B F X N T hk hdp hun hret
  refine wpAny_call ?_
  k_dflt ktr_enter
  k_steps
  all_goals first
    | ((with_reducible refine' hret _ _ _ _ ?F9 ?N9 ?P9); (case F9 => k_asm); (case N9 => k_asm); (case P9 => (refine' ⟨rfl, ?p9, ?m9⟩; (case m9 => (focus ((repeat (with_reducible first | exact List.mem_cons_self | refine List.mem_cons_of_mem _ ?_ | refine List.mem_append_left _ ?_)); done))))))
    | ((repeat (with_reducible rename _ ∧ _ => hc; (have hcl := hc.1); (have hcr := hc.2); clear hc)); first | (refine' in_next ?aat ?F ?N ?hk ?P0 ?P1 ?P2 ?P3 ?P4 ?P5 ?P6 ?hv ?ha ?ok ?oI ?oq1 ?oq2 ?oq3 ?oj ?ofa ?oda ?nj ?nfa ?nda ?nq1 ?nq2 ?nq3 ?hr ?d1 ?d2 ?hD; (case aat => with_reducible assumption); (case F => k_asm); (case N => k_asm); (case hk => (refine' kvIn_cons ?va0 ?vb0; (case va0 => exact rfl); (case vb0 => (refine' kvIn_cons ?va1 ?vb1; (case va1 => exact rfl); (case vb1 => (refine' kvIn_cons ?va2 ?vb2; (case va2 => exact rfl); (case vb2 => (refine' kvIn_cons ?va3 ?vb3; (case va3 => exact rfl); (case vb3 => (refine' kvIn_cons ?va4 ?vb4; (case va4 => exact rfl); (case vb4 => (refine' kvIn_cons ?va5 ?vb5; (case va5 => exact rfl); (case vb5 => (refine' kvIn_cons ?va6 ?vb6; (case va6 => exact rfl); (case vb6 => (exact kvIn_nil)))))))))))))))); (case P0 => (repeat (first | exact Pull.head | apply Pull.tail))); (case P1 => (repeat (first | exact Pull.head | apply Pull.tail))); (case P2 => (repeat (first | exact Pull.head | apply Pull.tail))); (case P3 => (repeat (first | exact Pull.head | apply Pull.tail))); (case P4 => (repeat (first | exact Pull.head | apply Pull.tail))); (case P5 => (repeat (first | exact Pull.head | apply Pull.tail))); (case P6 => (repeat (first | exact Pull.head | apply Pull.tail))); (case hv => exact rfl); (case ha => k_mem); (case ok => k_asm); (case oI => kqd_all); (case oq1 => (dsimp only; kqd_all)); (case oq2 => (dsimp only; kqd_all)); (case oq3 => (dsimp only; kqd_all)); (case oj => kqd_all); (case ofa => kqd_all); (case oda => kqd_all); (case nj => with_reducible assumption); (case nfa => with_reducible assumption); (case nda => with_reducible assumption); (case nq1 => with_reducible assumption); (case nq2 => with_reducible assumption); (case nq3 => with_reducible assumption); (case hr => tb_start); (case d1 => with_reducible assumption); (case d2 => with_reducible assumption); (case hD => tb_start)) | (refine' out_next ?aat ?ai ?hk2 ?F ?N ?hk ?P0 ?P1 ?P2 ?P3 ?P4 ?hv ?ha ?hfa ?ok ?oI ?oq ?oj ?ova ?oda ?nj ?nva ?nda ?nq ?hr ?hr2; (case aat => with_reducible assumption); (case ai => with_reducible assumption); (case hk2 => with_reducible assumption); (case F => k_asm); (case N => k_asm); (case hk => (refine' kvIn_cons ?va0 ?vb0; (case va0 => exact rfl); (case vb0 => (refine' kvIn_cons ?va1 ?vb1; (case va1 => exact rfl); (case vb1 => (refine' kvIn_cons ?va2 ?vb2; (case va2 => exact rfl); (case vb2 => (refine' kvIn_cons ?va3 ?vb3; (case va3 => exact rfl); (case vb3 => (refine' kvIn_cons ?va4 ?vb4; (case va4 => exact rfl); (case vb4 => (exact kvIn_nil)))))))))))); (case P0 => (repeat (first | exact Pull.head | apply Pull.tail))); (case P1 => (repeat (first | exact Pull.head | apply Pull.tail))); (case P2 => (repeat (first | exact Pull.head | apply Pull.tail))); (case P3 => (repeat (first | exact Pull.head | apply Pull.tail))); (case P4 => (repeat (first | exact Pull.head | apply Pull.tail))); (case hv => exact rfl); (case ha => k_mem); (case hfa => k_mem); (case ok => k_asm); (case oI => kqd_all); (case oq => (dsimp only; kqd_all)); (case oj => kqd_all); (case ova => kqd_all); (case oda => kqd_all); (case nj => with_reducible assumption); (case nva => with_reducible assumption); (case nda => with_reducible assumption); (case nq => with_reducible assumption); (case hr => tb_start); (case hr2 => tb_start)))
end
end Mine
namespace Mine
example : True := by
  w_top off
  k_with_none
  trivial
section
variable {w : World} {loose : List Str} {mean : ExcName → Option Value} {mg mb : Str → Option Value}
theorem lawjar_y (i : Int) : 0 ≤ i.fmod 2147483647 ∧ i.fmod 2147483647 < 2147483647 := by
  rw [Int.fmod_eq_emod_of_nonneg _ (by decide)]
  exact ⟨Int.emod_nonneg _ (by decide), Int.emod_lt_of_pos _ (by decide)⟩
theorem lawjar_x (v : Int) : 0 ≤ (if -1 - v > v then -1 - v else v) := by
  split <;> omega
theorem lawjar_use {sa : Addr} {items : List Value} {xs : List Int} {news : List (Addr × Obj)} {dp un : Nat} {gd : Option (List Code)} {cn : Str} {cs : Scope} {a : Addr} {ccd : Value} {cl : List (Str × Addr)} {outer : List Env} {A₀ : Around} {base h₀ : Heap} {L : Addr} {m : Str → Option Value} {hS : Heap} {gS : Array GenState} {dS : Drawn} {tS : Nat} {oS : OsState} {Q E : Value → Shared → Prop}
  (hl : h₀.IsList sa items.toArray) (hI : IntsAre items xs) (hlen : xs.length ≤ 63) (B : Below A₀ base outer h₀) (F : Fr h₀ L hS m) (X : (hd.heap_1 w.params).In h₀) (N : News h₀ L hS news) (T : Top topProg loose mean mg mb h₀) (hk : cs.kind = .function) (hr : dp + 10 < recursionLimit) (hu : un + 8 * 10 < cLine)
  (ret : ∀ p x y tx ty n h' tk', JarOk x y → Fr h₀ L h' m → News h₀ L h' ((p, jarO x tx y ty n) :: news) → (∀ q ∈ news, q.1 < p) → Q (.ref p) ⟨h', gS, dS, tk', oS⟩) :
  wpAny (model PySem.Challenge.rw_xm0591_01.row.prog w) (ktrTop dp un gd cn cs L a ccd cl outer) (call (.ref 168) [.ref sa]) Q E ⟨hS, gS, dS, tS, oS⟩ := by
  refine wpAny_call ?_
  k_dflt ktr_enter
  have hl2 := Fr.lst (by assumption) hl
  all_goals (try (with_reducible rename News _ _ _ _ => nL9; refine led_let nL9 ?_; clear nL9; intro Y0 N9))
  k_steps
  all_goals (refine ret _ _ _ _ _ _ _ _ ⟨?_, (lawjar_y _).1, (lawjar_y _).2⟩ (by k_asm) (by k_asm) (by first | assumption | exact ktn_ltOf (by assumption)))
  all_goals first | exact Int.le_refl _ | exact lawjar_x _
end
end Mine
namespace Mine
example : True := by
  w_top off
  k_with_none
  trivial
theorem va_hit {k : Str} {v : Value} {r : List (Str × Value)} : valueAt ((k, v) :: r) k = some v := by simp [valueAt]
theorem va_miss {k x : Str} {v : Value} {r : List (Str × Value)} (h : x ≠ k) : valueAt ((x, v) :: r) k = valueAt r k := by simp [valueAt, h]
section
variable {prog : Program} {w : World} {A : Around} {E : Value → Shared → Prop} {s : Shared} {h₀ : Heap} {L : Addr} {m : Str → Option Value} {news : List (Addr × Obj)} {p : Program} {loose : List Str} {mean : ExcName → Option Value} {mg mb : Str → Option Value}
theorem copy_use {d : Addr} {o : Obj} {kvs : List (Str × Value)} {Q : Value → Shared → Prop} (F : Fr h₀ L s.heap m) (N : News h₀ L s.heap news) (T : Top p loose mean mg mb h₀) (hm : (d, o) ∈ news) (hd : o.IsDictOf (PySem.strKind prog w) kvs) (hlo : (d == sysModules) = false) (hsz : kvs.length ≤ 16)
    (ret : ∀ e o' h', Fr h₀ L h' m → News h₀ L h' ((e, o') :: news) → (∀ p ∈ news, p.1 < e) → (e == sysModules) = false → o'.IsDictOf (PySem.strKind prog w) kvs → Q (.ref e) { s with heap := h' }) : wpAny (model prog w) A (call (.type "dict") [.ref d]) Q E s := by
  refine kt_call_dict (knd := PySem.strKind prog w) hlo (Heap.dictOf_iff.mpr ⟨o, (N _ hm).1, hd⟩) (by rw [sizeLine_eq]; omega) fun h' hm' hs => ?_
  obtain ⟨o', ho', hd'⟩ := Heap.dictOf_iff.mp hm'
  have N1 := News.push F N { cls := .type "dict", data := .dict #[] }
  exact ret _ o' h' ((F.push _).change hs (N1 _ (.head _)).2.1 (N1.fresh (.head _))) (N1.setHead N.apart hs ho') (fun q hq => Heap.lt_size (N q hq).1) (F.notModules (modules_low (Top.nolimit T))) hd'
theorem tab_eq1 {a b : Addr} {oa ob : Obj} {v : Value} {Q : Value → Shared → Prop} (N : News h₀ L s.heap news) (pa : (a, oa) ∈ news) (pb : (b, ob) ∈ news) (da : oa.IsDictOf (PySem.strKind prog w) [(Str.ofString "T", v)]) (db : ob.IsDictOf (PySem.strKind prog w) [(Str.ofString "T", v)]) (la : (a == sysModules) = false) (lb : (b == sysModules) = false) (hu : A.units < cLine)
    (h : Q (.bool true) s) : wpAny (model prog w) A (compareOp .Eq (.ref a) (.ref b)) Q E s :=
  keq_pairs N pa pb da db la lb rfl hu (.hit va_hit (SeqAt.EqAt.same v) .nil) h
theorem tab_eq2 {a b : Addr} {oa ob : Obj} {v u : Value} {Q : Value → Shared → Prop} (N : News h₀ L s.heap news) (pa : (a, oa) ∈ news) (pb : (b, ob) ∈ news) (da : oa.IsDictOf (PySem.strKind prog w) [(Str.ofString "T", v), (Str.ofString "U", u)]) (db : ob.IsDictOf (PySem.strKind prog w) [(Str.ofString "T", v), (Str.ofString "U", u)]) (la : (a == sysModules) = false) (lb : (b == sysModules) = false) (hu : A.units < cLine)
    (h : Q (.bool true) s) : wpAny (model prog w) A (compareOp .Eq (.ref a) (.ref b)) Q E s :=
  keq_pairs N pa pb da db la lb rfl hu (.hit va_hit (SeqAt.EqAt.same v) (.hit ((va_miss (by decide +kernel)).trans va_hit) (SeqAt.EqAt.same u) .nil)) h
end
theorem due_no (t : Ty) : due (fun _ => none) t = erase t := by
  induction t <;> simp_all [due, erase]
def tab1 (t : Ty) : Pm → Option Ty
  | .T => some t
  | _ => none
def tab2 (t u : Ty) : Pm → Option Ty
  | .T => some t
  | .U => some u
  | _ => none
theorem tabV1 {D : List (Addr × Obj)} {v : Value} {t : Ty} (h : Dt D v (tyD t)) : TabV D [(Str.ofString "T", v)] (tab1 t) := fun x => by
  cases x
  · exact ⟨v, va_hit, h⟩
  · exact va_miss (by decide +kernel)
  · exact va_miss (by decide +kernel)
  · exact va_miss (by decide +kernel)
theorem tabV2 {D : List (Addr × Obj)} {v v2 : Value} {t u : Ty} (h : Dt D v (tyD t)) (k : Dt D v2 (tyD u)) : TabV D [(Str.ofString "T", v), (Str.ofString "U", v2)] (tab2 t u) := fun x => by
  cases x
  · exact ⟨v, va_hit, h⟩
  · exact ⟨v2, (va_miss (by decide +kernel)).trans va_hit, k⟩
  · exact (va_miss (by decide +kernel)).trans (va_miss (by decide +kernel))
  · exact (va_miss (by decide +kernel)).trans (va_miss (by decide +kernel))
theorem dues1 {l D : List (Addr × Obj)} {a p : Addr} {v : Value} {k n : Nat} {tk : Tok} {t : Ty} (h1 : (a, listOf #[.ref p] k) ∈ l) (h2 : (p, tupO [.str (Str.ofString "T") tk, v] n) ∈ l) (h3 : Dt D v (tyD (due (fun _ => none) t))) (h4 : t.dp ≤ 1) : DuesIn l D a (fun x => (tab1 t x).map erase) := by
  rw [due_no] at h3
  refine ⟨k, [.ref p], [(Str.ofString "T", v)], h1, .cons h2 .nil, Nat.le_of_ble_eq_true rfl, fun q hq => ?_⟩
  rcases hq with rfl | rfl
  · exact .inr ⟨v, erase t, by simp [picked, pmS], rfl, h3, by rw [erase_dp]; omega⟩
  · exact .inl ⟨by rw [picked, if_neg (by decide +kernel)]; rfl, rfl⟩
theorem dues2 {l D : List (Addr × Obj)} {a p p2 : Addr} {v v2 : Value} {k n n2 : Nat} {tk tk2 : Tok} {t u : Ty} (h1 : (a, listOf #[.ref p, .ref p2] k) ∈ l) (h2 : (p, tupO [.str (Str.ofString "T") tk, v] n) ∈ l) (h5 : (p2, tupO [.str (Str.ofString "U") tk2, v2] n2) ∈ l) (h3 : Dt D v (tyD (due (fun _ => none) t))) (h6 : Dt D v2 (tyD (erase u))) (h4 : t.dp ≤ 1) (h7 : u.dp ≤ 4) : DuesIn l D a (fun x => (tab2 t u x).map erase) := by
  rw [due_no] at h3
  refine ⟨k, [.ref p, .ref p2], [(Str.ofString "T", v), (Str.ofString "U", v2)], h1, .cons h2 (.cons h5 .nil), Nat.le_of_ble_eq_true rfl, fun q hq => ?_⟩
  rcases hq with rfl | rfl
  · exact .inr ⟨v, erase t, by rw [picked, if_pos (by decide +kernel), picked, if_neg (by decide +kernel)]; rfl, rfl, h3, by rw [erase_dp]; omega⟩
  · exact .inr ⟨v2, erase u, by rw [picked, if_neg (by decide +kernel), picked, if_pos (by decide +kernel)]; rfl, rfl, h6, by rw [erase_dp]; omega⟩
def tyU : Ty := .box (.ref .b false .bool)
theorem dt_u {l : List (Addr × Obj)} {a b c : Addr} {t1 t2 t3 t4 : Tok} {n1 n2 n3 : Nat} (h1 : (a, tupO [.str (Str.ofString "box") t1, .ref b] n1) ∈ l) (h2 : (b, tupO [.str (Str.ofString "ref") t2, .str (Str.ofString "'b") t3, .bool false, .ref c] n2) ∈ l) (h3 : (c, tupO [.str (Str.ofString "bool") t4] n3) ∈ l) : Dt l (.ref a) (tyD tyU) :=
  .tuple h1 (.cons (.str _ _) (.cons (.tuple h2 (.cons (.str _ _) (.cons (.str _ _) (.cons (.bool _) (.cons (.tuple h3 (.cons (.str _ _) .nil)) .nil))))) .nil))
theorem dt_u' {l : List (Addr × Obj)} {a b c : Addr} {t1 t2 t4 : Tok} {n1 n2 n3 : Nat} (h1 : (a, tupO [.str (Str.ofString "box") t1, .ref b] n1) ∈ l) (h2 : (b, tupO [.str (Str.ofString "ref") t2, .none, .bool false, .ref c] n2) ∈ l) (h3 : (c, tupO [.str (Str.ofString "bool") t4] n3) ∈ l) : Dt l (.ref a) (tyD (erase tyU)) :=
  .tuple h1 (.cons (.str _ _) (.cons (.tuple h2 (.cons (.str _ _) (.cons .none (.cons (.bool _) (.cons (.tuple h3 (.cons (.str _ _) .nil)) .nil))))) .nil))
def tyF : Ty := .ref .a false (.par .T)
theorem dt_f {l : List (Addr × Obj)} {a b : Addr} {t1 t2 t3 t4 : Tok} {n1 n2 : Nat} (h1 : (a, tupO [.str (Str.ofString "ref") t1, .str (Str.ofString "'a") t2, .bool false, .ref b] n1) ∈ l) (h2 : (b, tupO [.str (Str.ofString "param") t3, .str (Str.ofString "T") t4] n2) ∈ l) : Dt l (.ref a) (tyD tyF) :=
  .tuple h1 (.cons (.str _ _) (.cons (.str _ _) (.cons (.bool _) (.cons (.tuple h2 (.cons (.str _ _) (.cons (.str _ _) .nil))) .nil))))
theorem dt_b {l : List (Addr × Obj)} {a : Addr} {t1 : Tok} {n1 : Nat} (h1 : (a, tupO [.str (Str.ofString "bool") t1] n1) ∈ l) : Dt l (.ref a) (tyD .bool) := .tuple h1 (.cons (.str _ _) .nil)
theorem dt_g {l : List (Addr × Obj)} {a b : Addr} {t1 t4 : Tok} {n1 n2 : Nat} (h1 : (a, tupO [.str (Str.ofString "ref") t1, .none, .bool false, .ref b] n1) ∈ l) (h2 : (b, tupO [.str (Str.ofString "bool") t4] n2) ∈ l) : Dt l (.ref a) (tyD (erase (subst (tab1 .bool) tyF))) :=
  .tuple h1 (.cons (.str _ _) (.cons .none (.cons (.bool _) (.cons (.tuple h2 (.cons (.str _ _) .nil)) .nil))))
theorem law_ne {prog : Program} {w : World} {A : Around} {E : Value → Shared → Prop} {s : Shared} {h₀ : Heap} {L : Addr} {news n₁ : List (Addr × Obj)} {v : Value} {a b : Addr} {t1 t4 : Tok} {n1 n2 : Nat} {Q : Value → Shared → Prop} (N : News h₀ L s.heap news) (Da : Dt n₁ v (tyD (erase (subst (tab1 .bool) tyF)))) (sa : ∀ p ∈ n₁, p ∈ news)
    (h1 : (a, tupO [.str (Str.ofString "ref") t1, .none, .bool false, .ref b] n1) ∈ news) (h2 : (b, tupO [.str (Str.ofString "bool") t4] n2) ∈ news) (hu : A.units + 64 < cLine) (h : Q (.bool false) s) : wpAny (model prog w) A (compareOp .NotEq v (.ref a)) Q E s :=
  td_ne (k := 5) N Da sa (dt_g h1 h2) (fun _ h => h) (ty_ok _ (by decide)) (by decide) hu h
theorem tab1_dp {t : Ty} (h : t.dp ≤ 4) : ∀ x u, tab1 t x = some u → u.dp ≤ 4 := fun x u e => by
  cases x <;> simp [tab1] at e
  rwa [← e]
theorem tab2_dp {t r : Ty} (h : t.dp ≤ 4) (k : r.dp ≤ 4) : ∀ x u, tab2 t r x = some u → u.dp ≤ 4 := fun x u e => by
  cases x <;> simp [tab2] at e
  · rwa [← e]
  · rwa [← e]
section
variable {prog : Program} {w : World} {s : Shared} {h₀ : Heap} {L d : Addr} {m : Str → Option Value} {news rest : List (Addr × Obj)} {o : Obj}
theorem made_use {x : Str} {t : Tok} {v : Value} {Q : Value → Shared → Prop} (F : Fr h₀ L s.heap m) (N : News h₀ L s.heap news) (P : Pull (d, o) news rest) (off : Off d rest) (hd : o.IsDictOf (PySem.strKind prog w) [])
    (ret : ∀ h' o' tk', Fr h₀ L h' m → News h₀ L h' ((d, o') :: rest) → o'.IsDictOf (PySem.strKind prog w) [(x, v)] → Q (.ref d) { s with heap := h', toks := tk' }) : KdnMade prog w (PySem.strKind prog w) d Q [(.str x t, v)] s :=
  kdn_made_str F (News.sub N P.mem) (.head off) hd rfl (by simp [strPairs]) fun h' o' F' N' k => ret h' o' _ F' N' k
theorem stored2 {o' : Obj} {v u : Value} (h : o'.IsDictOf (PySem.strKind prog w) (stored [(Str.ofString "T", v)] (Str.ofString "U") u)) : o'.IsDictOf (PySem.strKind prog w) [(Str.ofString "T", v), (Str.ofString "U", u)] := by
  have e : stored [(Str.ofString "T", v)] (Str.ofString "U") u = [(Str.ofString "T", v), (Str.ofString "U", u)] := by
    rw [stored, if_neg]
    · rfl
    · simp only [List.any_cons, List.any_nil, Bool.or_false, decide_eq_true_eq]
      decide +kernel
  rwa [e] at h
end
section
variable {w : World} {loose : List Str} {mean : ExcName → Option Value} {mg mb : Str → Option Value}
theorem fin_use (hC : ∀ {j : Addr} {x y : Int} {tx ty : Tok} {n : Nat} {rest : List (Addr × Obj)}, JarOk x y → Off j rest → Off 68 rest → @LT.lt Nat _ 68 j → CallOk PySem.Challenge.rw_xm0591_01.row.prog w (hd.heap_1 w.params) topProg loose mean mg mb 60 234 [.ref j] ((j, jarO x tx y ty n) :: (68, tabObj #[]) :: rest) (fun r l => r = .bool true ∧ ∃ ps', (68, tabObj ps') ∈ l))
  {j : Addr} {x y : Int} {tx ty : Tok} {n : Nat} {news : List (Addr × Obj)} {dp un : Nat} {gd : Option (List Code)} {cn : Str} {cs : Scope} {a : Addr} {ccd : Value} {cl : List (Str × Addr)} {outer : List Env} {A₀ : Around} {base h₀ : Heap} {L : Addr} {m : Str → Option Value} {hS : Heap} {gS : Array GenState} {dS : Drawn} {tS : Nat} {oS : OsState} {Q E : Value → Shared → Prop}
  (hm : (j, jarO x tx y ty n) ∈ news) (hm2 : (68, tabObj #[]) ∈ news) (ok : JarOk x y) (lt : @LT.lt Nat _ 68 j) (B : Below A₀ base outer h₀) (F : Fr h₀ L hS m) (X : (hd.heap_1 w.params).In h₀) (N : News h₀ L hS news) (T : Top topProg loose mean mg mb h₀) (hk : cs.kind = .function) (hr : dp + 60 < recursionLimit) (hu : un + 8 * 60 < cLine)
  (ret : ∀ ps' h' tk', Fr h₀ L h' m → News h₀ L h' [(68, tabObj ps')] → Q (.bool true) ⟨h', gS, dS, tk', oS⟩) : wpAny (model PySem.Challenge.rw_xm0591_01.row.prog w) (ktrTop dp un gd cn cs L a ccd cl outer) (call (.ref 234) [.ref j]) Q E ⟨hS, gS, dS, tS, oS⟩ :=
  hC (rest := []) ok off_nil off_nil lt _ _ _ _ _ _ _ _ _ _ _ _ _ _ _ _ _ B F X (News.sub N (sub_cons hm (sub_cons hm2 sub_nil))) T hk hr hu fun r l h' tk' F' N' hp => by
    obtain ⟨rfl, ps', h⟩ := hp
    exact ret ps' h' tk' F' (News.sub N' (sub_cons h sub_nil))
end
theorem law_raises (args : List WData) (cls : ExcName) : PySem.Challenge.rw_xm0591_01.row.claim.raises args cls = false := raisesW_false (fun ct h => absurd (show ct ∈ [] from h) List.not_mem_nil) cls
theorem law_post (args : List WData) : PySem.Challenge.rw_xm0591_01.row.claim.post args (.bool true) args = true := by
  refine postW_of (by wrow_shape) (w_eq_bool (w_res rfl) w_lit) rfl
theorem law_end {cl : Str → Option Addr} {mean : ExcName → Option Value} {args : List WData} {s₁ s' : Shared} {L : Addr} {m : Str → Option Value} (F : Fr s₁.heap L s'.heap m) (hg : s'.gens = #[]) (hos : s'.os = s₁.os) :
    GoodW PySem.Challenge.rw_xm0591_01.row.claim cl mean args s₁ (.ok (.ret (.bool true))) s' := goodW_bool F hg (law_raises args) (law_post args) hos
end Mine
namespace Mine
example : True := by
  w_top off
  k_with_none
  trivial

end Mine
namespace Mine

example : True := by
  k_with_none
  k_with "w_kqd_all" =>
   (with_reducible first
   | assumption
   | exact off_nil
   | (refine' off_cons ?z29 ?z39; (case z29 => k_dflt k_ne); (case z39 => kqd_all))
   | (refine' off_app ?_ ?_ <;> kqd_all)
   | (refine' off_sub ?z8 ?z7; (case z8 => assumption); (case z7 => k_dflt tb_start))
   | (refine' off_above ?z8 ?z7; (case z8 => assumption); (case z7 => k_dflt k_mem))
   | (refine' off_lt ?z8 ?z33 ?z7; (case z8 => assumption); (case z33 => k_dflt ((show (_ : Nat) ≤ _); omega)); (case z7 => k_dflt tb_start))
   | (refine' off_o3a ?z8 ?z7; (case z8 => assumption); (case z7 => k_dflt tb_start))
   | (refine' off_o3b ?z8 ?z7; (case z8 => assumption); (case z7 => k_dflt tb_start))
   | (refine' off_o3c ?z8 ?z7; (case z8 => assumption); (case z7 => k_dflt tb_start))
   | (refine' off_o1 ?z8 ?z7; (case z8 => assumption); (case z7 => k_dflt tb_start))
   | fail)
  k_with "w_k_ne" =>
   (first
   | with_reducible assumption
   | (refine' ne_all ?z6 ?z36; (case z6 => with_reducible assumption); (case z36 => k_mem))
   | (refine' ne_all2 ?z6 ?z36; (case z6 => with_reducible assumption); (case z36 => k_mem))
   | (refine' Ne.symm ?z6; (case z6 => with_reducible assumption))
   | (refine' ne_o3a ?z6 ?z36; (case z6 => with_reducible assumption); (case z36 => k_mem))
   | (refine' ne_o3b ?z6 ?z36; (case z6 => with_reducible assumption); (case z36 => k_mem))
   | (refine' ne_o3c ?z6 ?z36; (case z6 => with_reducible assumption); (case z36 => k_mem))
   | (refine' ne_o3a' ?z6 ?z36; (case z6 => with_reducible assumption); (case z36 => k_mem))
   | (refine' ne_o3b' ?z6 ?z36; (case z6 => with_reducible assumption); (case z36 => k_mem))
   | (refine' ne_o3c' ?z6 ?z36; (case z6 => with_reducible assumption); (case z36 => k_mem))
   | (refine' ne_o1 ?z6 ?z36; (case z6 => with_reducible assumption); (case z36 => k_mem))
   | (refine' ne_o1' ?z6 ?z36; (case z6 => with_reducible assumption); (case z36 => k_mem))
   | (refine' ne_of_lt' ?z6; (case z6 => with_reducible assumption))
   | (refine' ne_of_gt' ?z6; (case z6 => with_reducible assumption))
   | (refine' ne_tr ?z41 ?z6 ?z36; (case z41 | z6 => with_reducible assumption); (case z36 => k_mem))
   | (refine' ne_trs ?z41 ?z6 ?z36; (case z41 | z6 => with_reducible assumption); (case z36 => k_mem))
   | (refine' ne_tr2 ?z41 ?z26 ?z6 ?z36; (case z41 | z26 | z6 => with_reducible assumption); (case z36 => k_mem))
   | (refine' ne_tr2s ?z41 ?z26 ?z6 ?z36; (case z41 | z26 | z6 => with_reducible assumption); (case z36 => k_mem))
   | (with_reducible refine' ne_up1 ?z6 ?z36; (case z6 => assumption); (case z36 => k_dflt k_mem))
   | (with_reducible refine' ne_up2 ?z6 ?z36; (case z6 => assumption); (case z36 => k_dflt k_mem))
   | (with_reducible refine' ne_up3 ?z6 ?z36; (case z6 => assumption); (case z36 => k_dflt k_mem))
   | (with_reducible refine' ne_dn1 ?z6 ?z36; (case z6 => assumption); (case z36 => k_dflt k_mem))
   | (with_reducible refine' ne_dn2 ?z6 ?z36; (case z6 => assumption); (case z36 => k_dflt k_mem))
   | (with_reducible refine' ne_dn3 ?z6 ?z36; (case z6 => assumption); (case z36 => k_dflt k_mem))
   | fail)
  k_with "subscriptTail" =>
   ((k_here; (with_reducible show wpAny _ _ (subscriptTail _ _ (Value.ref _) (Value.int _ _)) _ _ _); k_dflt (first
   | (refine' my_tup ?Z0 ?Z1 ?Z2 ?Z3 ?Z4 ?Z5 ?_; (case Z0 => k_asm); (case Z1 => k_mem); (case Z2 | Z3 => decide); (case Z4 | Z5 => rfl); k_whole)
   | (refine' my_lst ?Z0 ?Z1 ?Z2 ?Z3 ?Z5 ?_; (case Z0 => k_asm); (case Z1 => k_mem); (case Z2 | Z3 => decide); (case Z5 => rfl); k_whole))))
  k_with "eval Name" =>
   ((k_here; k_dflt (refine' nameX_L ?Z6 ?Z7 ?_; (case Z6 => k_asm); (case Z7 => exact rfl); k_whole)))
  k_with "w_kqd_all" =>
   (first
   | with_reducible assumption
   | ((with_reducible refine off_cons ?_ ?_); k_ne; kqd_all)
   | ((with_reducible refine off_app ?_ ?_); kqd_all; kqd_all)
   | exact off_sub (by with_reducible assumption) (by tb_start)
   | exact off_above (by with_reducible assumption) (by k_mem)
   | exact off_lt (by with_reducible assumption) (by (show (_ : Nat) ≤ _); omega) (by tb_start)
   | exact off_nil
   | fail "kqd_all: not off")
  k_with "w_k_all" =>
   (first | assumption | ((show Off _ _); kqd_all))
  k_with "w_k_ne" =>
   (first
   | with_reducible assumption
   | (refine' Ne.symm ?Z8; (case Z8 => with_reducible assumption))
   | (refine' pne ?Z8 ?Z9; (case Z8 => with_reducible assumption); (case Z9 => kqd_all))
   | (refine' Ne.symm (pne ?Z8 ?Z9); (case Z8 => with_reducible assumption); (case Z9 => kqd_all))
   | (refine neN ?_; (try dsimp only); omega)
   | (refine' off_mem ?Z8 ?Za; (case Z8 => with_reducible assumption); (case Za => (focus ((repeat (with_reducible first | exact List.mem_cons_self | refine List.mem_cons_of_mem _ ?_ | refine List.mem_append_left _ ?_)); done))))
   | (refine' Ne.symm (off_mem ?Z8 ?Za); (case Z8 => with_reducible assumption); (case Za => (focus ((repeat (with_reducible first | exact List.mem_cons_self | refine List.mem_cons_of_mem _ ?_ | refine List.mem_append_left _ ?_)); done)))))
  k_with "w_kqd_all" =>
   (first
   | with_reducible assumption
   | ((with_reducible refine off_cons ?_ ?_); k_ne; kqd_all)
   | ((with_reducible refine off_app ?_ ?_); kqd_all; kqd_all)
   | (refine' off_above ?Zb ?Zc; (case Zb => with_reducible assumption); (case Zc => k_mem))
   | (refine' off_lt ?Zb (Nat.le_refl _) ?Zc; (case Zb => with_reducible assumption); (case Zc => tb_start))
   | (refine' off_sub ?Zb ?Zc; (case Zb => with_reducible assumption); (case Zc => tb_start))
   | exact off_nil
   | (refine' off_lt ?Zb ?Zd ?Zc; (case Zb => with_reducible assumption); (case Zd => (show (_ : Nat) ≤ _; omega)); (case Zc => tb_start))
   | fail "kqd_all: not off")
  k_with "w_k_room" =>
   (ktr_room)
  k_with "callWith ref" =>
   ((k_here; (with_reducible show wpAny _ _ (callWith _ (Value.ref _) _ (backTo _ (starEach (_ :: _) _)) []) _ _ _); k_dflt (refine' callWith_K ?Ze ?Zf ?_; (case Ze => with_reducible assumption); (case Zf => k_is); k_whole)))
  k_with "callWith ref" =>
   ((k_here; (with_reducible show wpAny _ _ (callWith _ (Value.ref _) _ (backTo _ (starEach [] _)) []) _ _ _); k_dflt (refine' callWith_K0 ?Zg ?Zh ?_; (case Zg => exact Frag.In.keeps (by with_reducible assumption) (Fr.keep (by k_asm))); (case Zh => k_is); k_whole)))
  k_with "eval Dict" =>
   ((k_here; k_dflt (refine' kdn_str ?Zi ?Zj ?Zk ?Zl ?Zm ?Zn ?Zo ?Zp ?_; (case Zi => rfl); (case Zj | Zk => k_asm); (case Zl => exact Top.nolimit (by k_asm)); (case Zm | Zn => rfl); (case Zo => exact List.cons_ne_nil _ _); (case Zp => exact Nat.le_of_ble_eq_true rfl)); intro d' h' o' F' N' l1 lo' hd'; (try k_lt l1)))
  k_with "KdnMade" =>
   ((k_here; (repeat (with_reducible rename _ ∧ _ => hc; (have hcl := hc.1); (have hcr := hc.2); clear hc)); k_dflt (refine' made_use ?Zq ?Zr ?Zs ?Zt ?Zu ?_; (case Zq => k_asm); (case Zu => with_reducible assumption); (case Zr => k_asm); (case Zs => (repeat (first | exact Pull.head | apply Pull.tail))); (case Zt => kqd_all)); intro h' o' tk' F' N' hd'))
  k_with "call ref" =>
   ((k_here; (with_reducible show wpAny _ _ (call (Value.ref 78) _) _ _ _); k_dflt (refine' plain_use (σ := tab1 .bool) (t := tyF) ?Zv ?Zw ?Zx ?Zy ?Zz ?Z10 ?Z11 ?Z12 ?Z13 ?Z14 ?Z15 ?Z16 ?Z17 ?Z18 ?Z19 ?Z1a ?_; (case Z16 => k_asm); (case Z11 | Z12 => exact fun _ h => h); (case Zv => (refine' dt_f ?Z1b ?Z1c; (case Z1b | Z1c => (focus ((repeat (with_reducible first | exact List.mem_cons_self | refine List.mem_cons_of_mem _ ?_ | refine List.mem_append_left _ ?_)); done))))); (case Zz => with_reducible assumption); (case Zy => (focus ((repeat (with_reducible first | exact List.mem_cons_self | refine List.mem_cons_of_mem _ ?_ | refine List.mem_append_left _ ?_)); done))); (case Zx => (refine' tabV1 ?Z1d; (case Z1d => (refine' dt_b ?Z1b; (case Z1b => (focus ((repeat (with_reducible first | exact List.mem_cons_self | refine List.mem_cons_of_mem _ ?_ | refine List.mem_append_left _ ?_)); done))))))); (case Z10 => with_reducible assumption); (case Z14 | Z13 | Z15 | Z17 => k_asm); (case Z18 => exact rfl); (case Z19 | Z1a => exact Nat.le_of_ble_eq_true rfl); (case Zw => exact plain_ok (tab1_dp (by decide)) _)); intro r9 tl9 h9 tk9 F9 N9 ab9 dt9; (try simp only [List.nil_append, List.cons_append, List.append_nil] at N9); (try dsimp only); (try k_fold)))
  k_with "compareOp NotEq ref ref" =>
   ((k_here; k_dflt (refine' law_ne ?Z1e ?Z1f ?Z1g ?Z1h ?Z1i ?Z1j ?_; (case Z1e => k_asm); (case Z1f => with_reducible assumption); (case Z1g => tb_start); (case Z1h | Z1i => (focus ((repeat (with_reducible first | exact List.mem_cons_self | refine List.mem_cons_of_mem _ ?_ | refine List.mem_append_left _ ?_)); done))); (case Z1j => ktr_units))))
  k_with "compareOp NotEq" =>
   ((k_here; k_dflt (refine' law_ne ?Z1k ?Z1l ?Z1m ?Z1n ?Z1o ?Z1p ?_; (case Z1k => k_asm); (case Z1l => with_reducible assumption); (case Z1m => tb_start); (case Z1n | Z1o => (focus ((repeat (with_reducible first | exact List.mem_cons_self | refine List.mem_cons_of_mem _ ?_ | refine List.mem_append_left _ ?_)); done))); (case Z1p => ktr_units))))
  k_with "call ref" =>
   ((k_here; (with_reducible show wpAny _ _ (call (Value.ref 168) _) _ _ _); k_dflt (refine' lawjar_use ?Z1q ?Z1r ?Z1s ?Z1t ?Z1u ?Z1v ?Z1w ?Z1x ?Z1y ?Z1z ?Z20 ?_; (case Z1u | Z1w => k_asm); (case Z1q | Z1r => with_reducible assumption); (case Z1s => omega); (case Z1t | Z1v | Z1x => k_asm); (case Z1y => exact rfl); (case Z1z | Z20 => exact Nat.le_of_ble_eq_true rfl)); intro p9 x9 y9 tx9 ty9 n9 h9 tk9 ok9 F9 N9 lo9; (k_lt lo9); (try dsimp only); (try k_fold)))
  k_with "call ref" =>
   ((k_here; (with_reducible show wpAny _ _ (call (Value.ref 194) _) _ _ _); (repeat (with_reducible rename _ ∧ _ => hc; (have hcl := hc.1); (have hcr := hc.2); clear hc)); k_dflt (refine' type_usem (kk := 1) (σ := fun _ => none) (D := []) ?Z21 ?Z22 ?Z23 ?Z24 ?Z25 ?Z26 ?Z27 ?Z28 ?Z29 ?Z2a ?Z2b ?Z2c ?Z2d ?Z2e ?Z2f ?Z2g ?_; (case Z2a | Z2c => k_asm); (case Z21 => (repeat (first | exact Pull.head | apply Pull.tail))); (case Z25 => rfl); (case Z22 => k_asm); (case Z23 => kqd_all); (case Z26 => rfl); (case Z27 => exact duesIn_nil (by k_mem)); (case Z28 => exact sub_nil); (case Z29 | Z2b | Z2d => k_asm); (case Z2e => exact rfl); (case Z24 => exact fun hi ok off hV hds hs1 => type1 hi ok off hV hds hs1); (case Z2f | Z2g => exact Nat.le_of_ble_eq_true rfl)); intro p9 v9 u9 n9 tl9 tt9 h9 tk9' x9 tx9 y9 ty9 ok9 F9 N9 ab9 hj9 ho9 ne9 dm9 dp9 dt9 du9; (try simp only [List.nil_append, List.cons_append, List.append_nil] at N9); (try simp only [List.nil_append] at dt9); (try dsimp only); (try k_fold)))
  k_with "call ref" =>
   ((k_here; (with_reducible show wpAny _ _ (call (Value.ref 175) _) _ _ _); (repeat (with_reducible rename _ ∧ _ => hc; (have hcl := hc.1); (have hcr := hc.2); clear hc)); k_dflt (refine' dip_use ?Z2h ?Z2i ?Z2j ?Z2k ?Z2l ?Z2m ?Z2n ?Z2o ?Z2p ?Z2q ?Z2r ?Z2s ?Z2t ?_; (case Z2n | Z2p => k_asm); (case Z2h => (repeat (first | exact Pull.head | apply Pull.tail))); (case Z2i => k_asm); (case Z2j => kqd_all); (case Z2k | Z2l => omega); (case Z2m | Z2o | Z2q => k_asm); (case Z2r => first | exact rfl | with_reducible assumption); (case Z2s | Z2t => exact Nat.le_of_ble_eq_true rfl)); intro k9 tk9 h9 tk9' x9 tx9 y9 ty9 ok9 F9 N9 lo9 hi9; (try simp only [List.nil_append, List.cons_append, List.append_nil] at N9); (try dsimp only); (try k_fold)))
  k_with "setItem ref str" =>
   ((k_here; (repeat (with_reducible rename _ ∧ _ => hc; (have hcl := hc.1); (have hcr := hc.2); clear hc)); k_dflt (refine' store_use ?Z2u ?Z2v ?Z2w ?Z2x ?Z2y ?Z2z ?_; (case Z2u | Z2v => k_asm); (case Z2w => (repeat (first | exact Pull.head | apply Pull.tail))); (case Z2y => with_reducible assumption); (case Z2x => kqd_all); (case Z2z => first | exact Nat.le_of_ble_eq_true rfl | decide)); intro h9 tk9 o9 F9 N9 d9; (replace d9 := stored2 d9)))
  k_with "call builtin:list.append" =>
   ((k_here; (with_reducible show wpAny _ _ (call (Value.builtin _) [Value.ref _, _]) _ _ _); (repeat (with_reducible rename _ ∧ _ => hc; (have hcl := hc.1); (have hcr := hc.2); clear hc)); k_dflt (refine' app_use ?Z30 ?Z31 ?Z32 ?Z33 ?Z34 ?_; (case Z30 | Z31 => k_asm); (case Z32 => (repeat (first | exact Pull.head | apply Pull.tail))); (case Z33 => kqd_all); (case Z34 => exact Nat.le_of_ble_eq_true rfl)); intro h' F' N'; (try simp only [List.nil_append, List.cons_append] at N')))
  k_with "call type:dict" =>
   ((k_here; k_dflt (refine' copy_use ?Z35 ?Z36 ?Z37 ?Z38 ?Z39 ?Z3a ?Z3b ?_; (case Z35 | Z36 => k_asm); (case Z39 => with_reducible assumption); (case Z38 => (focus ((repeat (with_reducible first | exact List.mem_cons_self | refine List.mem_cons_of_mem _ ?_ | refine List.mem_append_left _ ?_)); done))); (case Z37 => k_asm); (case Z3a => with_reducible assumption); (case Z3b => exact Nat.le_of_ble_eq_true rfl)); intro e9 o9 h9 F9 N9 lo9 hlo9 hd9; (try k_lt lo9)))
  k_with "w_kc_close" =>
   ((k_dflt (refine' law_end ?Z3c ?Z3d ?Z3e; (case Z3c => k_asm); (case Z3d => assumption); (case Z3e => rfl))))
  k_with "w_wrow_close" =>
   ((k_dflt (refine' law_end ?Z3f ?Z3g ?Z3h; (case Z3f => k_asm); (case Z3g => assumption); (case Z3h => rfl))))
  k_with "callWith builtin:list.append" =>
   ((k_here; k_dflt (refine' callWith_method1 _ ?Z3i ?Z3j; (case Z3i | Z3j => rfl))))
  k_with "call ref" =>
   ((k_here; (with_reducible show wpAny _ _ (call (Value.ref 220) _) _ _ _); (repeat (with_reducible rename _ ∧ _ => hc; (have hcl := hc.1); (have hcr := hc.2); clear hc)); k_dflt (first
   | (refine' pieces_use (τ := tab1 _) ?Z3k ?Z3l ?Z3m ?Z3n ?Z3o ?Z3p ?Z3q ?Z3r ?Z3s ?Z3t ?Z3u ?Z3v ?Z3w ?Z3x ?Z3y ?Z3z ?Z40 ?Z41 ?Z42 ?Z43 ?_; (case Z3x | Z3z => k_asm); (case Z3k => (repeat (first | exact Pull.head | apply Pull.tail))); (case Z3l => k_asm); (case Z3m => kqd_all); (case Z3p => (focus ((repeat (with_reducible first | exact List.mem_cons_self | refine List.mem_cons_of_mem _ ?_ | refine List.mem_append_left _ ?_)); done))); (case Z3q | Z3r => with_reducible assumption); (case Z3w | Z3y | Z40 => k_asm); (case Z41 => exact rfl); (case Z42 | Z43 => exact Nat.le_of_ble_eq_true rfl); (case Z3o => rfl);  (case Z3s => (refine' tabV1 ?Z44; (case Z44 => with_reducible assumption))); (case Z3t => tb_start); (case Z3u => (refine' dues1 ?Z45 ?Z46 ?Z47 ?Z48; (case Z45 | Z46 => (focus ((repeat (with_reducible first | exact List.mem_cons_self | refine List.mem_cons_of_mem _ ?_ | refine List.mem_append_left _ ?_)); done))); (case Z47 | Z48 => with_reducible assumption))); (case Z3v => tb_start); (case Z3n => (refine' tab1_dp (Nat.le_trans ?Z48 ?Z49); (case Z48 => with_reducible assumption); (case Z49 => decide))))
   | (refine' pieces_use (τ := tab2 _ tyU) ?Z3k ?Z3l ?Z3m ?Z3n ?Z3o ?Z3p ?Z3q ?Z3r ?Z3s ?Z3t ?Z3u ?Z3v ?Z3w ?Z3x ?Z3y ?Z3z ?Z40 ?Z41 ?Z42 ?Z43 ?_; (case Z3x | Z3z => k_asm); (case Z3k => (repeat (first | exact Pull.head | apply Pull.tail))); (case Z3l => k_asm); (case Z3m => kqd_all); (case Z3p => (focus ((repeat (with_reducible first | exact List.mem_cons_self | refine List.mem_cons_of_mem _ ?_ | refine List.mem_append_left _ ?_)); done))); (case Z3q | Z3r => with_reducible assumption); (case Z3w | Z3y | Z40 => k_asm); (case Z41 => exact rfl); (case Z42 | Z43 => exact Nat.le_of_ble_eq_true rfl); (case Z3o => rfl);  (case Z3t | Z3v => exact fun _ h => h); (case Z3s => (refine' tabV2 ?Z4a ?Z4b; (case Z4a => (refine' Dt.mono ?Z4c ?Z4d; (case Z4d => with_reducible assumption); (case Z4c => tb_start))); (case Z4b => (refine' dt_u ?Z45 ?Z46 ?Z47; (case Z45 | Z46 | Z47 => (focus ((repeat (with_reducible first | exact List.mem_cons_self | refine List.mem_cons_of_mem _ ?_ | refine List.mem_append_left _ ?_)); done))))))); (case Z3u => (refine' dues2 ?Z4e ?Z4f ?Z4g ?Z4h ?Z4i ?Z4j ?Z4k; (case Z4e | Z4f | Z4g => (focus ((repeat (with_reducible first | exact List.mem_cons_self | refine List.mem_cons_of_mem _ ?_ | refine List.mem_append_left _ ?_)); done))); (case Z4h => (refine' Dt.mono ?Z4c ?Z4d; (case Z4d => with_reducible assumption); (case Z4c => tb_start))); (case Z4i => (refine' dt_u' ?Z45 ?Z46 ?Z47; (case Z45 | Z46 | Z47 => (focus ((repeat (with_reducible first | exact List.mem_cons_self | refine List.mem_cons_of_mem _ ?_ | refine List.mem_append_left _ ?_)); done))))); (case Z4j => with_reducible assumption); (case Z4k => decide))); (case Z3n => (refine' tab2_dp (Nat.le_trans ?Z48 ?Z49) ?Z4l; (case Z48 => with_reducible assumption); (case Z49 | Z4l => decide))))); intro tl9 h9 tk9 x9 tx9 y9 ty9 ok9 F9 N9 ab9 hj9 ho9; (try simp only [List.nil_append, List.cons_append, List.append_nil] at N9); (try dsimp only); (try k_fold)))
  k_with "compareOp Eq ref ref" =>
   ((k_here; k_dflt (first
   | (refine' tab_eq1 ?Z4m ?Z4n ?Z4o ?Z4p ?Z4q ?Z4r ?Z4s ?Z4t ?_; (case Z4m => k_asm); (case Z4n | Z4o => (focus ((repeat (with_reducible first | exact List.mem_cons_self | refine List.mem_cons_of_mem _ ?_ | refine List.mem_append_left _ ?_)); done))); (case Z4p | Z4q | Z4r | Z4s => with_reducible assumption); (case Z4t => exact Nat.le_of_ble_eq_true rfl))
   | (refine' tab_eq2 ?Z4m ?Z4n ?Z4o ?Z4p ?Z4q ?Z4r ?Z4s ?Z4t ?_; (case Z4m => k_asm); (case Z4n | Z4o => (focus ((repeat (with_reducible first | exact List.mem_cons_self | refine List.mem_cons_of_mem _ ?_ | refine List.mem_append_left _ ?_)); done))); (case Z4p | Z4q | Z4r | Z4s => with_reducible assumption); (case Z4t => exact Nat.le_of_ble_eq_true rfl)))))
  k_with "call ref" =>
   ((k_here; (with_reducible show wpAny _ _ (call (Value.ref 234) _) _ _ _); (repeat (with_reducible rename _ ∧ _ => hc; (have hcl := hc.1); (have hcr := hc.2); clear hc)); k_dflt (refine' fin_use ?Z4u ?Z4v ?Z4w ?Z4x ?Z4y ?Z4z ?Z50 ?Z51 ?Z52 ?Z53 ?Z54 ?Z55 ?Z56 ?_; (case Z52 => k_asm); (case Z4v | Z4w => (focus ((repeat (with_reducible first | exact List.mem_cons_self | refine List.mem_cons_of_mem _ ?_ | refine List.mem_append_left _ ?_)); done))); (case Z4x => k_asm); (case Z4y => first | with_reducible assumption | k_extra "k_ltA" | fail "lt"); (case Z50 | Z4z | Z51 | Z53 => k_asm); (case Z54 => exact rfl); (case Z55 | Z56 => exact Nat.le_of_ble_eq_true rfl); (case Z4u => exact fun ok off o68 j68 => inner_ok ok off o68 j68)); intro ps9 h9 tk9 F9 N9; (try dsimp only); (try k_fold)))
  k_with "execs cons" =>
   (k_here; (try k_gentoks); (first | ((fail_if_success (fail_if_success k_fold)); (with_reducible refine' ec_let2 ?_); intro q0 e0 K0) | ((with_reducible refine' ec_let ?_); intro K0)); (all_goals (try ((with_reducible rename Fr _ _ _ (fun _ => ite _ _ _) => f9); refine fr_let f9 ?_; clear f9; intro m0 F0))); (try dsimp only))
  k_with "eval Constant str" =>
   (with_reducible refine' con_str ?_)
  k_with "eval Constant int" =>
   (with_reducible refine' con_int ?_)
  k_with "subscriptTail Name Constant ref int" =>
   (k_extra "subscriptTail")
  k_with "eval Name" =>
   (k_here; k_dflt (first
   | (refine' nameX_L ?zn1 ?zn2 ?_ ?zn3 ?zn4; (case zn3 | zn4 => rfl); (case zn1 => k_asm); (case zn2 => rfl); k_whole)
   | (refine' nameX_K ?zn1 ?zn2 ?zn3 ?zn4 ?_ ?zn5 ?zn6; (case zn5 | zn6 => rfl); (case zn1 | zn2 | zn3 => k_asm); (case zn4 => k_is); k_whole)
   | (refine' nameX_B ?zn1 ?zn2 ?zn3 ?zn4 ?zn5 ?zn6 ?_ ?zn7 ?zn8; (case zn7 | zn8 => rfl); (case zn1 | zn2 | zn3 => k_asm); (case zn4 => k_is); (case zn5 => boot_fast); (case zn6 => decide); k_whole)
   | fail))
  k_with "newTuple" =>
   (k_here; k_dflt (refine' tup_let ?z30 ?z4 ?z0 ?_; (case z30 | z4 => k_asm); (case z0 => kmk_size)); intro D' h' e' Y' F' N' l1; (try k_sweep))
  k_with "newList" =>
   (k_here; k_dflt (refine' lst_let ?z30 ?z4 ?z0 ?_; (case z30 | z4 => k_asm); (case z0 => kmk_size)); intro D' h' e' Y' F' N' l1; (try k_sweep))
  k_with "binaryOp Add ref ref" =>
   (k_here; (with_reducible show wpAny _ _ (binaryOp Operator.Add (Value.ref _) (Value.ref _)) _ _ _); k_dflt (refine' kde_addT ?z1 ?z27 ?z25 ?z2 ?z18 ?z23 ?z21 ?z24 ?_; (case z1 | z27 => k_asm); (case z25 | z2 => exact News.isTup (by k_asm) (by k_mem)); (case z18 | z23 => exact List.cons_ne_nil _ _); (case z21 => exact Nat.le_of_ble_eq_true rfl); (case z24 => kun_lit)); intro D' h' F' N' l1; (replace l1 := allLt_of l1); (try k_sweep))
  k_with "k_up" =>
   (first
   | with_reducible exact hp
   | ((with_reducible refine List.mem_cons_of_mem _ ?_); k_extra "k_up")
   | ((with_reducible refine List.mem_append_left _ ?_); k_extra "k_up")
   | ((with_reducible refine List.mem_append_right _ ?_); k_extra "k_up")
   | fail)
  k_with "w_tb_start" =>
   (first
   | exact sub_nil
   | (intro p hp; k_extra "k_up")
   | (refine' sub_trans ?z28 ?z13; (case z28 => with_reducible assumption); (case z13 => (intro p hp; k_extra "k_up")))
   | ((with_reducible refine sub_app ?_ ?_) <;> tb_start)
   | ((with_reducible refine sub_cons ?_ ?_); k_mem; tb_start)
   | fail)
  k_with "w_k_mem" =>
   (focus ((repeat (with_reducible first | exact List.mem_cons_self | refine List.mem_cons_of_mem _ ?_ | refine List.mem_append_left _ ?_)); done))
  k_with "w_kqd_sub" =>
   (with_reducible first
   | exact gdJ_nil
   | (refine' gdJ_app ?_ ?_ <;> kqd_sub)
   | (refine' gd_app ?_ ?_ <;> kqd_sub)
   | (refine' gdJ_new ?z32 ?z12 ?z22 ?z9; (case z12 | z22 => assumption); (case z32 | z9 => k_dflt tb_start))
   | (refine' gd_new ?z32 ?z12 ?z9; (case z12 => assumption); (case z32 | z9 => k_dflt tb_start))
   | (refine' gd_cons0 ?z15 ?z10; (case z15 => first | (refine' gd_had ?z31 ?z38; (case z38 => assumption); (case z31 => k_dflt k_mem)) | (refine' gd_one ?z31 ?z38 ?z37; (case z38 => assumption); (case z31 => k_dflt k_mem); (case z37 => k_dflt tb_start))); (case z10 => kqd_sub))
   | (refine' gdJ_old ?z32 ?z9; (case z9 | z32 => k_dflt tb_start))
   | (refine' gd_old ?z32 ?z9; (case z9 | z32 => k_dflt tb_start))
   | fail)
  k_with "w_tb_rel" =>
   (with_reducible first
   | exact DatP.none
   | exact DatP.bool _
   | exact DatP.int _ _
   | exact DatP.str _ _
   | exact DatPs.nil
   | (refine' DatPs.cons ?_ ?_ <;> first | ((with_reducible show DatP _ _ _); tb_rel) | ((with_reducible show DatPs _ _ _); tb_rel) | ((with_reducible show Dat); skip) | ((with_reducible show List Dat); skip))
   | (refine' datP_in ?z5 ?z37; (case z5 => assumption); (case z37 => k_dflt kqd_sub))
   | (refine' datP_gdJ ?z31 ?z34 ?z35; (case z31 => k_dflt k_mem); (case z34 => first | (refine' gdJ_had ?z31 ?z38; (case z38 => assumption); (case z31 => k_dflt k_mem)) | (refine' gdJ_one ?z31 ?z38 ?z37 ?z19; (case z38 => assumption); (case z31 => k_dflt k_mem); (case z37 => k_dflt tb_start); (case z19 => k_dflt (k_extra "k_ltA")))); (case z35 => tb_rel))
   | (refine' datP_gd ?z31 ?z34 ?z35; (case z31 => k_dflt k_mem); (case z34 => first | (refine' gd_had ?z31 ?z38; (case z38 => assumption); (case z31 => k_dflt k_mem)) | (refine' gd_one ?z31 ?z38 ?z37; (case z38 => assumption); (case z31 => k_dflt k_mem); (case z37 => k_dflt tb_start))); (case z35 => tb_rel))
   | fail)
  k_with "w_lcg_off" =>
   (with_reducible first
   | assumption
   | exact off3_nil
   | (refine' off3_app ?_ ?_ <;> lcg_off)
   | (refine' off3_any ?z40 ?z14 ?z3; (case z40 => assumption); (case z14 => k_dflt k_mem); (case z3 => lcg_off))
   | (refine' off3_cons ⟨?z42, ?z16, ?z17⟩ ?z3; (case z42 | z16 | z17 => k_dflt k_ne); (case z3 => lcg_off))
   | (refine' off3_above ?z40 ?z42 ?z16 ?z17; (case z40 => assumption); (case z42 | z16 | z17 => k_dflt k_mem))
   | (refine' off3_sub ?z40 ?z3; (case z40 => assumption); (case z3 => k_dflt tb_start))
   | fail)
  k_with "w_ktr_room" =>
   ((try simp only [depth_under_make, depth_under_kw, depth_in1, depth_deeper, depth_caller]); (try dsimp only [ktrTop]); with_reducible first
   | (refine' room2 ?z11 ?z20; (case z11 => assumption); (case z20 => k_dflt (first | exact Nat.le_of_ble_eq_true rfl | omega)))
   | (refine' room1 ?z11 ?z20; (case z11 => assumption); (case z20 => k_dflt (first | exact Nat.le_of_ble_eq_true rfl | omega)))
   | (refine' room0 ?z11; (case z11 => assumption))
   | fail)
  k_with "w_ktr_units" =>
   ((try simp only [units_in1, units_deeper, Around.mark_units, units_caller]); (try dsimp only [ktrTop]); with_reducible first
   | (refine' unit2 ?z11 ?z20; (case z11 => assumption); (case z20 => k_dflt (first | exact Nat.le_of_ble_eq_true rfl | omega)))
   | (refine' unit1 ?z11 ?z20; (case z11 => assumption); (case z20 => k_dflt (first | exact Nat.le_of_ble_eq_true rfl | omega)))
   | fail)
  k_with "k_ltA" =>
   (first
   | (refine' lt_all ?z6 ?z36; (case z6 => with_reducible assumption); (case z36 => k_mem))
   | (refine ltN ?_; omega))
  k_with "pack" =>
   skip
  trivial
theorem law_holds : PySem.Challenge.rw_xm0591_01.Holds := PySem.W.holds_law said (fun _ => hd (by
  k_go0
  all_goals (try k_fold)
  k_steps))
end Mine
theorem PySem.Challenge.cw_xm0591_01_holds : PySem.Challenge.rw_xm0591_01.Holds := by
  exact Mine.law_holds
