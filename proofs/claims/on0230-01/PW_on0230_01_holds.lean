import PyProof.Rows.All
import Wide.All
import OpenK.AllK
import Wide.FinOn
import PySem.Challenge.RW_on0230_01

/-! The claim on0230-01: a small Hoare logic of my own over the library's rules (lists of data, tuples, cells), a compiler of the text's defs into a small form, its soundness,
the verification of each def, the plain law, and the walk of law. -/

open PySem PySem.W PyProof.Rows
set_option Elab.async false
set_option linter.all false

section
namespace Mine
open PySem.Calls

noncomputable abbrev Led := List (Addr × Obj)
noncomputable abbrev Sto := List (Addr × List Dat)

inductive PV where
  | dat (d : Dat)
  | ref (a : Addr)
  | rng (a b : Int)
  | scr

noncomputable abbrev Loc := List (Str × PV)

noncomputable def Apart (x y : Led) : Prop := ∀ p ∈ x, ∀ q ∈ y, p.1 ≠ q.1

inductive Lists (tl : Led) : Led → Sto → Prop
  | nil : Lists tl [] []
  | cons {a : Addr} {vs : List Value} {n : Nat} {ds : List Dat} {hs : Led} {H : Sto} : DatAll tl vs ds → Lists tl hs H → Lists tl ((a, listOf vs.toArray n) :: hs) ((a, ds) :: H)

section
variable {tl tl' : Led} {hs : Led} {H : Sto}
theorem Lists.mono (hsub : ∀ p ∈ tl, p ∈ tl') (h : Lists tl hs H) : Lists tl' hs H := by
  induction h with
  | nil => exact .nil
  | cons hd _ ih => exact .cons (hd.mono hsub) ih
theorem Lists.keys (h : Lists tl hs H) : hs.map (·.1) = H.map (·.1) := by
  induction h with
  | nil => rfl
  | cons _ _ ih => rw [List.map_cons, List.map_cons, ih]
theorem Lists.mem (h : Lists tl hs H) {a : Addr} {ds : List Dat} (hm : (a, ds) ∈ H) : ∃ vs n, (a, listOf vs.toArray n) ∈ hs ∧ DatAll tl vs ds := by
  induction h with
  | nil => cases hm
  | cons hd _ ih =>
    rcases List.mem_cons.mp hm with e | hm
    · cases e; exact ⟨_, _, .head _, hd⟩
    · obtain ⟨vs, n, h1, h2⟩ := ih hm; exact ⟨vs, n, .tail _ h1, h2⟩
theorem Lists.split {pre post : Sto} {a : Addr} {ds : List Dat} (h : Lists tl hs (pre ++ (a, ds) :: post)) :
    ∃ h1 vs n h2, hs = h1 ++ (a, listOf vs.toArray n) :: h2 ∧ Lists tl h1 pre ∧ DatAll tl vs ds ∧ Lists tl h2 post := by
  induction pre generalizing hs with
  | nil =>
    cases h with
    | cons hd hr => exact ⟨[], _, _, _, rfl, .nil, hd, hr⟩
  | cons p pre ih =>
    cases h with
    | cons hd hr =>
      obtain ⟨h1, vs, n, h2, e, l1, d, l2⟩ := ih hr
      subst e
      exact ⟨_ :: h1, vs, n, h2, rfl, .cons hd l1, d, l2⟩
theorem Lists.append {hs2 : Led} {H2 : Sto} (h : Lists tl hs H) (h2 : Lists tl hs2 H2) : Lists tl (hs ++ hs2) (H ++ H2) := by
  induction h with
  | nil => exact h2
  | cons hd _ ih => exact .cons hd ih
theorem Lists.pick (h : Lists tl hs H) : ∀ (H' : Sto), (∀ p ∈ H', p ∈ H) → ∃ hs', Lists tl hs' H' ∧ ∀ q ∈ hs', q ∈ hs
  | [], _ => ⟨[], .nil, fun _ hq => nomatch hq⟩
  | (a, ds) :: r, hp => by
    obtain ⟨hs', l, m⟩ := Lists.pick h r fun p q => hp p (.tail _ q)
    obtain ⟨vs, n, h1, h2⟩ := h.mem (hp _ (.head _))
    refine ⟨(a, listOf vs.toArray n) :: hs', .cons h2 l, fun q hq => ?_⟩
    rcases List.mem_cons.mp hq with rfl | hq
    · exact h1
    · exact m q hq
end

structure St (h₀ : Heap) (env : Env) (h : Heap) (mL cm : Str → Option Value) (cl tl fz : Led) (H : Sto) (hs : Led) : Prop where
  fr : Fr h₀ env.locals h mL
  nw : News h₀ env.locals h (hs ++ (tl ++ (fz ++ cl)))
  ls : Lists tl hs H
  hd : (hs.map (·.1)).Nodup
  cd : (cl.map (·.1)).Nodup
  hr : Apart hs (tl ++ (fz ++ cl))
  tr : Apart tl (fz ++ cl)
  fc : Apart fz cl
  ca : ∀ x c, env.cells.lookup x = some c → ∃ o, (c, o) ∈ cl ∧ o.data = .cell (cm x)
  ci : ∀ x y c, env.cells.lookup x = some c → env.cells.lookup y = some c → x = y

theorem next_none {h₀ h : Heap} {L : Addr} {m : Str → Option Value} (F : Fr h₀ L h m) : h₀.get? h.objs.size = none := by
  cases hq : h₀.get? h.objs.size with
  | none => rfl
  | some o' => exact absurd (Heap.lt_size (F.keep _ _ hq)) (Nat.lt_irrefl _)

section
variable {h₀ h h' : Heap} {env : Env} {mL cm : Str → Option Value} {cl tl fz hs : Led} {H : Sto}

theorem St.lt (S : St h₀ env h mL cm cl tl fz H hs) {p : Addr × Obj} (hp : p ∈ hs ++ (tl ++ (fz ++ cl))) : p.1 < h.objs.size := Heap.lt_size (S.nw p hp).1

theorem St.keeps (S : St h₀ env h mL cm cl tl fz H hs) (hk : ∀ b o, h.get? b = some o → h'.get? b = some o) : St h₀ env h' mL cm cl tl fz H hs :=
  { S with fr := S.fr.keeps hk, nw := fun p hp => ⟨hk _ _ (S.nw p hp).1, (S.nw p hp).2⟩ }

theorem St.but (S : St h₀ env h mL cm cl tl fz H hs) {I : Addr} (hL : I ≠ env.locals) (h0 : h₀.get? I = none) (ha : ∀ p ∈ hs ++ (tl ++ (fz ++ cl)), p.1 ≠ I)
    (hk : ∀ b o, b ≠ I → h.get? b = some o → h'.get? b = some o) : St h₀ env h' mL cm cl tl fz H hs := by
  obtain ⟨oL, a1, a2, hoL, a3⟩ := S.fr.ns
  exact { S with
    fr := ⟨⟨oL, a1, a2, hk _ _ (Ne.symm hL) hoL, a3⟩, fun b o e => hk b o (fun q => by rw [q, h0] at e; cases e) (S.fr.keep b o e), S.fr.above⟩
    nw := fun p hp => ⟨hk _ _ (ha p hp) (S.nw p hp).1, (S.nw p hp).2⟩ }

theorem St.pushT (S : St h₀ env h mL cm cl tl fz H hs) (o : Obj) (hfree : o.isFreed = false) : St h₀ env (h.push o) mL cm cl ((h.objs.size, o) :: tl) fz H hs := by
  have N := News.push S.fr S.nw o hfree
  refine { S with fr := S.fr.push o, nw := fun p hp => ?_, ls := S.ls.mono fun p hp => .tail _ hp, hr := ?_, tr := ?_ }
  · refine N p ?_
    simp only [List.mem_append, List.mem_cons] at hp ⊢
    rcases hp with hp | (hp | hp) | hp | hp <;> simp [hp]
  · intro p hp q hq
    rcases List.mem_cons.mp hq with rfl | hq
    · exact Nat.ne_of_lt (S.lt (List.mem_append_left _ hp))
    · exact S.hr p hp q hq
  · intro p hp q hq
    rcases List.mem_cons.mp hp with rfl | hp
    · exact Ne.symm (Nat.ne_of_lt (S.lt (List.mem_append_right _ (List.mem_append_right _ hq))))
    · exact S.tr p hp q hq

theorem St.pushL (S : St h₀ env h mL cm cl tl fz H hs) {vs : List Value} {ds : List Dat} {n : Nat} (hd : DatAll tl vs ds) :
    St h₀ env (h.push (listOf vs.toArray n)) mL cm cl tl fz ((h.objs.size, ds) :: H) ((h.objs.size, listOf vs.toArray n) :: hs) := by
  have N := News.push S.fr S.nw (listOf vs.toArray n)
  refine { S with fr := S.fr.push _, nw := N, ls := .cons hd S.ls, hd := ?_, hr := ?_ }
  · rw [List.map_cons, List.nodup_cons]
    refine ⟨fun hm => ?_, S.hd⟩
    obtain ⟨p, hp, e⟩ := List.mem_map.mp hm
    exact absurd (S.lt (List.mem_append_left _ hp)) (by rw [e]; exact Nat.lt_irrefl _)
  · intro p hp q hq
    rcases List.mem_cons.mp hp with rfl | hp
    · exact Ne.symm (Nat.ne_of_lt (S.lt (List.mem_append_right _ hq)))
    · exact S.hr p hp q hq

/-- a tuple of the heap, given as a News entry list -/
theorem St.dropH (S : St h₀ env h mL cm cl tl fz H hs) {H' : Sto} (hsub : ∀ p ∈ H', p ∈ H) (hn : (H'.map (·.1)).Nodup) : ∃ hs', St h₀ env h mL cm cl tl fz H' hs' ∧ ∀ q ∈ hs', q ∈ hs := by
  obtain ⟨hs', l, m⟩ := S.ls.pick H' hsub
  refine ⟨hs', { S with nw := fun p hp => ?_, ls := l, hd := by rw [l.keys]; exact hn, hr := fun p hp => S.hr p (m p hp) }, m⟩
  rcases List.mem_append.mp hp with hp | hp
  · exact S.nw p (List.mem_append_left _ (m p hp))
  · exact S.nw p (List.mem_append_right _ hp)

theorem St.nodupH (S : St h₀ env h mL cm cl tl fz H hs) : (H.map (·.1)).Nodup := by rw [← S.ls.keys]; exact S.hd

theorem upd_mk {a : Addr} {o o' : Obj} : ∀ {h1 h2 : Led}, (∀ p ∈ h1, p.1 ≠ a) → (∀ p ∈ h2, p.1 ≠ a) → Upd a o o' (h1 ++ (a, o) :: h2) (h1 ++ (a, o') :: h2)
  | [], _, _, b => .head b
  | _ :: _, _, a', b => .tail (a' _ (.head _)) (upd_mk (fun p hp => a' p (.tail _ hp)) b)

theorem St.setL {pre post : Sto} {a : Addr} {ds : List Dat} (S : St h₀ env h mL cm cl tl fz (pre ++ (a, ds) :: post) hs) :
    ∃ h1 vs n h2, hs = h1 ++ (a, listOf vs.toArray n) :: h2 ∧ DatAll tl vs ds ∧ News h₀ env.locals h (h1 ++ (a, listOf vs.toArray n) :: (h2 ++ (tl ++ (fz ++ cl)))) ∧
      (∀ o', Upd a (listOf vs.toArray n) o' (h1 ++ (a, listOf vs.toArray n) :: (h2 ++ (tl ++ (fz ++ cl)))) (h1 ++ (a, o') :: (h2 ++ (tl ++ (fz ++ cl))))) ∧
      ∀ vs' n' ds' h', DatAll tl vs' ds' → Fr h₀ env.locals h' mL → News h₀ env.locals h' (h1 ++ (a, listOf vs'.toArray n') :: (h2 ++ (tl ++ (fz ++ cl)))) →
        St h₀ env h' mL cm cl tl fz (pre ++ (a, ds') :: post) (h1 ++ (a, listOf vs'.toArray n') :: h2) := by
  obtain ⟨h1, vs, n, h2, e, l1, d, l2⟩ := S.ls.split
  subst e
  have hd := S.hd
  rw [List.map_append, List.map_cons, List.nodup_append] at hd
  obtain ⟨d1, d2, d3⟩ := hd
  rw [List.nodup_cons] at d2
  have n1 : ∀ p ∈ h1, p.1 ≠ a := fun p hp q => d3 _ (List.mem_map_of_mem hp) _ (.head _) q
  have n2 : ∀ p ∈ h2, p.1 ≠ a := fun p hp q => d2.1 (List.mem_map.mpr ⟨p, hp, q⟩)
  have n3 : ∀ p ∈ h2 ++ (tl ++ (fz ++ cl)), p.1 ≠ a := fun p hp => by
    rcases List.mem_append.mp hp with hp | hp
    · exact n2 p hp
    · exact Ne.symm (S.hr (a, _) (List.mem_append_right _ (.head _)) p hp)
  refine ⟨h1, vs, n, h2, rfl, d, ?_, fun o' => upd_mk n1 n3, fun vs' n' ds' h' d' F N => ?_⟩
  · have := S.nw
    rw [List.append_assoc] at this
    exact this
  · refine { S with fr := F, nw := ?_, ls := l1.append (.cons d' l2), hd := ?_, hr := ?_ }
    · rw [List.append_assoc]; exact N
    · have := S.hd
      rw [List.map_append, List.map_cons] at this ⊢
      exact this
    · intro p hp q hq
      rcases List.mem_append.mp hp with hp | hp
      · exact S.hr p (List.mem_append_left _ hp) q hq
      · rcases List.mem_cons.mp hp with rfl | hp
        · exact S.hr (a, listOf vs.toArray n) (List.mem_append_right _ (.head _)) q hq
        · exact S.hr p (List.mem_append_right _ (.tail _ hp)) q hq
end
end Mine
end

section
namespace Mine
open PySem.Calls

structure Fx where
  A : Around
  env : Env
  h₀ : Heap
  mL : Str → Option Value
  cm : Str → Option Value
  cl : Led
  fz : Led

noncomputable abbrev Fx.St (f : Fx) (h : Heap) (tl : Led) (H : Sto) (hs : Led) : Prop := Mine.St f.h₀ f.env h f.mL f.cm f.cl tl f.fz H hs
noncomputable def Fx.comb (f : Fx) (x : Str) : Option Value := match f.env.cells.lookup x with
  | some _ => f.cm x
  | none => f.mL x

/-- the constants of the whole proof -/
structure Gl where
  P : Program
  PT : Program
  w : World
  K : Frag
  loose : List Str
  mean : ExcName → Option Value
  mg : Str → Option Value
  mb : Str → Option Value
  scrA : Addr
  scrV : List Value
  scrN : List Int

noncomputable abbrev Gl.M (g : Gl) : Model := model g.P g.w

noncomputable def Rep (g : Gl) (tl : Led) (v : Value) : PV → Prop
  | .dat d => DatIn tl v d
  | .ref a => v = .ref a
  | .rng a b => ∃ r t u w, v = .ref r ∧ (r, ({ cls := .type "range", data := .fields #[.int a t, .int b u, .int 1 w] } : Obj)) ∈ tl
  | .scr => v = .ref g.scrA
theorem Rep.mono {g : Gl} {tl tl' : Led} {v : Value} {p : PV} (h : Rep g tl v p) (hs : ∀ q ∈ tl, q ∈ tl') : Rep g tl' v p := by
  cases p with
  | dat d => exact DatIn.mono hs h
  | ref a => exact h
  | rng a b => obtain ⟨r, t, u, w, e, m⟩ := h; exact ⟨r, t, u, w, e, hs _ m⟩
  | scr => exact h

inductive RepA (g : Gl) (tl : Led) : List Value → List PV → Prop
  | nil : RepA g tl [] []
  | cons {v : Value} {p : PV} {vs : List Value} {ps : List PV} : Rep g tl v p → RepA g tl vs ps → RepA g tl (v :: vs) (p :: ps)
theorem RepA.mono {g : Gl} {tl tl' : Led} {vs : List Value} {ps : List PV} (h : RepA g tl vs ps) (hs : ∀ q ∈ tl, q ∈ tl') : RepA g tl' vs ps := by
  induction h with
  | nil => exact .nil
  | cons h _ ih => exact .cons (h.mono hs) ih
theorem RepA.dats {g : Gl} {tl : Led} {vs : List Value} {ps : List PV} (h : RepA g tl vs ps) : ∀ {ds : List Dat}, ps = ds.map PV.dat → DatAll tl vs ds := by
  induction h with
  | nil =>
    intro ds e
    cases ds with
    | nil => exact .nil
    | cons d ds => cases e
  | cons h _ ih =>
    intro ds e
    cases ds with
    | nil => cases e
    | cons d ds =>
      rw [List.map_cons] at e
      obtain ⟨e1, e2⟩ := List.cons.inj e
      subst e1
      exact .cons h (ih e2)

noncomputable def LocRep (g : Gl) (tl : Led) (σ : Loc) (m : Str → Option Value) : Prop := ∀ x p, σ.lookup x = some p → ∃ v, m x = some v ∧ Rep g tl v p
theorem LocRep.mono {g : Gl} {tl tl' : Led} {σ : Loc} {m : Str → Option Value} (h : LocRep g tl σ m) (hs : ∀ q ∈ tl, q ∈ tl') : LocRep g tl' σ m :=
  fun x p e => let ⟨v, a, b⟩ := h x p e; ⟨v, a, b.mono hs⟩

structure Cx (g : Gl) (b : Bool) (d : Nat) (A : Around) (env : Env) (h₀ : Heap) : Prop where
  X : g.K.In h₀
  T : Top g.PT g.loose g.mean g.mg g.mb h₀
  hh : A.handled = none
  hd : A.depth + d ≤ 850
  hu : A.units + 4 * d ≤ 9000
  hk : env.scope.kind = .function
  hg : env.globals = mainGlobals
  hb : env.builtins = builtinsNs
  seer : SeerAt g.M A h₀ ∨ True
  scr : h₀.IsList g.scrA g.scrV.toArray
  scI : IntsAre g.scrV g.scrN
  scL : g.scrN.length ≤ 63
  fr : ∃ fenv outer, A.frames = some (fenv :: outer) ∧ fenv.scope.isGenerator = false ∧ fenv.scope.isCoroutine = false ∧ fenv.builtins = builtinsNs ∧ fenv.globals = mainGlobals
  cal : b = true → env.frame = some env.locals ∧ ∃ A₀ base outer, Below A₀ base outer h₀ ∧ A.frames = some (env :: outer)
  tree : g.P.given.tree = none
  noImp : importsNone g.PT = true
  kl : ∀ x, env.kindOf x = some .local → env.cells.lookup x = none
  kc : ∀ x, env.kindOf x = some .cell → (env.cells.lookup x).isSome = true

noncomputable def Tr {α β : Type} (g : Gl) (f : Fx) (rep : Led → α → β → Prop) (t : Sem α) (tl : Led) (H : Sto) (R : β → Sto → Prop) : Prop :=
  ∀ (s : Shared) (hs : Led) (Q : α → Shared → Prop), f.St s.heap tl H hs →
    (∀ y H' a h' tk tl' hs', R y H' → (∀ q ∈ tl, q ∈ tl') → f.St h' tl' H' hs' → rep tl' a y → Q a { s with heap := h', toks := tk }) →
    wpAny g.M f.A t Q (fun _ _ => False) s

noncomputable def RepB (_ : Led) (b c : Bool) : Prop := b = c

section
variable {g : Gl} {f : Fx} {tl : Led} {H : Sto} {R : PV → Sto → Prop} {d : Nat} {b : Bool}

theorem tr_binop {l r : PySem.Expr} {op : Operator} {pos : Pos} {R1 : PV → Sto → Prop} {R2 : PV → PV → Sto → Prop}
    (hl : Tr g f (Rep g) (eval l f.env) tl H R1)
    (hr : ∀ p H1 tl1, R1 p H1 → (∀ q ∈ tl, q ∈ tl1) → Tr g f (Rep g) (eval r f.env) tl1 H1 (R2 p))
    (ho : ∀ p q H2 tl2 a b, (∀ q ∈ tl, q ∈ tl2) → Rep g tl2 a p → Rep g tl2 b q → R2 p q H2 → Tr g f (Rep g) (binaryOp op a b) tl2 H2 R) :
    Tr g f (Rep g) (eval (.BinOp l op r pos) f.env) tl H R := fun s hs Q S k => by
  refine wpAny_BinOp (hl s hs _ S fun p H1 a h1 tk1 tl1 hs1 r1 m1 S1 ra => ?_)
  refine hr p H1 tl1 r1 m1 _ hs1 _ S1 fun q H2 b h2 tk2 tl2 hs2 r2 m2 S2 rb => ?_
  refine ho p q H2 tl2 a b (fun z hz => m2 _ (m1 _ hz)) (ra.mono m2) rb r2 _ hs2 _ S2 fun y H' v h' tk tl' hs' ry m' S' rv => ?_
  exact k y H' v h' tk tl' hs' ry (fun z hz => m' _ (m2 _ (m1 _ hz))) S' rv

theorem tr_ret {t : Sem Value} {p : PV} (hR : R p H) (h : ∀ (s : Shared) (Q : Value → Shared → Prop), (∀ v tk, Rep g tl v p → Q v { s with toks := tk }) → wpAny g.M f.A t Q (fun _ _ => False) s) : Tr g f (Rep g) t tl H R := fun s hs Q S k =>
  h s Q fun v tk rv => k p H v s.heap tk tl hs hR (fun _ q => q) S rv
theorem tr_retB {t : Sem Bool} {R : Bool → Sto → Prop} {p : Bool} (hR : R p H) (h : ∀ (s : Shared) (Q : Bool → Shared → Prop), Q p s → wpAny g.M f.A t Q (fun _ _ => False) s) : Tr g f RepB t tl H R := fun s hs Q S k =>
  h s Q (k p H p s.heap s.toks tl hs hR (fun _ q => q) S rfl)

theorem tr_add {i j : Int} {t u : Tok} (h : R (.dat (.int (i + j))) H) : Tr g f (Rep g) (binaryOp .Add (.int i t) (.int j u)) tl H R := tr_ret h fun s Q q => PyProof.Rows.add_int (q _ _ (.int _ _))
theorem tr_sub {i j : Int} {t u : Tok} (h : R (.dat (.int (i - j))) H) : Tr g f (Rep g) (binaryOp .Sub (.int i t) (.int j u)) tl H R := tr_ret h fun s Q q => PyProof.Rows.sub_int (q _ _ (.int _ _))
theorem mulOk {i j : Int} (hm : i.natAbs < 2 ^ 64 ∨ j.natAbs < 2 ^ 64) : IntMulOk i j := by
  rcases hm with hm | hm
  · exact IntMulOk.of_left (intBits_le hm)
  · exact IntMulOk.of_right (intBits_le hm)
theorem tr_mul {i j : Int} {t u : Tok} (hm : i.natAbs < 2 ^ 64 ∨ j.natAbs < 2 ^ 64) (h : R (.dat (.int (i * j))) H) : Tr g f (Rep g) (binaryOp .Mult (.int i t) (.int j u)) tl H R := tr_ret h fun s Q q => PyProof.Rows.mul_int (q _ _ (.int _ _)) (mulOk hm)
theorem tr_mod {i j : Int} {t u : Tok} (hj : 0 < j) (h : R (.dat (.int (i % j))) H) : Tr g f (Rep g) (binaryOp .Mod (.int i t) (.int j u)) tl H R := tr_ret h fun s Q q =>
  PyProof.Rows.mod_int (by omega) (by rw [Int.fmod_eq_emod_of_nonneg _ (by omega)]; exact q _ _ (.int _ _))
theorem tr_pow {i j : Int} {t u : Tok} (h0 : 0 ≤ j) (h1 : j ≤ 1000000) (hi : i.natAbs < 2 ^ 64) (h : R (.dat (.int (i ^ j.toNat))) H) : Tr g f (Rep g) (binaryOp .Pow (.int i t) (.int j u)) tl H R := tr_ret h fun s Q q =>
  pow_int_small h0 h1 hi (q _ _ (.int _ _))
theorem tr_neg {i : Int} {t : Tok} (h : R (.dat (.int (-i))) H) : Tr g f (Rep g) (unaryOp .USub (.int i t)) tl H R := tr_ret h fun s Q q => PyProof.Rows.neg_int (q _ _ (.int _ _))

theorem tr_floordiv (C : Cx g b d f.A f.env f.h₀) {i j : Int} {t u : Tok} (hj : 0 < j) (h : R (.dat (.int (i / j))) H) : Tr g f (Rep g) (binaryOp .FloorDiv (.int i t) (.int j u)) tl H R := fun s hs Q S k => by
  have hk : ∀ b o, f.h₀.get? b = some o → s.heap.get? b = some o := S.fr.keep
  obtain ⟨fenv, outer, f1, f2, f3, f4, f5⟩ := C.fr
  have room : PylongRoom g.M f.A s := by
    refine PylongRoom.of (C.T.nolimit.keeps hk) ?_ (SeerAt.of ((C.T.seer C.noImp).keeps hk) C.tree f1 f2 f3 f4 f5)
    have := C.hd
    show f.A.depth + 100 < 1000
    omega
  refine PyProof.Rows.floordiv_int (by omega) ?_ (.inr room)
  rw [Int.fdiv_eq_ediv_of_nonneg _ (by omega)]
  exact k _ H _ s.heap _ tl hs h (fun _ q => q) S (.int _ _)

/-- int and text comparisons, by a Bool result -/
theorem tr_lt {R : PV → Sto → Prop} {i j : Int} {t u : Tok} (h : R (.dat (.bool (decide (i < j)))) H) : Tr g f (Rep g) (compareOp .Lt (.int i t) (.int j u)) tl H R := tr_ret h fun s Q q => PyProof.Rows.lt_int (q _ s.toks (.bool _))
theorem tr_gt {i j : Int} {t u : Tok} (h : R (.dat (.bool (decide (j < i)))) H) : Tr g f (Rep g) (compareOp .Gt (.int i t) (.int j u)) tl H R := tr_ret h fun s Q q => PyProof.Rows.gt_int (q _ s.toks (.bool _))
theorem tr_le {i j : Int} {t u : Tok} (h : R (.dat (.bool (decide (i ≤ j)))) H) : Tr g f (Rep g) (compareOp .LtE (.int i t) (.int j u)) tl H R := tr_ret h fun s Q q => PyProof.Rows.le_int (q _ s.toks (.bool _))
theorem tr_ge {i j : Int} {t u : Tok} (h : R (.dat (.bool (decide (j ≤ i)))) H) : Tr g f (Rep g) (compareOp .GtE (.int i t) (.int j u)) tl H R := tr_ret h fun s Q q => PyProof.Rows.ge_int (q _ s.toks (.bool _))
theorem tr_eqI {i j : Int} {t u : Tok} (h : R (.dat (.bool (i == j))) H) : Tr g f (Rep g) (compareOp .Eq (.int i t) (.int j u)) tl H R := tr_ret h fun s Q q => PyProof.Rows.eq_int (q _ s.toks (.bool _))
theorem tr_neI {i j : Int} {t u : Tok} (h : R (.dat (.bool (i != j))) H) : Tr g f (Rep g) (compareOp .NotEq (.int i t) (.int j u)) tl H R := tr_ret h fun s Q q => PyProof.Rows.ne_int (q _ s.toks (.bool _))
theorem tr_eqS {i j : Str} {t u : Tok} (h : R (.dat (.bool (i == j))) H) : Tr g f (Rep g) (compareOp .Eq (.str i t) (.str j u)) tl H R := tr_ret h fun s Q q => PyProof.Rows.eq_str (q _ s.toks (.bool _))
theorem tr_neS {i j : Str} {t u : Tok} (h : R (.dat (.bool (i != j))) H) : Tr g f (Rep g) (compareOp .NotEq (.str i t) (.str j u)) tl H R := tr_ret h fun s Q q => PyProof.Rows.ne_str (q _ s.toks (.bool _))
end
end Mine
end

section
namespace Mine
open PySem.Calls

section
variable {g : Gl} {f : Fx} {tl : Led} {H : Sto} {R : PV → Sto → Prop} {d : Nat} {b : Bool}

theorem Cx.units (C : Cx g b d f.A f.env f.h₀) : f.A.units + 64 < cLine := by
  have := C.hu
  show f.A.units + 64 < 9900
  omega

theorem St.newsT {h₀ h : Heap} {env : Env} {mL cm : Str → Option Value} {cl tl fz hs : Led} {H : Sto} (S : Mine.St h₀ env h mL cm cl tl fz H hs) : News h₀ env.locals h tl :=
  fun p hp => S.nw p (List.mem_append_right _ (List.mem_append_left _ hp))

theorem eqvD {d e : Dat} (hd : kqdOk 9 d = true) (he : kqdOk 9 e = true) : ∃ c, PyData.eqv (kqdP d) (kqdP e) = c ∧ (c = true ↔ d = e) := ⟨_, rfl, kqd_eqv 9 d e 9 hd he⟩
theorem shapedD {d : Dat} (hd : kqdOk 9 d = true) : SeqAt.shaped (kqdP d) = true := by
  have l := kqd_lay 9 d hd
  unfold SeqAt.shaped
  rw [l.1, Bool.true_and]
  exact decide_eq_true (Nat.le_trans l.2 (by decide))

theorem tr_eqD (C : Cx g b d f.A f.env f.h₀) {x y : Value} {u v : Dat} (hu : kqdOk 9 u = true) (hv : kqdOk 9 v = true) (rx : DatIn tl x u) (ry : DatIn tl y v)
    (h : ∀ c, (c = true ↔ u = v) → R (.dat (.bool c)) H) : Tr g f (Rep g) (compareOp .Eq x y) tl H R := fun s hs Q S k => by
  obtain ⟨as, ra⟩ := kqd_in S.newsT 9 rx hu
  obtain ⟨bs, rb⟩ := kqd_in S.newsT 9 ry hv
  obtain ⟨c, e, hc⟩ := eqvD hu hv
  refine PyProof.Rows.eq_dataH ra rb (shapedD hu) (shapedD hv) C.units ?_
  rw [e]
  exact k _ H _ s.heap s.toks tl hs (h c hc) (fun _ q => q) S (.bool c)
theorem tr_neD (C : Cx g b d f.A f.env f.h₀) {x y : Value} {u v : Dat} (hu : kqdOk 9 u = true) (hv : kqdOk 9 v = true) (rx : DatIn tl x u) (ry : DatIn tl y v)
    (h : ∀ c, (c = true ↔ u ≠ v) → R (.dat (.bool c)) H) : Tr g f (Rep g) (compareOp .NotEq x y) tl H R := fun s hs Q S k => by
  obtain ⟨as, ra⟩ := kqd_in S.newsT 9 rx hu
  obtain ⟨bs, rb⟩ := kqd_in S.newsT 9 ry hv
  obtain ⟨c, e, hc⟩ := eqvD hu hv
  refine PyProof.Rows.ne_dataH ra rb (shapedD hu) (shapedD hv) C.units ?_
  rw [e]
  refine k _ H _ s.heap s.toks tl hs (h (!c) ?_) (fun _ q => q) S (.bool (!c))
  rw [ne_eq, ← hc]
  cases c <;> simp

theorem St.isList {h₀ h : Heap} {env : Env} {mL cm : Str → Option Value} {cl tl fz hs : Led} {H : Sto} (S : Mine.St h₀ env h mL cm cl tl fz H hs) {a : Addr} {ds : List Dat} (hm : (a, ds) ∈ H) :
    ∃ vs n, (a, listOf vs.toArray n) ∈ hs ++ (tl ++ (fz ++ cl)) ∧ DatAll tl vs ds ∧ h.IsList a vs.toArray := by
  obtain ⟨vs, n, m, d⟩ := S.ls.mem hm
  have m' := List.mem_append_left (tl ++ (fz ++ cl)) m
  exact ⟨vs, n, m', d, _, (S.nw _ m').1, rfl, n, rfl⟩

theorem tl_in {hs tl fz cl : Led} : ∀ p ∈ tl, p ∈ hs ++ (tl ++ (fz ++ cl)) := fun p hp => List.mem_append_right _ (List.mem_append_left _ hp)

theorem tr_eqL (C : Cx g b d f.A f.env f.h₀) {x y : Addr} {us vs : List Dat} (hx : (x, us) ∈ H) (hy : (y, vs) ∈ H) (hu : ∀ d ∈ us, kqdOk 8 d = true) (hv : ∀ d ∈ vs, kqdOk 8 d = true)
    (h : ∀ c, (c = true ↔ us = vs) → R (.dat (.bool c)) H) : Tr g f (Rep g) (compareOp .Eq (.ref x) (.ref y)) tl H R := fun s hs Q S k => by
  obtain ⟨xs, n, m1, d1, _⟩ := S.isList hx
  obtain ⟨ys, n', m2, d2, _⟩ := S.isList hy
  refine kqd_eq S.nw m1 rfl rfl d1 tl_in m2 rfl rfl d2 tl_in hu hv C.units ?_
  exact k _ H _ s.heap s.toks tl hs (h _ (by simp)) (fun _ q => q) S (.bool _)
theorem tr_neL (C : Cx g b d f.A f.env f.h₀) {x y : Addr} {us vs : List Dat} (hx : (x, us) ∈ H) (hy : (y, vs) ∈ H) (hu : ∀ d ∈ us, kqdOk 8 d = true) (hv : ∀ d ∈ vs, kqdOk 8 d = true)
    (h : ∀ c, (c = true ↔ us ≠ vs) → R (.dat (.bool c)) H) : Tr g f (Rep g) (compareOp .NotEq (.ref x) (.ref y)) tl H R := fun s hs Q S k => by
  obtain ⟨xs, n, m1, d1, _⟩ := S.isList hx
  obtain ⟨ys, n', m2, d2, _⟩ := S.isList hy
  refine kqd_ne S.nw m1 rfl rfl d1 tl_in m2 rfl rfl d2 tl_in hu hv C.units ?_
  exact k _ H _ s.heap s.toks tl hs (h _ (by simp)) (fun _ q => q) S (.bool _)
theorem tr_notIn (C : Cx g b d f.A f.env f.h₀) {x : Value} {y : Addr} {u : Dat} {vs : List Dat} (rx : DatIn tl x u) (hy : (y, vs) ∈ H) (hu : kqdOk 8 u = true) (hv : ∀ d ∈ vs, kqdOk 8 d = true)
    (h : ∀ c, (c = true ↔ u ∉ vs) → R (.dat (.bool c)) H) : Tr g f (Rep g) (compareOp .NotIn x (.ref y)) tl H R := fun s hs Q S k => by
  obtain ⟨ys, n', m2, d2, _⟩ := S.isList hy
  refine kqd_notIn S.nw m2 rfl rfl d2 tl_in rx tl_in hv hu C.units ?_
  exact k _ H _ s.heap s.toks tl hs (h _ (by simp)) (fun _ q => q) S (.bool _)

/-! displays -/
noncomputable def notStar : PySem.Expr → Bool
  | .Starred .. => false
  | _ => true
theorem starEach_cons {e : PySem.Expr} {rest : List PySem.Expr} {env : Env} (h : notStar e = true) : starEach (e :: rest) env = (false, eval e env) :: starEach rest env := by
  cases e <;> first | (cases h; done) | rfl

theorem tr_items_nil {pos : Pos} {R : List PV → Sto → Prop} (h : R [] H) : Tr g f (RepA g) (spliced (backTo pos (starEach [] f.env))) tl H R := fun s hs Q S k =>
  wpAny_items_nil (k [] H [] s.heap s.toks tl hs h (fun _ q => q) S .nil)
theorem tr_items_cons {pos : Pos} {e : PySem.Expr} {rest : List PySem.Expr} {R : List PV → Sto → Prop} {R1 : PV → Sto → Prop} {R2 : PV → List PV → Sto → Prop} (hn : notStar e = true)
    (he : Tr g f (Rep g) (eval e f.env) tl H R1)
    (hr : ∀ p H1 tl1, R1 p H1 → (∀ q ∈ tl, q ∈ tl1) → Tr g f (RepA g) (spliced (backTo pos (starEach rest f.env))) tl1 H1 (R2 p))
    (ho : ∀ p ps H2, R2 p ps H2 → R (p :: ps) H2) :
    Tr g f (RepA g) (spliced (backTo pos (starEach (e :: rest) f.env))) tl H R := fun s hs Q S k => by
  refine wpAny_items_cons (he s hs _ S fun p H1 a h1 tk1 tl1 hs1 r1 m1 S1 ra => ?_) (starEach_cons hn)
  refine hr p H1 tl1 r1 m1 _ hs1 _ S1 fun ps H2 vs h2 tk2 tl2 hs2 r2 m2 S2 rb => ?_
  exact k _ H2 _ h2 tk2 tl2 hs2 (ho p ps H2 r2) (fun z hz => m2 _ (m1 _ hz)) S2 (.cons (ra.mono m2) rb)

theorem tr_Tuple {es : List PySem.Expr} {kk : Nat} {pos : Pos} {R1 : List PV → Sto → Prop} (hi : Tr g f (RepA g) (spliced (backTo pos (starEach es f.env))) tl H R1)
    (ho : ∀ ps H1, R1 ps H1 → ∃ ds : List Dat, ps = ds.map PV.dat ∧ ds.length ≤ 1000 ∧ R (.dat (.tuple ds)) H1) : Tr g f (Rep g) (eval (.Tuple es kk pos) f.env) tl H R := fun s hs Q S k => by
  refine wpAny_Tuple (hi s hs _ S fun ps H1 vs h1 tk1 tl1 hs1 r1 m1 S1 ra => ?_)
  obtain ⟨ds, e, hl, r⟩ := ho ps H1 r1
  have da := ra.dats e
  refine ⟨by rw [da.length, sizeLine_eq]; omega, ?_⟩
  have S2 := St.pushT S1 ({ cls := .type "tuple", data := .seq vs.toArray } : Obj) rfl
  exact k _ H1 _ _ tk1 _ hs1 r (fun z hz => .tail _ (m1 _ hz)) S2 (.tuple (.head _) (da.mono fun _ hz => .tail _ hz))
theorem tr_List {es : List PySem.Expr} {pos : Pos} {R1 : List PV → Sto → Prop} (hi : Tr g f (RepA g) (spliced (backTo pos (starEach es f.env))) tl H R1)
    (ho : ∀ ps H1, R1 ps H1 → ∃ ds : List Dat, ps = ds.map PV.dat ∧ ds.length ≤ 1000 ∧ ∀ a, R (.ref a) ((a, ds) :: H1)) : Tr g f (Rep g) (eval (.List es pos) f.env) tl H R := fun s hs Q S k => by
  refine wpAny_List (hi s hs _ S fun ps H1 vs h1 tk1 tl1 hs1 r1 m1 S1 ra => ?_)
  obtain ⟨ds, e, hl, r⟩ := ho ps H1 r1
  have da := ra.dats e
  refine ⟨by rw [da.length, sizeLine_eq]; omega, ?_⟩
  have S2 := St.pushL (n := 0) S1 da
  exact k _ _ _ _ tk1 tl1 _ (r _) m1 S2 rfl

/-! items -/
noncomputable def idx (k : Int) (ds : List Dat) : Option Dat := match seqIndex? k ds.length with
  | some j => ds[j]?
  | none => none
theorem DatAll.idx {vs : List Value} {ds : List Dat} (h : DatAll tl vs ds) {k : Int} {e : Dat} (hi : idx k ds = some e) :
    ∃ j v, seqIndex? k vs.length = some j ∧ vs[j]? = some v ∧ DatIn tl v e := by
  unfold Mine.idx at hi
  cases hj : seqIndex? k ds.length with
  | none => rw [hj] at hi; cases hi
  | some j =>
    rw [hj] at hi
    obtain ⟨hlt, hg⟩ := List.getElem?_eq_some_iff.mp hi
    obtain ⟨v, hv, hd⟩ := h.get hlt
    rw [hg] at hd
    exact ⟨j, v, by rw [h.length]; exact hj, hv, hd⟩

noncomputable def plainIdx : PySem.Expr → Bool
  | .Constant .. | .Name .. | .BinOp .. | .UnaryOp .. | .Call .. => true
  | _ => false
theorem subscripted_plain {sl : PySem.Expr} {o i : Value} (h : plainIdx sl = true) : subscripted sl false o i = operate [o, i] (getItem o i) := by
  cases sl <;> first | (cases h; done) | rfl

theorem datIn_tuple {v : Value} {ds : List Dat} (h : DatIn tl v (.tuple ds)) : ∃ a vs n, v = .ref a ∧ (a, ({ cls := .type "tuple", data := .seq vs.toArray n } : Obj)) ∈ tl ∧ DatAll tl vs ds := by
  cases h with
  | tuple hm r => exact ⟨_, _, _, rfl, hm, r⟩
theorem datIn_int {v : Value} {i : Int} (h : DatIn tl v (.int i)) : ∃ t, v = .int i t := by
  cases h with
  | int _ t => exact ⟨t, rfl⟩
theorem datIn_str {v : Value} {i : Str} (h : DatIn tl v (.str i)) : ∃ t, v = .str i t := by
  cases h with
  | str _ t => exact ⟨t, rfl⟩
theorem datIn_bool {v : Value} {i : Bool} (h : DatIn tl v (.bool i)) : v = .bool i := by
  cases h with
  | bool _ => rfl

theorem tr_itemT {x : Str} {px : Pos} {sl : PySem.Expr} {o : Value} {ds : List Dat} {k : Int} {u : Tok} {e : Dat} (hp : plainIdx sl = true) (hlo : -(2 ^ 63) ≤ k) (hhi : k < 2 ^ 63) (ro : DatIn tl o (.tuple ds)) (hi : idx k ds = some e) (h : R (.dat e) H) :
    Tr g f (Rep g) (subscriptTail (.Name x px) sl o (.int k u)) tl H R := fun s hs Q S kk => by
  obtain ⟨a, vs, n, rfl, hm, da⟩ := datIn_tuple ro
  obtain ⟨j, v, h1, h2, h3⟩ := DatAll.idx da hi
  refine item_tupleL (l := vs) ⟨_, (S.newsT _ hm).1, rfl, n, rfl⟩ hlo hhi h1 h2 ?_ (subscripted_plain hp) (fun _ => rfl)
  exact kk _ H v s.heap s.toks tl hs h (fun _ q => q) S h3

theorem tr_itemL {x : Str} {px : Pos} {sl : PySem.Expr} {a : Addr} {ds : List Dat} {k : Int} {u : Tok} {e : Dat} (hp : plainIdx sl = true) (hlo : -(2 ^ 63) ≤ k) (hhi : k < 2 ^ 63) (ro : (a, ds) ∈ H) (hi : idx k ds = some e) (h : R (.dat e) H) :
    Tr g f (Rep g) (subscriptTail (.Name x px) sl (.ref a) (.int k u)) tl H R := fun s hs Q S kk => by
  obtain ⟨vs, n, m1, da, il⟩ := S.isList ro
  obtain ⟨j, v, h1, h2, h3⟩ := DatAll.idx da hi
  have fin := kk _ H v s.heap s.toks tl hs h (fun _ q => q) S h3
  by_cases h0 : k < 0
  · exact kde_neg il h0 hlo h1 h2 fin (subscripted_plain hp)
  · have hj : k.toNat = j := by
      unfold seqIndex? at h1
      rw [if_neg h0] at h1
      dsimp only at h1
      split at h1
      · exact Option.some.inj h1
      · cases h1
    refine PyProof.Rows.tail_any il.typeIs PySem.slot_list_getitem.lookup (wpAny_getItem_list il (by omega) hhi ?_ fin) (subscripted_plain hp)
    rw [hj, List.getElem?_toArray]; exact h2

theorem intsAre_get {vs : List Value} {ns : List Int} (h : IntsAre vs ns) {j : Nat} {n : Int} (e : ns[j]? = some n) : ∃ t, vs[j]? = some (.int n t) := by
  induction h generalizing j with
  | nil => cases e
  | cons k t r ih =>
    cases j with
    | zero => exact ⟨t, by simpa using e⟩
    | succ j => exact ih (by simpa using e)

theorem tr_itemS (C : Cx g b d f.A f.env f.h₀) {x : Str} {px : Pos} {sl : PySem.Expr} {k : Int} {u : Tok} {n : Int} (hp : plainIdx sl = true) (h0 : 0 ≤ k) (hhi : k < 2 ^ 63) (hi : g.scrN[k.toNat]? = some n) (h : R (.dat (.int n)) H) :
    Tr g f (Rep g) (subscriptTail (.Name x px) sl (.ref g.scrA) (.int k u)) tl H R := fun s hs Q S kk => by
  obtain ⟨t, hv⟩ := intsAre_get C.scI hi
  obtain ⟨o, ho, hc, nn, hd⟩ := C.scr
  have il : s.heap.IsList g.scrA g.scrV.toArray := ⟨o, S.fr.keep _ _ ho, hc, nn, hd⟩
  refine PyProof.Rows.tail_any il.typeIs PySem.slot_list_getitem.lookup (wpAny_getItem_list il h0 hhi ?_ (kk _ H _ s.heap s.toks tl hs h (fun _ q => q) S (.int n t))) (subscripted_plain hp)
  rw [List.getElem?_toArray]; exact hv

/-- x[::-1] of a list -/
theorem tr_rev {x : Str} {px : Pos} {o : Addr} {ds : List Dat} {pos p1 p2 p3 : Pos} {kk : Nat} {R1 : PV → Sto → Prop}
    (hv : Tr g f (Rep g) (eval (.Name x px) f.env) tl H R1)
    (ho : ∀ p H1, R1 p H1 → ∃ a ds, p = .ref a ∧ (a, ds) ∈ H1 ∧ ds.length ≤ 1000 ∧ ∀ c, R (.ref c) ((c, ds.reverse) :: H1)) :
    Tr g f (Rep g) (eval (.Subscript (.Name x px) (.Slice none none (some (.UnaryOp .USub (.Constant (.int 1) kk p1) p2)) p3) pos) f.env) tl H R := fun s hs Q S k => by
  refine Subscript_ (hv s hs _ S fun p H1 v h1 tk1 tl1 hs1 r1 m1 S1 rv => ?_)
  obtain ⟨a, ds, rfl, hm, hl, r⟩ := ho p H1 r1
  cases rv
  refine wpAny_Slice ?_
  rw [evalPart_none, evalPart_some]
  refine wpAny_pure (wpAny_pure ?_)
  refine wpAny_UnaryOp (wpAny_Constant_int (PyProof.Rows.neg_int ?_))
  obtain ⟨vs, n, m2, da, il⟩ := S1.isList hm
  refine slice_list3 (s := { s with heap := h1, toks := tk1 + 1 + 1 }) (lo := none) (hi := none) (st := some (-1)) (ops := [.ref a, .ref h1.objs.size]) S1.fr S1.nw il .none .none (IsPart.int _ _) (by decide) (fun h' F' N' => ?_) rfl (fun _ => rfl) (by rw [List.size_toArray, da.length, sizeLine_eq]; omega)
  rw [krv_pick] at N'
  have dr : DatAll tl1 vs.reverse ds.reverse := by
    clear N' F' il m2 r hm hl k S1
    induction vs generalizing ds with
    | nil => cases da; exact .nil
    | cons v vs ih =>
      cases da with
      | cons hd hr =>
        rw [List.reverse_cons, List.reverse_cons]
        exact (ih _ hr).append (.one hd)
  have S2 : f.St h' tl1 ((h1.objs.size + 1, ds.reverse) :: H1) ((h1.objs.size + 1, listOf (vs.reverse).toArray 0) :: hs1) := by
    refine { S1 with fr := F', nw := N', ls := .cons dr S1.ls, hd := ?_, hr := ?_ }
    · rw [List.map_cons, List.nodup_cons]
      refine ⟨fun hm => ?_, S1.hd⟩
      obtain ⟨p, hp, e⟩ := List.mem_map.mp hm
      have l9 : @LT.lt Nat _ p.1 h1.objs.size := S1.lt (List.mem_append_left _ hp)
      have e9 : @Eq Nat p.1 (h1.objs.size + 1) := e
      omega
    · intro p hp q hq
      rcases List.mem_cons.mp hp with rfl | hp
      · have l9 : @LT.lt Nat _ q.1 h1.objs.size := S1.lt (List.mem_append_right _ hq)
        show ¬ @Eq Nat (h1.objs.size + 1) q.1
        omega
      · exact S1.hr p hp q hq
  exact k _ _ _ h' _ tl1 _ (r _) m1 S2 rfl
end
end Mine
end

section
namespace Mine
open PySem.Calls

section
variable {g : Gl} {f : Fx} {tl : Led} {H : Sto} {R : PV → Sto → Prop} {d : Nat} {b : Bool}

theorem tr_name (C : Cx g b d f.A f.env f.h₀) {x : Str} {pos : Pos} {σ : Loc} {p : PV} (hd : (x == ("__debug__" : Str)) = false)
    (hk : (f.env.kindOf x = some .local ∧ f.env.cells.lookup x = none) ∨ (f.env.kindOf x = some .cell ∧ (f.env.cells.lookup x).isSome = true))
    (L : LocRep g tl σ f.comb) (hs : σ.lookup x = some p) (h : R p H) : Tr g f (Rep g) (eval (.Name x pos) f.env) tl H R := fun s hss Q S k => by
  obtain ⟨v, hv, rv⟩ := L x p hs
  have fin := k p H v s.heap s.toks tl hss h (fun _ q => q) S rv
  unfold Fx.comb at hv
  rcases hk with ⟨h1, h2⟩ | ⟨h1, h2⟩
  · rw [h2] at hv
    exact wpAny_Name (wpAny_loadName_local C.hk h1 S.fr.ns hv fin) hd
  · obtain ⟨c, hc⟩ := Option.isSome_iff_exists.mp h2
    rw [hc] at hv
    obtain ⟨o, hm, ho⟩ := S.ca x c hc
    have hg9 := (S.nw (c, o) (List.mem_append_right _ (List.mem_append_right _ (List.mem_append_right _ hm)))).1
    refine wpAny_Name (wpAny_loadName_cell C.hk h1 hc ⟨o, hg9, ?_⟩ fin) hd
    rw [ho]; exact congrArg Data.cell hv

/-- a name of the text's top -/
noncomputable def Named (g : Gl) (f : Fx) (x : Str) (v : Value) : Prop := ∀ (s : Shared) (tl : Led) (H : Sto) (hs : Led) (pos : Pos) (Q : Value → Shared → Prop), f.St s.heap tl H hs → Q v s → wpAny g.M f.A (eval (.Name x pos) f.env) Q (fun _ _ => False) s
theorem named_K (C : Cx g b d f.A f.env f.h₀) {x : Str} {v : Value} (hx : f.env.kindOf x = some .globalImplicit) (hd : (x == ("__debug__" : Str)) = false) (e : nsIn g.K mainGlobals x = some (some v)) : Named g f x v := fun s tl H hs pos Q S h => by
  refine Name_function_global C.hk hx (loadGlobal_global (mg := g.mg) ?_ (mg_of C.X C.T.g e) h) hd
  rw [C.hg]; exact C.T.g.keeps S.fr.keep
theorem named_B (C : Cx g b d f.A f.env f.h₀) {x : Str} {v : Value} (hx : f.env.kindOf x = some .globalImplicit) (hd : (x == ("__debug__" : Str)) = false) (e : nsIn g.K mainGlobals x = some none) (hv : bootBuiltins x = some v) (hn : x ≠ "__name__") : Named g f x v := fun s tl H hs pos Q S h => by
  refine Name_function_global C.hk hx (loadGlobal_builtin (mg := g.mg) (mb := g.mb) ?_ (mg_none_of C.X C.T.g e) ?_ ((C.T.builtins x hn).trans hv) h) hd
  · rw [C.hg]; exact C.T.g.keeps S.fr.keep
  · rw [C.hb]; exact C.T.b.keeps S.fr.keep

theorem noStars {pos : Pos} {env : Env} : ∀ {es : List PySem.Expr}, es.all notStar = true → ((backTo pos (starEach es env)).any (·.1)) = false
  | [], _ => rfl
  | e :: es, h => by
    rw [List.all_cons, Bool.and_eq_true] at h
    rw [starEach_cons h.1]
    show (false || (backTo pos (starEach es env)).any (·.1)) = false
    rw [noStars h.2]; rfl

noncomputable def goodArgs (es : List PySem.Expr) : Bool := !es.isEmpty && es.all notStar
theorem goodArgs_cons {e : PySem.Expr} {es : List PySem.Expr} (h : goodArgs (e :: es) = true) : notStar e = true ∧ es.all notStar = true := by
  unfold goodArgs at h
  simpa [List.all_cons] using h

theorem tr_callN {x : Str} {px pos : Pos} {v : Value} {es : List PySem.Expr} {R1 : List PV → Sto → Prop} (hN : Named g f x v) (he : goodArgs es = true)
    (hi : Tr g f (RepA g) (spliced (backTo pos (starEach es f.env))) tl H R1)
    (hcw : ∀ (s : Shared) (tl : Led) (H : Sto) (hs : Led) (Q : Value → Shared → Prop), f.St s.heap tl H hs →
      wpAny g.M f.A (spliced (backTo pos (starEach es f.env))) (fun vs s₁ => (∃ tl H hs, f.St s₁.heap tl H hs) ∧ wpAny g.M f.A (call v vs) Q (fun _ _ => False) s₁) (fun _ _ => False) s → wpAny g.M f.A (callWith pos v [] (backTo pos (starEach es f.env)) []) Q (fun _ _ => False) s)
    (hc : ∀ ps H1 tl1 vs, (∀ q ∈ tl, q ∈ tl1) → R1 ps H1 → RepA g tl1 vs ps → Tr g f (Rep g) (call v vs) tl1 H1 R) :
    Tr g f (Rep g) (eval (.Call (.Name x px) es [] pos) f.env) tl H R := fun s hs Q S k => by
  refine wpAny_Call_Name_kw (hN s tl H hs px _ S ?_)
  refine hcw s tl H hs _ S (hi s hs _ S fun ps H1 vs h1 tk1 tl1 hs1 r1 m1 S1 rv => ⟨⟨tl1, H1, hs1, S1⟩, ?_⟩)
  exact hc ps H1 tl1 vs m1 r1 rv _ hs1 _ S1 fun y H' a h' tk tl' hs' ry m' S' ra => k y H' a h' tk tl' hs' ry (fun z hz => m' _ (m1 _ hz)) S' ra

theorem tr_callB {x : Str} {px pos : Pos} {id : String} {es : List PySem.Expr} {R1 : List PV → Sto → Prop} (hN : Named g f x (.builtin id)) (he : goodArgs es = true)
    (hi : Tr g f (RepA g) (spliced (backTo pos (starEach es f.env))) tl H R1)
    (hc : ∀ ps H1 tl1 vs, (∀ q ∈ tl, q ∈ tl1) → R1 ps H1 → RepA g tl1 vs ps → Tr g f (Rep g) (call (.builtin id) vs) tl1 H1 R) :
    Tr g f (Rep g) (eval (.Call (.Name x px) es [] pos) f.env) tl H R := by
  refine tr_callN hN he hi (fun s tl H hs Q S h => ?_) hc
  cases es with
  | nil => cases he
  | cons e es => exact PyProof.Rows.callWith_builtin1 (wpAny_mono h (fun _ _ q => q.2) fun _ _ q => q) (starEach_cons (goodArgs_cons he).1) (noStars (goodArgs_cons he).2)
theorem tr_callT {x : Str} {px pos : Pos} {id : String} {es : List PySem.Expr} {R1 : List PV → Sto → Prop} (hN : Named g f x (.type id)) (he : goodArgs es = true)
    (hi : Tr g f (RepA g) (spliced (backTo pos (starEach es f.env))) tl H R1)
    (hc : ∀ ps H1 tl1 vs, (∀ q ∈ tl, q ∈ tl1) → R1 ps H1 → RepA g tl1 vs ps → Tr g f (Rep g) (call (.type id) vs) tl1 H1 R) :
    Tr g f (Rep g) (eval (.Call (.Name x px) es [] pos) f.env) tl H R := by
  refine tr_callN hN he hi (fun s tl H hs Q S h => ?_) hc
  cases es with
  | nil => cases he
  | cons e es => exact PyProof.Rows.callWith_type1 (wpAny_mono h (fun _ _ q => q.2) fun _ _ q => q) (starEach_cons (goodArgs_cons he).1) (noStars (goodArgs_cons he).2)
theorem tr_callF (C : Cx g b d f.A f.env f.h₀) {x : Str} {px pos : Pos} {fa : Addr} {o : Obj} {fd : FuncData} {es : List PySem.Expr} {R1 : List PV → Sto → Prop} (hN : Named g f x (.ref fa)) (ho : g.K.lookup fa = some o) (hdat : o.data = .func fd) (he : goodArgs es = true)
    (hi : Tr g f (RepA g) (spliced (backTo pos (starEach es f.env))) tl H R1)
    (hc : ∀ ps H1 tl1 vs, (∀ q ∈ tl, q ∈ tl1) → R1 ps H1 → RepA g tl1 vs ps → Tr g f (Rep g) (call (.ref fa) vs) tl1 H1 R) :
    Tr g f (Rep g) (eval (.Call (.Name x px) es [] pos) f.env) tl H R := by
  refine tr_callN hN he hi (fun s tl H hs Q S h => ?_) hc
  cases es with
  | nil => cases he
  | cons e es =>
    refine PyProof.Rows.callWith_def hdat (wpAny_mono h (fun _ s₁ q => ⟨?_, q.2⟩) fun _ _ q => q) (starEach_cons (goodArgs_cons he).1)
    obtain ⟨⟨tl', H', hs', S'⟩, _⟩ := q
    exact S'.fr.keep _ _ (C.X _ _ ho)

/-! built-ins -/
theorem tr_lenL {a : Addr} {ds : List Dat} (hm : (a, ds) ∈ H) (hl : ds.length < 2 ^ 62) (h : R (.dat (.int (ds.length : Int))) H) : Tr g f (Rep g) (call (.builtin "len") [.ref a]) tl H R := fun s hs Q S k => by
  obtain ⟨vs, n, m, da, il⟩ := S.isList hm
  have e : vs.toArray.size = ds.length := by rw [List.size_toArray, da.length]
  refine PyProof.Rows.len_list il (by rw [e]; omega) ?_
  rw [e]
  exact k _ H _ s.heap _ tl hs h (fun _ q => q) S (.int _ _)
theorem tr_lenT {v : Value} {ds : List Dat} (rv : DatIn tl v (.tuple ds)) (hl : ds.length < 2 ^ 62) (h : R (.dat (.int (ds.length : Int))) H) : Tr g f (Rep g) (call (.builtin "len") [v]) tl H R := fun s hs Q S k => by
  obtain ⟨a, vs, n, rfl, hm, da⟩ := datIn_tuple rv
  have e : vs.toArray.size = ds.length := by rw [List.size_toArray, da.length]
  refine PyProof.Rows.len_tuple (items := vs.toArray) ⟨_, (S.newsT _ hm).1, rfl, n, rfl⟩ (by rw [e]; omega) ?_
  rw [e]
  exact k _ H _ s.heap _ tl hs h (fun _ q => q) S (.int _ _)
theorem intsAre_len {vs : List Value} {ns : List Int} (h : IntsAre vs ns) : vs.length = ns.length := by
  induction h with
  | nil => rfl
  | cons _ _ _ ih => rw [List.length_cons, List.length_cons, ih]
theorem tr_lenS (C : Cx g b d f.A f.env f.h₀) (h : R (.dat (.int (g.scrN.length : Int))) H) : Tr g f (Rep g) (call (.builtin "len") [.ref g.scrA]) tl H R := fun s hs Q S k => by
  obtain ⟨o, ho, hc, nn, hd⟩ := C.scr
  have il : s.heap.IsList g.scrA g.scrV.toArray := ⟨o, S.fr.keep _ _ ho, hc, nn, hd⟩
  have e : g.scrV.toArray.size = g.scrN.length := by rw [List.size_toArray, intsAre_len C.scI]
  have := C.scL
  refine PyProof.Rows.len_list il (by rw [e]; omega) ?_
  rw [e]
  exact k _ H _ s.heap _ tl hs h (fun _ q => q) S (.int _ _)
theorem tr_abs {i : Int} {t : Tok} (h : R (.dat (.int (if i < 0 then -i else i))) H) : Tr g f (Rep g) (call (.builtin "abs") [.int i t]) tl H R := fun s hs Q S k =>
  PyProof.Rows.call_abs_int fun u tk => k _ H _ s.heap _ tl hs h (fun _ q => q) S (.int _ _)
theorem tr_int {i : Int} {t : Tok} (h : R (.dat (.int i)) H) : Tr g f (Rep g) (call (.type "int") [.int i t]) tl H R := fun s hs Q S k =>
  PySem.call_int_int (k _ H _ s.heap s.toks tl hs h (fun _ q => q) S (.int _ _))
theorem tr_intB {i : Bool} (h : R (.dat (.int (if i = true then 1 else 0))) H) : Tr g f (Rep g) (call (.type "int") [.bool i]) tl H R := fun s hs Q S k =>
  PySem.call_int_bool (k _ H _ s.heap _ tl hs h (fun _ q => q) S (.int _ _))

theorem St.of {h₀ h h' : Heap} {env : Env} {mL cm : Str → Option Value} {cl tl fz hs : Led} {H : Sto} (S : Mine.St h₀ env h mL cm cl tl fz H hs) (F : Fr h₀ env.locals h' mL) (N : News h₀ env.locals h' (hs ++ (tl ++ (fz ++ cl)))) : Mine.St h₀ env h' mL cm cl tl fz H hs :=
  { S with fr := F, nw := N }
theorem tr_max (C : Cx g b d f.A f.env f.h₀) {i j : Int} {t u : Tok} (h : R (.dat (.int (if j > i then j else i))) H) : Tr g f (Rep g) (call (.builtin "max") [.int i t, .int j u]) tl H R := fun s hs Q S k =>
  PyProof.Rows.max_two_N C.hh S.fr S.nw fun h' tk F' N' => k _ H _ h' tk tl hs h (fun _ q => q) (S.of F' N') (.int _ _)
theorem tr_min (C : Cx g b d f.A f.env f.h₀) {i j : Int} {t u : Tok} (h : R (.dat (.int (if j < i then j else i))) H) : Tr g f (Rep g) (call (.builtin "min") [.int i t, .int j u]) tl H R := fun s hs Q S k =>
  PyProof.Rows.min_two_N C.hh S.fr S.nw fun h' tk F' N' => k _ H _ h' tk tl hs h (fun _ q => q) (S.of F' N') (.int _ _)

theorem St.rangeT {s : Heap} {h' : Heap} {hs : Led} {a b : Int} {t u w : Tok} (S : f.St s tl H hs) (I : IsRange h' s.objs.size a b 1 t u w) (F : Fr f.h₀ f.env.locals h' f.mL) (N : News f.h₀ f.env.locals h' (hs ++ (tl ++ (f.fz ++ f.cl)))) (hk : ∀ b o, s.get? b = some o → h'.get? b = some o) :
    f.St h' ((s.objs.size, ({ cls := .type "range", data := .fields #[.int a t, .int b u, .int 1 w] } : Obj)) :: tl) H hs := by
  refine { S with fr := F, nw := fun p hp => ?_, ls := S.ls.mono fun p hp => .tail _ hp, hr := ?_, tr := ?_ }
  · have hh : p = (s.objs.size, ({ cls := .type "range", data := .fields #[.int a t, .int b u, .int 1 w] } : Obj)) ∨ p ∈ hs ++ (tl ++ (f.fz ++ f.cl)) := by
      simp only [List.mem_append, List.mem_cons] at hp ⊢
      rcases hp with hp | (hp | hp) | hp | hp <;> simp [hp]
    rcases hh with rfl | hh
    · refine ⟨I, ?_, next_none S.fr⟩
      have := S.fr.ns.lt
      exact Ne.symm (Nat.ne_of_lt this)
    · exact N p hh
  · intro p hp q hq
    rcases List.mem_cons.mp hq with rfl | hq
    · exact Nat.ne_of_lt (S.lt (List.mem_append_left _ hp))
    · exact S.hr p hp q hq
  · intro p hp q hq
    rcases List.mem_cons.mp hp with rfl | hp
    · exact Ne.symm (Nat.ne_of_lt (S.lt (List.mem_append_right _ (List.mem_append_right _ hq))))
    · exact S.tr p hp q hq
theorem tr_range1 {j : Int} {t : Tok} (h : R (.rng 0 j) H) : Tr g f (Rep g) (call (.type "range") [.int j t]) tl H R := fun s hs Q S k =>
  PyProof.Rows.range1_rows S.fr S.nw fun h' tk t1 u1 v1 I F' N' hk => k _ H _ h' tk _ hs h (fun _ q => .tail _ q) (St.rangeT S I F' N' hk) ⟨_, _, _, _, rfl, .head _⟩
theorem tr_range2 {i j : Int} {t u : Tok} (h : R (.rng i j) H) : Tr g f (Rep g) (call (.type "range") [.int i t, .int j u]) tl H R := fun s hs Q S k =>
  PyProof.Rows.range2_rows S.fr S.nw fun h' tk t1 u1 v1 I F' N' hk => k _ H _ h' tk _ hs h (fun _ q => .tail _ q) (St.rangeT S I F' N' hk) ⟨_, _, _, _, rfl, .head _⟩

theorem tr_tupleOf {a : Addr} {ds : List Dat} (hm : (a, ds) ∈ H) (hl : ds.length ≤ 1000) (h : R (.dat (.tuple ds)) H) : Tr g f (Rep g) (call (.type "tuple") [.ref a]) tl H R := fun s hs Q S k => by
  obtain ⟨vs, n, m, da, il⟩ := S.isList hm
  refine PySem.call_tuple_list il (fun h' hk => ?_) (by rw [List.size_toArray, da.length, sizeLine_eq]; omega)
  have S2 := St.pushT (S.keeps hk) ({ cls := .type "tuple", data := .seq vs.toArray } : Obj) rfl
  exact k _ H _ _ s.toks _ hs h (fun _ q => .tail _ q) S2 (.tuple (.head _) (da.mono fun _ hz => .tail _ hz))

theorem tr_addL {x y : Addr} {us vs : List Dat} (hx : (x, us) ∈ H) (hy : (y, vs) ∈ H) (hl : us.length + vs.length ≤ 1000) (h : ∀ c, R (.ref c) ((c, us ++ vs) :: H)) : Tr g f (Rep g) (binaryOp .Add (.ref x) (.ref y)) tl H R := fun s hs Q S k => by
  obtain ⟨xs, n, m1, d1, i1⟩ := S.isList hx
  obtain ⟨ys, n', m2, d2, i2⟩ := S.isList hy
  refine PyProof.Rows.add_lists S.fr S.nw i1 i2 (fun h' F' N' => ?_) (by rw [d1.length, d2.length, sizeLine_eq]; omega)
  have S2 : f.St h' tl ((s.heap.objs.size, us ++ vs) :: H) ((s.heap.objs.size, listOf (xs ++ ys).toArray 0) :: hs) := by
    refine { S with fr := F', nw := N', ls := .cons (d1.append d2) S.ls, hd := ?_, hr := ?_ }
    · rw [List.map_cons, List.nodup_cons]
      refine ⟨fun hm => ?_, S.hd⟩
      obtain ⟨p, hp, e⟩ := List.mem_map.mp hm
      exact absurd (S.lt (List.mem_append_left _ hp)) (by rw [e]; exact Nat.lt_irrefl _)
    · intro p hp q hq
      rcases List.mem_cons.mp hp with rfl | hp
      · exact Ne.symm (Nat.ne_of_lt (S.lt (List.mem_append_right _ hq)))
      · exact S.hr p hp q hq
  exact k _ _ _ h' s.toks tl _ (h _) (fun _ q => q) S2 rfl

/-! methods of lists -/
theorem tr_append {x : Value} {a : Addr} {pre post : Sto} {ds : List Dat} {e : Dat} (rx : DatIn tl x e) (hH : H = pre ++ (a, ds) :: post) (hl : ds.length ≤ 1000) (h : R (.dat .none) (pre ++ (a, ds ++ [e]) :: post)) :
    Tr g f (Rep g) (call (.builtin "list.append") [.ref a, x]) tl H R := fun s hs Q S k => by
  subst hH
  obtain ⟨h1, vs, n, h2, rfl, da, N, U, fin⟩ := S.setL
  refine append_K (its := vs.toArray) S.fr N (U (listOf (vs.toArray.push x) (n + 1))) (fun h' F' N' => ?_) (by rw [List.size_toArray, da.length, sizeLine_eq]; omega)
  rw [List.push_toArray] at N'
  exact k _ _ _ h' s.toks tl _ h (fun _ q => q) (fin (vs ++ [x]) (n + 1) _ h' (da.append (.one rx)) F' N') .none
theorem tr_extend {a c : Addr} {pre post : Sto} {ds es : List Dat} (hc : (c, es) ∈ pre ++ post) (hH : H = pre ++ (a, ds) :: post) (hl : ds.length + es.length ≤ 1000) (hne : es ≠ []) (h : R (.dat .none) (pre ++ (a, ds ++ es) :: post)) :
    Tr g f (Rep g) (call (.builtin "list.extend") [.ref a, .ref c]) tl H R := fun s hs Q S k => by
  subst hH
  have hc' : (c, es) ∈ pre ++ (a, ds) :: post := by
    rcases List.mem_append.mp hc with q | q
    · exact List.mem_append_left _ q
    · exact List.mem_append_right _ (.tail _ q)
  obtain ⟨ys, n2, m2, d2, i2⟩ := S.isList hc'
  obtain ⟨h1, vs, n, h2, rfl, da, N, U, fin⟩ := S.setL
  refine kl_extend (its := vs.toArray) (its2 := ys.toArray) (l := vs ++ ys) S.fr N (by simpa using m2) rfl ?_ (U _) ?_ ?_ ?_ (fun h' F' N' => ?_)
  · intro q
    have : ys.length = 0 := q
    rw [d2.length] at this
    exact hne (List.length_eq_zero_iff.mp this)
  · have h9 : vs.toArray.size + ys.toArray.size ≤ 1000 := by rw [List.size_toArray, List.size_toArray, da.length, d2.length]; exact hl
    have h8 : Builtin.List.listTooLong (vs.toArray.size + ys.toArray.size) = false := by
      unfold Builtin.List.listTooLong
      rw [sizeLine_eq]
      exact decide_eq_false (by omega)
    rw [h8]; simp
  · rw [da.length, sizeLine_eq]; omega
  · rw [List.size_toArray, List.size_toArray, da.length, d2.length, sizeLine_eq]; omega
  · exact k _ _ _ h' s.toks tl _ h (fun _ q => q) (fin (vs ++ ys) (n + 1) _ h' (da.append d2) F' N') .none
theorem tr_pop {a : Addr} {pre post : Sto} {ds : List Dat} {e : Dat} (hH : H = pre ++ (a, ds ++ [e]) :: post) (hl : ds.length ≤ 1000) (h : R (.dat e) (pre ++ (a, ds) :: post)) :
    Tr g f (Rep g) (call (.builtin "list.pop") [.ref a]) tl H R := fun s hs Q S k => by
  subst hH
  obtain ⟨h1, vs, n, h2, rfl, da, N, U, fin⟩ := S.setL
  obtain ⟨us, u, rfl⟩ : ∃ us u, vs = us ++ [u] := by
    refine ⟨vs.dropLast, vs.getLast ?_, (List.dropLast_concat_getLast _).symm⟩
    intro q
    have := da.length
    rw [q, List.length_append] at this
    simp at this
  obtain ⟨es, e', eq, du, de⟩ := da.snoc
  obtain ⟨rfl, eq2⟩ := List.append_inj' eq rfl
  obtain rfl : e = e' := (List.cons.inj eq2).1
  refine kl_pop (p := us) (y := u) S.fr N (kpa_last u us) (U _) ?_ (fun h' F' N' => ?_)
  · have := da.length
    rw [List.length_append] at this
    show (us ++ [u]).length ≤ sizeLine
    rw [da.length, List.length_append, List.length_singleton, sizeLine_eq]; omega
  · exact k _ _ _ h' s.toks tl _ h (fun _ q => q) (fin us (n + 1) _ h' du F' N') de

theorem setL_of : ∀ {l : List Value} {k : Nat} {v : Value}, k < l.length → ki_setL l k v = some (l.set k v)
  | [], _, _, h => absurd h (Nat.not_lt_zero _)
  | x :: r, 0, v, _ => rfl
  | x :: r, k + 1, v, h => by
    unfold ki_setL
    rw [setL_of (Nat.lt_of_succ_lt_succ h)]
    rfl
theorem DatAll.set {vs : List Value} {ds : List Dat} (h : DatAll tl vs ds) {v : Value} {e : Dat} (hv : DatIn tl v e) : ∀ k, DatAll tl (vs.set k v) (ds.set k e) := by
  induction vs generalizing ds with
  | nil => intro k; cases h; exact .nil
  | cons u vs ih =>
    intro k
    cases h with
    | cons hd hr =>
      cases k with
      | zero => exact .cons hv hr
      | succ k => exact .cons hd (ih hr k)
theorem st_setItem {s : Shared} {hs : Led} {Q : Unit → Shared → Prop} {a : Addr} {k : Int} {t : Tok} {v : Value} {pre post : Sto} {ds : List Dat} {e : Dat} (S : f.St s.heap tl (pre ++ (a, ds) :: post) hs) (h0 : 0 ≤ k) (h1 : k < ds.length) (hl : ds.length ≤ 1000) (rv : DatIn tl v e)
    (kk : ∀ h' hs', f.St h' tl (pre ++ (a, ds.set k.toNat e) :: post) hs' → Q () { s with heap := h' }) : wpAny g.M f.A (setItem (.ref a) (.int k t) v) Q (fun _ _ => False) s := by
  obtain ⟨h1', vs, n, h2, rfl, da, N, U, fin⟩ := S.setL
  refine ki_set (its := vs.toArray) (q := vs.set k.toNat v) S.fr N h0 (by omega) ?_ (U _) (fun h' F' N' => ?_)
  · show ki_setL vs k.toNat v = _
    exact setL_of (by rw [da.length]; omega)
  · exact kk h' _ (fin (vs.set k.toNat v) n _ h' (DatAll.set da rv _) F' N')
end
end Mine
end

section
namespace Mine
open PySem.Calls

/-- the same frame with other locals -/
noncomputable abbrev Fx.loc (f : Fx) (mL cm : Str → Option Value) (cl : Led) : Fx := { f with mL := mL, cm := cm, cl := cl }
noncomputable abbrev Fx.frz (f : Fx) (fz : Led) : Fx := { f with fz := fz }

theorem LocRep.cons {g : Gl} {tl : Led} {σ : Loc} {m m' : Str → Option Value} {x : Str} {v : Value} {p : PV} (L : LocRep g tl σ m) (rv : Rep g tl v p) (e : ∀ y, m' y = if y = x then some v else m y) : LocRep g tl ((x, p) :: σ) m' := by
  intro y q hq
  rw [List.lookup_cons] at hq
  by_cases h : y = x
  · subst h
    rw [beq_self_eq_true] at hq
    cases hq
    exact ⟨v, by rw [e, if_pos rfl], rv⟩
  · rw [beq_eq_false_iff_ne.mpr h] at hq
    obtain ⟨u, h1, h2⟩ := L y q hq
    exact ⟨u, by rw [e, if_neg h, h1], h2⟩

noncomputable def stor (k : Option NameKind) : Bool := k == some .local || k == some .cell
theorem stor_or {k : Option NameKind} (h : stor k = true) : k = some .local ∨ k = some .cell := by
  unfold stor at h
  simpa using h

section
variable {g : Gl} {f : Fx} {tl : Led} {H : Sto} {d : Nat} {b : Bool} {σ : Loc}

theorem keys_repl {cl : Led} {c : Addr} {o' : Obj} : (cl.map fun p => if p.1 = c then (c, o') else p).map (·.1) = cl.map (·.1) := by
  rw [List.map_map]
  apply List.map_congr_left
  intro p _
  show (if p.1 = c then (c, o') else p).1 = p.1
  by_cases h : p.1 = c
  · rw [if_pos h]; exact h.symm
  · rw [if_neg h]

theorem st_store (C : Cx g b d f.A f.env f.h₀) {s : Shared} {hs : Led} {Q : Unit → Shared → Prop} {x : Str} {v : Value} {p : PV} (hk : stor (f.env.kindOf x) = true) (S : f.St s.heap tl H hs) (L : LocRep g tl σ f.comb) (rv : Rep g tl v p)
    (k : ∀ mL' cm' cl' h' tk, cl'.map (·.1) = f.cl.map (·.1) → (f.loc mL' cm' cl').St h' tl H hs → LocRep g tl ((x, p) :: σ) (f.loc mL' cm' cl').comb → Q () { s with heap := h', toks := tk }) :
    wpAny g.M f.A (storeName f.env x v) Q (fun _ _ => False) s := by
  rcases stor_or hk with hk | hk
  · refine wpAny_storeName_local hk S.fr.ns (fun h' hn hs' => ?_) (by rw [C.hk]; rfl)
    refine k (fun y => if y = x then some v else f.mL y) f.cm f.cl h' _ rfl ({ S with fr := S.fr.set hn hs', nw := S.nw.set hs' }) (L.cons rv fun y => ?_)
    have hx := C.kl x hk
    unfold Fx.comb
    by_cases h : y = x
    · subst h
      show (match f.env.cells.lookup y with | some _ => f.cm y | none => if y = y then some v else f.mL y) = _
      simp [hx]
    · show (match f.env.cells.lookup y with | some _ => f.cm y | none => if y = x then some v else f.mL y) = _
      cases List.lookup y f.env.cells <;> simp [h]
  · obtain ⟨c, hc⟩ := Option.isSome_iff_exists.mp (C.kc x hk)
    obtain ⟨o, hm, ho⟩ := S.ca x c hc
    have hmem : (c, o) ∈ hs ++ (tl ++ (f.fz ++ f.cl)) := List.mem_append_right _ (List.mem_append_right _ (List.mem_append_right _ hm))
    have hg := S.nw _ hmem
    refine wpAny_storeName_cell C.hk hk hc ⟨o, hg.1, ho⟩ fun h' hv hs' => ?_
    obtain ⟨o', hg', ho'⟩ := hv
    have hne : ∀ p ∈ hs ++ (tl ++ f.fz), p.1 ≠ c := by
      intro p hp
      rcases List.mem_append.mp hp with hp | hp
      · exact S.hr p hp (c, o) (List.mem_append_right _ (List.mem_append_right _ hm))
      · rcases List.mem_append.mp hp with hp | hp
        · exact S.tr p hp (c, o) (List.mem_append_right _ hm)
        · exact S.fc p hp (c, o) hm
    have keys : ∀ q ∈ (f.cl.map fun p => if p.1 = c then (c, o') else p), ∃ q' ∈ f.cl, q'.1 = q.1 := by
      intro q hq
      obtain ⟨q', h1, h2⟩ := List.mem_map.mp hq
      refine ⟨q', h1, ?_⟩
      by_cases h : q'.1 = c
      · rw [if_pos h] at h2; rw [← h2]; exact h
      · rw [if_neg h] at h2; rw [← h2]
    refine k f.mL (fun y => if y = x then some v else f.cm y) (f.cl.map fun p => if p.1 = c then (c, o') else p) h' s.toks keys_repl ?_ (L.cons rv fun y => ?_)
    · refine { S with fr := S.fr.change hs' hg.2.1 hg.2.2, nw := fun p hp => ?_, cd := by rw [keys_repl]; exact S.cd, hr := fun p hp q hq => ?_, tr := fun p hp q hq => ?_, fc := fun p hp q hq => ?_, ca := fun y c' hy => ?_ }
      · have hold : ∀ q ∈ hs ++ (tl ++ (f.fz ++ f.cl)), q.1 ≠ c → h'.get? q.1 = some q.2 ∧ q.1 ≠ f.env.locals ∧ f.h₀.get? q.1 = none := fun q hq hqc => ⟨(hs'.2 _ hqc).trans (S.nw q hq).1, (S.nw q hq).2⟩
        have hp' : p ∈ hs ++ (tl ++ f.fz) ∨ p ∈ (f.cl.map fun p => if p.1 = c then (c, o') else p) := by
          simp only [List.mem_append] at hp ⊢
          rcases hp with hp | hp | hp | hp <;> simp [hp]
        rcases hp' with hp' | hp'
        · refine hold p ?_ (hne p hp')
          simp only [List.mem_append] at hp' ⊢
          rcases hp' with hp | hp | hp <;> simp [hp]
        · obtain ⟨q, hq, e⟩ := List.mem_map.mp hp'
          by_cases h : q.1 = c
          · rw [if_pos h] at e
            subst e
            exact ⟨hg', hg.2⟩
          · rw [if_neg h] at e
            subst e
            exact hold q (List.mem_append_right _ (List.mem_append_right _ (List.mem_append_right _ hq))) h
      · rcases List.mem_append.mp hq with hq | hq
        · exact S.hr p hp q (List.mem_append_left _ hq)
        · rcases List.mem_append.mp hq with hq | hq
          · exact S.hr p hp q (List.mem_append_right _ (List.mem_append_left _ hq))
          · obtain ⟨q', h1, h2⟩ := keys q hq
            rw [← h2]; exact S.hr p hp q' (List.mem_append_right _ (List.mem_append_right _ h1))
      · rcases List.mem_append.mp hq with hq | hq
        · exact S.tr p hp q (List.mem_append_left _ hq)
        · obtain ⟨q', h1, h2⟩ := keys q hq
          rw [← h2]; exact S.tr p hp q' (List.mem_append_right _ h1)
      · obtain ⟨q', h1, h2⟩ := keys q hq
        rw [← h2]; exact S.fc p hp q' h1
      · by_cases h : y = x
        · subst h
          rw [hc] at hy
          cases hy
          refine ⟨o', List.mem_map.mpr ⟨(c, o), hm, if_pos rfl⟩, ?_⟩
          rw [ho']
          show Data.cell (some v) = Data.cell (if y = y then some v else f.cm y)
          rw [if_pos rfl]
        · obtain ⟨oy, h1, h2⟩ := S.ca y c' hy
          have hcc : c' ≠ c := fun e => h (S.ci y x c (e ▸ hy) hc)
          refine ⟨oy, List.mem_map.mpr ⟨(c', oy), h1, if_neg hcc⟩, ?_⟩
          rw [h2]
          show Data.cell (f.cm y) = Data.cell (if y = x then some v else f.cm y)
          rw [if_neg h]
    · unfold Fx.comb
      by_cases h : y = x
      · subst h
        show (match f.env.cells.lookup y with | some _ => (if y = y then some v else f.cm y) | none => f.mL y) = _
        simp [hc]
      · show (match f.env.cells.lookup y with | some _ => (if y = x then some v else f.cm y) | none => f.mL y) = _
        cases List.lookup y f.env.cells <;> simp [h]

/-! targets -/
noncomputable def zipB (sc : Scope) : List PySem.Expr → List Dat → Loc → Option Loc
  | [], [], acc => some acc
  | .Name x _ :: ts, e :: ds, acc => if stor (sc.names.lookup x) = true then zipB sc ts ds ((x, .dat e) :: acc) else none
  | _, _, _ => none
noncomputable def tBind (sc : Scope) : PySem.Expr → PV → Loc → Option Loc
  | .Name x _, p, acc => if stor (sc.names.lookup x) = true then some ((x, p) :: acc) else none
  | .Tuple ts _ _, .dat (.tuple ds), acc => zipB sc ts ds acc
  | _, _, _ => none

theorem loc_loc {f : Fx} {mL cm mL' cm' : Str → Option Value} {cl cl' : Led} : (f.loc mL cm cl).loc mL' cm' cl' = f.loc mL' cm' cl' := rfl

theorem zip_shape (sc : Scope) (env : Env) : ∀ (ts : List PySem.Expr) (ds : List Dat) (acc r : Loc), zipB sc ts ds acc = some r → (assignEach ts env).length = ds.length ∧ (assignEach ts env).findIdx? (·.1) = none
  | [], [], _, _, _ => ⟨rfl, rfl⟩
  | [], _ :: _, _, _, hz => by cases hz
  | e :: ts, ds, acc, r, hz => by
    cases ds with
    | nil => cases e <;> cases hz
    | cons x ds =>
      cases e with
      | Name n pn =>
        unfold zipB at hz
        by_cases hst : stor (sc.names.lookup n) = true
        · rw [if_pos hst] at hz
          obtain ⟨h1, h2⟩ := zip_shape sc env ts ds _ r hz
          refine ⟨?_, ?_⟩
          · show (assignEach ts env).length + 1 = ds.length + 1
            rw [h1]
          · show List.findIdx? (·.1) ((false, assign (.Name n pn) env) :: assignEach ts env) = none
            rw [List.findIdx?_cons, h2]; rfl
        · rw [if_neg hst] at hz; cases hz
      | _ => cases hz

theorem st_assigns (g : Gl) (d : Nat) (b : Bool) (h₀ : Heap) (A : Around) (env : Env) (C : Cx g b d A env h₀) : ∀ (ts : List PySem.Expr) (vs : List Value) (ds : List Dat) (σ σ' : Loc) (f : Fx) (s : Shared) (tl : Led) (H : Sto) (hs : Led) (Q : Unit → Shared → Prop),
    f.h₀ = h₀ → f.A = A → f.env = env → zipB env.scope ts ds σ = some σ' → DatAll tl vs ds → f.St s.heap tl H hs → LocRep g tl σ f.comb →
    (∀ mL' cm' cl' h' tk, cl'.map (·.1) = f.cl.map (·.1) → (f.loc mL' cm' cl').St h' tl H hs → LocRep g tl σ' (f.loc mL' cm' cl').comb → Q () { s with heap := h', toks := tk }) →
    wpAny g.M f.A (assignInOrder ((assignEach ts env).map (·.2)) vs) Q (fun _ _ => False) s
  | [], vs, ds, σ, σ', f, s, tl, H, hs, Q, e1, e2, e3, hz, da, S, L, k => by
    cases ds with
    | cons _ _ => cases hz
    | nil =>
      cases da
      cases hz
      exact wpAny_pure (k f.mL f.cm f.cl s.heap s.toks rfl S L)
  | e :: ts, vs, ds, σ, σ', f, s, tl, H, hs, Q, e1, e2, e3, hz, da, S, L, k => by
    cases ds with
    | nil => cases e <;> cases hz
    | cons x ds =>
      cases e with
      | Name n pn =>
        unfold zipB at hz
        by_cases hst : stor (env.scope.names.lookup n) = true
        · rw [if_pos hst] at hz
          cases da with
          | @cons v vs' _ _ hd hr =>
            subst e1; subst e2; subst e3
            show wpAny g.M f.A (assignInOrder (assign (.Name n pn) f.env :: (assignEach ts f.env).map (·.2)) (v :: vs')) Q _ s
            refine assignInOrder_cons (wpAny_assign_Name (st_store C (x := n) (p := .dat x) hst S L hd fun mL' cm' cl' h' tk hk S' L' => ?_))
            exact st_assigns g d b f.h₀ f.A f.env C ts vs' ds _ σ' (f.loc mL' cm' cl') { s with heap := h', toks := tk } tl H hs Q rfl rfl rfl hz hr S' L' fun mL2 cm2 cl2 h2 tk2 hk2 S2 L2 => k mL2 cm2 cl2 h2 tk2 (hk2.trans hk) S2 L2
        · rw [if_neg hst] at hz; cases hz
      | _ => cases hz

theorem st_target (C : Cx g b d f.A f.env f.h₀) {t : PySem.Expr} {v : Value} {p : PV} {σ' : Loc} {s : Shared} {hs : Led} {Q : Unit → Shared → Prop} (hb : tBind f.env.scope t p σ = some σ') (S : f.St s.heap tl H hs) (L : LocRep g tl σ f.comb) (rv : Rep g tl v p)
    (k : ∀ mL' cm' cl' h' tk, cl'.map (·.1) = f.cl.map (·.1) → (f.loc mL' cm' cl').St h' tl H hs → LocRep g tl σ' (f.loc mL' cm' cl').comb → Q () { s with heap := h', toks := tk }) :
    wpAny g.M f.A (assign t f.env v) Q (fun _ _ => False) s := by
  cases t with
  | Name x px =>
    change (if stor (f.env.scope.names.lookup x) = true then some ((x, p) :: σ) else none) = some σ' at hb
    by_cases hst : stor (f.env.scope.names.lookup x) = true
    · rw [if_pos hst] at hb
      cases hb
      exact wpAny_assign_Name (st_store C hst S L rv k)
    · rw [if_neg hst] at hb; cases hb
  | Tuple ts kk pp =>
    cases p with
    | dat u =>
      cases u with
      | tuple ds =>
        change zipB f.env.scope ts ds σ = some σ' at hb
        obtain ⟨a, vs, n, rfl, hm, da⟩ := datIn_tuple rv
        obtain ⟨z1, z2⟩ := zip_shape _ f.env _ _ _ _ hb
        refine wpAny_assign_Tuple (items := vs.toArray) C.hh ⟨_, (S.newsT _ hm).1, rfl, n, rfl⟩ (by rw [z1, List.size_toArray, da.length]) z2 fun h' he => ?_
        have S' : f.St h' tl H hs := S.keeps fun b o e => he b o (Nat.ne_of_lt (Heap.lt_size e)) e
        exact st_assigns g d b f.h₀ f.A f.env C ts vs ds σ σ' f { s with heap := h' } tl H hs Q rfl rfl rfl hb da S' L k
      | _ => cases hb
    | _ => cases hb
  | _ => cases hb
end
end Mine
end

section
namespace Mine
open PySem.Calls

noncomputable def rngD (a b : Int) : List Dat := (List.range (b - a).toNat).map fun i : Nat => Dat.int (a + (i : Int))
theorem rngD_length (a b : Int) : (rngD a b).length = (b - a).toNat := by simp [rngD]

noncomputable def Src (p : PV) (H : Sto) (items : List Dat) (H2 : Sto) : Prop := match p with
  | .ref a => ∃ pre post, H = pre ++ (a, items) :: post ∧ H2 = pre ++ post ∧ items.length ≤ 1000
  | .dat (.tuple ds) => items = ds ∧ H2 = H
  | .rng a b => (-(2 ^ 62) ≤ a ∧ a < 2 ^ 62 ∧ -(2 ^ 62) ≤ b ∧ b < 2 ^ 62) ∧ items = rngD a b ∧ H2 = H
  | _ => False

noncomputable def ownedNames : List String := ["enumerate", "zip", "dict_itemiterator", "dict_reverseitemiterator", "odict_iterator", "itertools.zip_longest", "itertools.pairwise"]

structure It (g : Gl) (f : Fx) (tl : Led) (I : Addr) (items : List Dat) (StW : Nat → Heap → Prop) : Prop where
  W : ∃ fp P, Walks g.P g.w f.A I fp [I] items.length P StW ∧ (∀ b ∈ fp, b = I ∨ ∃ o, (b, o) ∈ tl ++ f.fz) ∧ (∀ i v, P i v → ∃ e, items[i]? = some e ∧ DatIn tl v e)
  obj : ∀ i h, StW i h → ∃ o n vs, h.get? I = some o ∧ o.cls = .type n ∧ o.data = .fields vs ∧ ownedNames.contains n = false
  IL : I ≠ f.env.locals
  I0 : f.h₀.get? I = none

section
variable {g : Gl} {f : Fx} {tl : Led} {H : Sto} {d : Nat} {b : Bool} {σ : Loc}

theorem St.freeze {h : Heap} {hs : Led} {pre post : Sto} {a : Addr} {ds : List Dat} (S : f.St h tl (pre ++ (a, ds) :: post) hs) :
    ∃ vs n hs', DatAll tl vs ds ∧ (f.frz ((a, listOf vs.toArray n) :: f.fz)).St h tl (pre ++ post) hs' := by
  obtain ⟨h1, vs, n, h2, e, l1, da, l2⟩ := S.ls.split
  subst e
  have hd := S.hd
  rw [List.map_append, List.map_cons, List.nodup_append] at hd
  obtain ⟨d1, d2, d3⟩ := hd
  rw [List.nodup_cons] at d2
  have n1 : ∀ p ∈ h1, p.1 ≠ a := fun p hp q => d3 _ (List.mem_map_of_mem hp) _ (.head _) q
  have n2 : ∀ p ∈ h2, p.1 ≠ a := fun p hp q => d2.1 (List.mem_map.mpr ⟨p, hp, q⟩)
  have hin : ∀ p ∈ h1 ++ h2, p ∈ h1 ++ (a, listOf vs.toArray n) :: h2 := fun p hp => by
    rcases List.mem_append.mp hp with hp | hp
    · exact List.mem_append_left _ hp
    · exact List.mem_append_right _ (.tail _ hp)
  have n12 : ∀ p ∈ h1 ++ h2, p.1 ≠ a := fun p hp => by
    rcases List.mem_append.mp hp with hp | hp
    · exact n1 p hp
    · exact n2 p hp
  have ha : ∀ q ∈ tl ++ (f.fz ++ f.cl), a ≠ q.1 := fun q hq => S.hr (a, listOf vs.toArray n) (List.mem_append_right _ (.head _)) q hq
  refine ⟨vs, n, h1 ++ h2, da, { S with nw := fun p hp => ?_, ls := l1.append l2, hd := ?_, hr := fun p hp q hq => ?_, tr := fun p hp q hq => ?_, fc := fun p hp q hq => ?_ }⟩
  · refine S.nw p ?_
    simp only [List.mem_append, List.mem_cons] at hp ⊢
    rcases hp with (hp | hp) | hp | (hp | hp) | hp <;> simp [hp]
  · rw [List.map_append, List.nodup_append]
    exact ⟨d1, d2.2, fun x hx y hy => d3 x hx y (.tail _ hy)⟩
  · have hq' : q = (a, listOf vs.toArray n) ∨ q ∈ tl ++ (f.fz ++ f.cl) := by
      simp only [List.mem_append, List.mem_cons] at hq ⊢
      rcases hq with hq | (hq | hq) | hq <;> simp [hq]
    rcases hq' with rfl | hq'
    · exact n12 p hp
    · exact S.hr p (hin p hp) q hq'
  · rcases List.mem_append.mp hq with hq | hq
    · rcases List.mem_cons.mp hq with rfl | hq
      · exact Ne.symm (ha p (List.mem_append_left _ hp))
      · exact S.tr p hp q (List.mem_append_left _ hq)
    · exact S.tr p hp q (List.mem_append_right _ hq)
  · rcases List.mem_cons.mp hp with rfl | hp
    · exact ha q (List.mem_append_right _ (List.mem_append_right _ hq))
    · exact S.fc p hp q hq

theorem St.unfrz {h : Heap} {hs fz fz' : Led} (S : (f.frz fz').St h tl H hs) (hz : ∀ q ∈ fz, q ∈ fz') : (f.frz fz).St h tl H hs := by
  have hi : ∀ p ∈ fz ++ f.cl, p ∈ fz' ++ f.cl := fun p hp => by
    rcases List.mem_append.mp hp with hp | hp
    · exact List.mem_append_left _ (hz p hp)
    · exact List.mem_append_right _ hp
  have hi2 : ∀ p ∈ tl ++ (fz ++ f.cl), p ∈ tl ++ (fz' ++ f.cl) := fun p hp => by
    rcases List.mem_append.mp hp with hp | hp
    · exact List.mem_append_left _ hp
    · exact List.mem_append_right _ (hi p hp)
  exact { S with
    nw := fun p hp => by
      rcases List.mem_append.mp hp with hp | hp
      · exact S.nw p (List.mem_append_left _ hp)
      · exact S.nw p (List.mem_append_right _ (hi2 p hp))
    hr := fun p hp q hq => S.hr p hp q (hi2 q hq)
    tr := fun p hp q hq => S.tr p hp q (hi q hq)
    fc := fun p hp q hq => S.fc p (hz p hp) q hq }

theorem St.frzI {h : Heap} {hs : Led} {I : Addr} {o : Obj} (S : f.St h tl H hs) (ho : h.get? I = some o) (hL : I ≠ f.env.locals) (h0 : f.h₀.get? I = none) (ha : ∀ p ∈ hs ++ (tl ++ (f.fz ++ f.cl)), p.1 ≠ I) :
    (f.frz ((I, o) :: f.fz)).St h tl H hs := by
  refine { S with nw := fun p hp => ?_, hr := fun p hp q hq => ?_, tr := fun p hp q hq => ?_, fc := fun p hp q hq => ?_ }
  · have hp' : p = (I, o) ∨ p ∈ hs ++ (tl ++ (f.fz ++ f.cl)) := by
      simp only [List.mem_append, List.mem_cons] at hp ⊢
      rcases hp with hp | hp | (hp | hp) | hp <;> simp [hp]
    rcases hp' with rfl | hp'
    · exact ⟨ho, hL, h0⟩
    · exact S.nw p hp'
  · have hq' : q = (I, o) ∨ q ∈ tl ++ (f.fz ++ f.cl) := by
      simp only [List.mem_append, List.mem_cons] at hq ⊢
      rcases hq with hq | (hq | hq) | hq <;> simp [hq]
    rcases hq' with rfl | hq'
    · exact ha p (List.mem_append_left _ hp)
    · exact S.hr p hp q hq'
  · rcases List.mem_append.mp hq with hq | hq
    · rcases List.mem_cons.mp hq with rfl | hq
      · exact ha p (List.mem_append_right _ (List.mem_append_left _ hp))
      · exact S.tr p hp q (List.mem_append_left _ hq)
    · exact S.tr p hp q (List.mem_append_right _ hq)
  · rcases List.mem_cons.mp hp with rfl | hp
    · exact Ne.symm (ha q (List.mem_append_right _ (List.mem_append_right _ (List.mem_append_right _ hq))))
    · exact S.fc p hp q hq

theorem DatAll.at {vs : List Value} {ds : List Dat} (h : DatAll tl vs ds) {i : Nat} {v : Value} (hv : vs[i]? = some v) : ∃ e, ds[i]? = some e ∧ DatIn tl v e := by
  have hi : i < ds.length := by rw [← h.length]; exact (List.getElem?_eq_some_iff.mp hv).1
  obtain ⟨v', hv', hd⟩ := h.get hi
  rw [hv] at hv'
  obtain rfl := Option.some.inj hv'
  exact ⟨_, List.getElem?_eq_getElem hi, hd⟩

theorem pushI {h : Heap} {hs : Led} {o : Obj} (S : f.St h tl H hs) : f.St (h.push o) tl H hs ∧ h.objs.size ≠ f.env.locals ∧ f.h₀.get? h.objs.size = none ∧ ∀ q ∈ hs ++ (tl ++ (f.fz ++ f.cl)), q.1 ≠ h.objs.size :=
  ⟨S.keeps fun b o' e => Heap.get?_push_of_some _ e, Ne.symm (Nat.ne_of_lt S.fr.ns.lt), next_none S.fr, fun q hq => Nat.ne_of_lt (S.lt hq)⟩

theorem it_start (C : Cx g b d f.A f.env f.h₀) {s : Shared} {hs : Led} {v : Value} {p : PV} {items : List Dat} {H2 : Sto} {Q : Value → Shared → Prop} (S : f.St s.heap tl H hs) (rv : Rep g tl v p) (hs2 : Src p H items H2)
    (k : ∀ I StW fz' h' hs', It g (f.frz fz') tl I items StW → (∀ q ∈ f.fz, q ∈ fz') → (f.frz fz').St h' tl H2 hs' → StW 0 h' → (∀ q ∈ hs' ++ (tl ++ (fz' ++ f.cl)), q.1 ≠ I) → Q (.ref I) { s with heap := h' }) :
    wpAny g.M f.A (pyIter v) Q (fun _ _ => False) s := by
  cases p with
  | ref a =>
    obtain ⟨pre, post, rfl, rfl, hl⟩ := hs2
    cases rv
    obtain ⟨vs, n, hs', da, S1⟩ := St.freeze S
    have hm : (a, listOf vs.toArray n) ∈ hs' ++ (tl ++ (((a, listOf vs.toArray n) :: f.fz) ++ f.cl)) := by simp
    have ho := (S1.nw _ hm).1
    have il : s.heap.IsList a vs.toArray := ⟨_, ho, rfl, n, rfl⟩
    refine wpAny_pyIter_list il ?_
    obtain ⟨S2, i1, i2, i3⟩ := pushI (o := { cls := .type "list_iterator", data := .fields #[.ref a, .int 0 0] }) S1
    refine k _ (fun i h => h.IsListIter s.heap.objs.size a i ∧ h.IsList a vs.toArray) _ _ hs' ⟨⟨[s.heap.objs.size, a], fun i v => vs.toArray[i]? = some v, ?_, ?_, ?_⟩, ?_, i1, i2⟩ (fun q hq => .tail _ hq) S2 ?_ i3
    · have W := Walks.list (prog := g.P) (w := g.w) (A := f.A) C.hh s.heap.objs.size a (Nat.ne_of_lt (Heap.lt_size ho)) vs.toArray
      have hz : vs.toArray.size = items.length := by rw [List.size_toArray, da.length]
      rw [hz] at W
      exact W
    · intro c hc
      rcases List.mem_cons.mp hc with e | hc
      · exact .inl e
      · rcases List.mem_cons.mp hc with e | hc
        · subst e
          exact .inr ⟨listOf vs.toArray n, List.mem_append_right _ (List.Mem.head _)⟩
        · cases hc
    · intro i u hu
      exact DatAll.at da (by simpa using hu)
    · rintro i h ⟨⟨o, h1, h2, h3⟩, _⟩
      exact ⟨o, _, _, h1, h2, h3, by decide⟩
    · exact ⟨⟨_, Heap.get?_push_size _ rfl, rfl, rfl⟩, il.push _⟩
  | dat u =>
    cases u with
    | tuple ds =>
      obtain ⟨rfl, rfl⟩ := hs2
      obtain ⟨a, vs, n, rfl, hm, da⟩ := datIn_tuple rv
      have ho := (S.newsT _ hm).1
      have il : s.heap.IsTuple a vs.toArray := ⟨_, ho, rfl, n, rfl⟩
      refine wpAny_pyIter_tuple il ?_
      obtain ⟨S2, i1, i2, i3⟩ := pushI (o := { cls := .type "tuple_iterator", data := .fields #[.ref a, .int 0 0] }) S
      refine k _ (fun i h => h.IsTupleIter s.heap.objs.size a i ∧ h.IsTuple a vs.toArray) f.fz _ hs ⟨⟨[s.heap.objs.size, a], fun i v => vs.toArray[i]? = some v, ?_, ?_, ?_⟩, ?_, i1, i2⟩ (fun q hq => hq) S2 ?_ i3
      · have W := Walks.tuple (prog := g.P) (w := g.w) (A := f.A) C.hh s.heap.objs.size a (Nat.ne_of_lt (Heap.lt_size ho)) vs.toArray
        have hz : vs.toArray.size = items.length := by rw [List.size_toArray, da.length]
        rw [hz] at W
        exact W
      · intro c hc
        rcases List.mem_cons.mp hc with e | hc
        · exact .inl e
        · rcases List.mem_cons.mp hc with e | hc
          · subst e
            exact .inr ⟨_, List.mem_append_left _ hm⟩
          · cases hc
      · intro i u hu
        exact DatAll.at da (by simpa using hu)
      · rintro i h ⟨⟨o, h1, h2, h3⟩, _⟩
        exact ⟨o, _, _, h1, h2, h3, by decide⟩
      · exact ⟨⟨_, Heap.get?_push_size _ rfl, rfl, rfl⟩, il.push _⟩
    | _ => cases hs2
  | rng x y =>
    obtain ⟨⟨b1, b2, b3, b4⟩, rfl, rfl⟩ := hs2
    obtain ⟨r, t, u, w, rfl, hm⟩ := rv
    refine wpAny_pyIter_range (S.newsT _ hm).1 (small_one b1 b2 b3 b4) ?_
    obtain ⟨S2, i1, i2, i3⟩ := pushI (o := { cls := .type "range_iterator", data := .fields #[rawInt x, rawInt (Builtin.Range.rangeSize x y 1), rawInt 1] }) S
    refine k _ (fun i h => IsRangeIter h s.heap.objs.size (x + (i : Nat) * 1) (((y - x).toNat : Int) - (i : Nat)) 1) f.fz _ hs ⟨⟨[s.heap.objs.size], fun i v => i < (y - x).toNat ∧ ∃ t, v = Value.int (x + (i : Nat) * 1) t, ?_, ?_, ?_⟩, ?_, i1, i2⟩ (fun q hq => hq) S2 ?_ i3
    · have W := Walks.range (prog := g.P) (w := g.w) (A := f.A) C.hh s.heap.objs.size x 1 (y - x).toNat
      rw [rngD_length]
      exact ⟨W.sub, W.frame, fun i s Q E hi st hQ => W.item i s Q E hi st fun v h' tk hP => hQ v h' tk ⟨hi, hP⟩, W.done, W.self⟩
    · intro c hc
      exact .inl (List.mem_singleton.mp hc)
    · rintro i v ⟨hi, t, rfl⟩
      refine ⟨.int (x + (i : Int)), ?_, ?_⟩
      · simp [rngD, hi]
      · rw [Int.mul_one]; exact .int _ _
    · intro i h hh
      exact ⟨_, _, _, hh, rfl, rfl, by decide⟩
    · show IsRangeIter _ _ (x + ((0 : Nat) : Int) * 1) (((y - x).toNat : Int) - ((0 : Nat) : Int)) 1
      have e1 : x + ((0 : Nat) : Int) * 1 = x := by simp
      have e2 : ((y - x).toNat : Int) - ((0 : Nat) : Int) = Builtin.Range.rangeSize x y 1 := by rw [rangeSize_nat]; simp
      rw [e1, e2]
      exact Heap.get?_push_size _ rfl
  | scr => cases hs2

theorem st_letGo {s : Shared} {I : Addr} {o : Obj} {n : String} {vs : Array Value} {v : Value} {t : PySem.Expr} {Q : Unit → Shared → Prop} {E : Value → Shared → Prop} (ho : s.heap.get? I = some o) (hc : o.cls = .type n) (hd : o.data = .fields vs) (hn : ownedNames.contains n = false) (h : Q () s) :
    wpAny g.M f.A (letOwnedTupleGo t (.ref I) v) Q E s := by
  have main : wpAny g.M f.A (do
      let (.ref r, .ref a) := (Value.ref I, v) | return
      let o ← load r
      match o.cls, o.data with
      | .type n, .fields vs =>
        if ["enumerate", "zip", "dict_itemiterator", "dict_reverseitemiterator", "odict_iterator", "itertools.zip_longest", "itertools.pairwise"].contains n && vs[0]? == some (rawInt a) then
          rule "for.unpacks-the-owned-tuple"
          updateField r 0 .none
      | _, _ => pure () : Sem Unit) Q E s := by
    cases v with
    | ref a =>
      refine wpAny_bind (wpAny_load ho ?_)
      rw [hc, hd]
      dsimp only
      have hn' : (["enumerate", "zip", "dict_itemiterator", "dict_reverseitemiterator", "odict_iterator", "itertools.zip_longest", "itertools.pairwise"] : List String).contains n = false := hn
      rw [hn', Bool.false_and, if_neg Bool.false_ne_true]
      exact wpAny_pure h
    | _ => exact wpAny_pure h
  cases t with
  | Tuple a b c => exact main
  | List a b => exact main
  | _ => exact wpAny_pure h
end
end Mine
end

section
namespace Mine
open PySem.Calls

noncomputable def NextK (g : Gl) (f : Fx) (tl : Led) (s : Shared) (Rn : Loc → Sto → Prop) (Q : Flow → Shared → Prop) : Prop :=
  ∀ σ' H' mL' cm' cl' h' tk tl' hs', Rn σ' H' → (∀ q ∈ tl, q ∈ tl') → cl'.map (·.1) = f.cl.map (·.1) → (f.loc mL' cm' cl').St h' tl' H' hs' → LocRep g tl' σ' (f.loc mL' cm' cl').comb → Q .next { s with heap := h', toks := tk }
noncomputable def RetK (g : Gl) (f : Fx) (tl : Led) (s : Shared) (Rr : PV → Sto → Prop) (Q : Flow → Shared → Prop) : Prop :=
  ∀ p H' mL' cm' cl' v h' tk tl' hs', Rr p H' → (∀ q ∈ tl, q ∈ tl') → cl'.map (·.1) = f.cl.map (·.1) → (f.loc mL' cm' cl').St h' tl' H' hs' → Rep g tl' v p → Q (.ret v) { s with heap := h', toks := tk }
noncomputable def TrS (g : Gl) (f : Fx) (t : Sem Flow) (tl : Led) (σ : Loc) (H : Sto) (Rn : Loc → Sto → Prop) (Rr : PV → Sto → Prop) : Prop :=
  ∀ (s : Shared) (hs : Led) (Q : Flow → Shared → Prop), f.St s.heap tl H hs → LocRep g tl σ f.comb → NextK g f tl s Rn Q → RetK g f tl s Rr Q → wpAny g.M f.A t Q (fun _ _ => False) s

section
variable {g : Gl} {f : Fx} {tl : Led} {H : Sto} {d : Nat} {b : Bool} {σ : Loc} {Rn : Loc → Sto → Prop} {Rr : PV → Sto → Prop}

theorem NextK.mono {tl1 : Led} {s : Shared} {h1 : Heap} {tk1 : Nat} {mL cm : Str → Option Value} {cl : Led} {Q : Flow → Shared → Prop} (k : NextK g f tl s Rn Q) (hm : ∀ q ∈ tl, q ∈ tl1) (hc : cl.map (·.1) = f.cl.map (·.1)) : NextK g (f.loc mL cm cl) tl1 { s with heap := h1, toks := tk1 } Rn Q :=
  fun σ' H' mL' cm' cl' h' tk tl' hs' r m c S L => k σ' H' mL' cm' cl' h' tk tl' hs' r (fun q hq => m q (hm q hq)) (c.trans hc) S L
theorem RetK.mono {tl1 : Led} {s : Shared} {h1 : Heap} {tk1 : Nat} {mL cm : Str → Option Value} {cl : Led} {Q : Flow → Shared → Prop} (k : RetK g f tl s Rr Q) (hm : ∀ q ∈ tl, q ∈ tl1) (hc : cl.map (·.1) = f.cl.map (·.1)) : RetK g (f.loc mL cm cl) tl1 { s with heap := h1, toks := tk1 } Rr Q :=
  fun p H' mL' cm' cl' v h' tk tl' hs' r m c S L => k p H' mL' cm' cl' v h' tk tl' hs' r (fun q hq => m q (hm q hq)) (c.trans hc) S L

theorem trs_nil (h : Rn σ H) : TrS g f (execs [] f.env) tl σ H Rn Rr := fun s hs Q S L kn kr =>
  wpAny_execs_nil (kn σ H f.mL f.cm f.cl s.heap s.toks tl hs h (fun _ q => q) rfl S L)

theorem trs_cons {st : Stmt} {rest : List Stmt} {R1 : Loc → Sto → Prop} (h1 : TrS g f (exec st f.env) tl σ H R1 Rr)
    (h2 : ∀ σ1 H1 tl1 mL cm cl, R1 σ1 H1 → (∀ q ∈ tl, q ∈ tl1) → TrS g (f.loc mL cm cl) (execs rest f.env) tl1 σ1 H1 Rn Rr) : TrS g f (execs (st :: rest) f.env) tl σ H Rn Rr := fun s hs Q S L kn kr => by
  refine wpAny_execs_cons (h1 s hs _ S L (fun σ1 H1 mL cm cl h1' tk tl1 hs1 r m c S1 L1 => ?_) (fun p H1 mL cm cl v h1' tk tl1 hs1 r m c S1 rv => ?_))
  · exact h2 σ1 H1 tl1 mL cm cl r m _ hs1 Q S1 L1 (kn.mono m c) (kr.mono m c)
  · exact kr p H1 mL cm cl v h1' tk tl1 hs1 r m c S1 rv

theorem trs_Return {e : PySem.Expr} {pos : Pos} (h : Tr g f (Rep g) (eval e f.env) tl H Rr) : TrS g f (exec (.Return (some e) pos) f.env) tl σ H Rn Rr := fun s hs Q S L kn kr =>
  wpAny_Return_some (h s hs _ S fun p H1 v h1 tk tl1 hs1 r m S1 rv => kr p H1 f.mL f.cm f.cl v h1 tk tl1 hs1 r m rfl S1 rv)

theorem trs_If {t : PySem.Expr} {bd oe : List Stmt} {pos : Pos} {R1 : Bool → Sto → Prop} (h : Tr g f RepB (isTrue t f.env (eval t f.env)) tl H R1)
    (h2 : ∀ c H1 tl1, R1 c H1 → (∀ q ∈ tl, q ∈ tl1) → if c = true then TrS g f (execs bd f.env) tl1 σ H1 Rn Rr else TrS g f (execs oe f.env) tl1 σ H1 Rn Rr) : TrS g f (exec (.If t bd oe pos) f.env) tl σ H Rn Rr := fun s hs Q S L kn kr => by
  refine wpAny_If (h s hs _ S fun c H1 c' h1 tk tl1 hs1 r m S1 rv => ?_)
  cases rv
  have z := h2 c H1 tl1 r m
  cases c with
  | true => exact z _ hs1 Q S1 (L.mono m) (kn.mono m rfl) (kr.mono m rfl)
  | false => exact z _ hs1 Q S1 (L.mono m) (kn.mono m rfl) (kr.mono m rfl)

theorem trs_Assign (C : Cx g b d f.A f.env f.h₀) {x : Str} {px pos : Pos} {e : PySem.Expr} {R1 : PV → Sto → Prop} (hk : stor (f.env.kindOf x) = true) (h : Tr g f (Rep g) (eval e f.env) tl H R1) (hn : ∀ p H1, R1 p H1 → Rn ((x, p) :: σ) H1)
    (hs : swapsWith e (some (.Name x px)) pos.line f.env = pure false) : TrS g f (exec (.Assign [.Name x px] e pos) f.env) tl σ H Rn Rr := fun s hss Q S L kn kr => by
  refine wpAny_Assign_Name (h s hss _ S fun p H1 v h1 tk tl1 hs1 r m S1 rv => ?_) hs
  exact st_store C hk S1 (L.mono m) rv fun mL' cm' cl' h' tk' hc S' L' => kn _ H1 mL' cm' cl' h' tk' tl1 hs1 (hn p H1 r) m hc S' L'

theorem trs_AssignT (C : Cx g b d f.A f.env f.h₀) {ts : List PySem.Expr} {kk : Nat} {tp pos : Pos} {e : PySem.Expr} {R1 : PV → Sto → Prop} (h : Tr g f (Rep g) (eval e f.env) tl H R1)
    (hn : ∀ p H1, R1 p H1 → ∃ σ', tBind f.env.scope (.Tuple ts kk tp) p σ = some σ' ∧ Rn σ' H1)
    (hs : swapsWithSole [.Tuple ts kk tp] e pos.line f.env = pure false) (hw : swappedStores [.Tuple ts kk tp] e f.env = pure none) : TrS g f (exec (.Assign [.Tuple ts kk tp] e pos) f.env) tl σ H Rn Rr := fun s hss Q S L kn kr => by
  refine Assign_Tuple (h s hss _ S fun p H1 v h1 tk tl1 hs1 r m S1 rv => ?_) hs hw
  obtain ⟨σ', hb, hr⟩ := hn p H1 r
  exact st_target C hb S1 (L.mono m) rv fun mL' cm' cl' h' tk' hc S' L' => kn _ H1 mL' cm' cl' h' tk' tl1 hs1 hr m hc S' L'

/-- two or three names stored at once: the model stores them from behind -/
noncomputable def swB (sc : Scope) : List Str → List Dat → Loc → Option Loc
  | [], [], acc => some acc
  | x :: xs, e :: es, acc => if sc.names.lookup x = some .local then swB sc xs es ((x, .dat e) :: acc) else none
  | _, _, _ => none
theorem st_binds (g : Gl) (d : Nat) (b : Bool) (h₀ : Heap) (A : Around) (env : Env) (C : Cx g b d A env h₀) : ∀ (xs : List Str) (vs : List Value) (ds : List Dat) (σ σ' : Loc) (f : Fx) (s : Shared) (tl : Led) (H : Sto) (hs : Led) (Q : Unit → Shared → Prop),
    f.h₀ = h₀ → f.A = A → f.env = env → swB env.scope xs ds σ = some σ' → DatAll tl vs ds → f.St s.heap tl H hs → LocRep g tl σ f.comb →
    (∀ mL' cm' cl' h' tk, cl'.map (·.1) = f.cl.map (·.1) → (f.loc mL' cm' cl').St h' tl H hs → LocRep g tl σ' (f.loc mL' cm' cl').comb → Q () { s with heap := h', toks := tk }) →
    wpAny g.M f.A (assignInOrder (xs.map fun n => bindName env n) vs) Q (fun _ _ => False) s
  | [], vs, ds, σ, σ', f, s, tl, H, hs, Q, e1, e2, e3, hz, da, S, L, k => by
    cases ds with
    | cons _ _ => cases hz
    | nil =>
      cases da
      cases hz
      exact wpAny_pure (k f.mL f.cm f.cl s.heap s.toks rfl S L)
  | x :: xs, vs, ds, σ, σ', f, s, tl, H, hs, Q, e1, e2, e3, hz, da, S, L, k => by
    cases ds with
    | nil => cases hz
    | cons e ds =>
      unfold swB at hz
      by_cases hst : env.scope.names.lookup x = some .local
      · rw [if_pos hst] at hz
        cases da with
        | @cons v vs' _ _ hd hr =>
          subst e1; subst e2; subst e3
          show wpAny g.M f.A (assignInOrder (bindName f.env x :: xs.map fun n => bindName f.env n) (v :: vs')) Q _ s
          have hst' : stor (f.env.kindOf x) = true := by
            show stor (f.env.scope.names.lookup x) = true
            rw [hst]; rfl
          refine assignInOrder_cons (bindName_ (st_store C (x := x) (p := .dat e) hst' S L hd fun mL' cm' cl' h' tk hk S' L' => ?_))
          exact st_binds g d b f.h₀ f.A f.env C xs vs' ds _ σ' (f.loc mL' cm' cl') { s with heap := h', toks := tk } tl H hs Q rfl rfl rfl hz hr S' L' fun mL2 cm2 cl2 h2 tk2 hk2 S2 L2 => k mL2 cm2 cl2 h2 tk2 (hk2.trans hk) S2 L2
      · rw [if_neg hst] at hz; cases hz

theorem DatAll.rev {vs : List Value} {ds : List Dat} (h : DatAll tl vs ds) : DatAll tl vs.reverse ds.reverse := by
  induction vs generalizing ds with
  | nil => cases h; exact .nil
  | cons v vs ih =>
    cases h with
    | cons hd hr =>
      rw [List.reverse_cons, List.reverse_cons]
      exact (ih hr).append (.one hd)

theorem trs_AssignS (C : Cx g b d f.A f.env f.h₀) {ts : List PySem.Expr} {kk : Nat} {tp pos : Pos} {e : PySem.Expr} {names : List Str} {R1 : PV → Sto → Prop} (h : Tr g f (Rep g) (eval e f.env) tl H R1)
    (hn : ∀ p H1, R1 p H1 → ∃ ds σ', p = .dat (.tuple ds) ∧ ds.length = names.length ∧ swB f.env.scope names.reverse ds.reverse σ = some σ' ∧ Rn σ' H1)
    (hs : swapsWithSole [.Tuple ts kk tp] e pos.line f.env = pure false) (hw : swappedStores [.Tuple ts kk tp] e f.env = pure (some names)) : TrS g f (exec (.Assign [.Tuple ts kk tp] e pos) f.env) tl σ H Rn Rr := fun s hss Q S L kn kr => by
  refine Assign_Tuple_swapped (h s hss _ S fun p H1 v h1 tk tl1 hs1 r m S1 rv => ?_) hs hw
  obtain ⟨ds, σ', rfl, hl, hb, hr⟩ := hn p H1 r
  obtain ⟨a, vs, n, rfl, hm, da⟩ := datIn_tuple rv
  have hlen : names.length = vs.toArray.size := by rw [List.size_toArray, da.length, hl]
  rw [hlen]
  refine unpackItems_tuple C.hh ⟨_, (S1.newsT _ hm).1, rfl, n, rfl⟩ fun h' he => ?_
  have S' : f.St h' tl1 H1 hs1 := S1.keeps fun b o e => he b o (Nat.ne_of_lt (Heap.lt_size e)) e
  refine st_binds g d b f.h₀ f.A f.env C names.reverse vs.reverse ds.reverse σ σ' f { s with heap := h', toks := tk } tl1 H1 hs1 _ rfl rfl rfl hb (DatAll.rev da) S' (L.mono m) fun mL' cm' cl' h2 tk2 hc S2 L2 => ?_
  exact kn _ H1 mL' cm' cl' h2 tk2 tl1 hs1 hr m hc S2 L2

/-- an expression as a statement -/
theorem trs_Expr {e : PySem.Expr} {pos : Pos} {R1 : PV → Sto → Prop} (h : Tr g f (Rep g) (eval e f.env) tl H R1) (hn : ∀ p H1, R1 p H1 → Rn σ H1) (hi : interactive f.env = false) (hs : swapsWith e none pos.line f.env = pure false) :
    TrS g f (exec (.Expr e pos) f.env) tl σ H Rn Rr := fun s hss Q S L kn kr =>
  wpAny_Expr_any (h s hss _ S fun p H1 v h1 tk tl1 hs1 r m S1 rv => kn σ H1 f.mL f.cm f.cl h1 tk tl1 hs1 (hn p H1 r) m rfl S1 (L.mono m)) hi hs

/-- x[i] = v -/
theorem trs_Store {o i e : PySem.Expr} {p' pos : Pos} {R1 : PV → Sto → Prop} {R2 : PV → PV → Sto → Prop} {R3 : PV → PV → PV → Sto → Prop} (h1 : Tr g f (Rep g) (eval e f.env) tl H R1)
    (h2 : ∀ p H1 tl1, R1 p H1 → (∀ q ∈ tl, q ∈ tl1) → Tr g f (Rep g) (eval o f.env) tl1 H1 (R2 p))
    (h3 : ∀ p q H2 tl2, R2 p q H2 → (∀ q ∈ tl, q ∈ tl2) → Tr g f (Rep g) (eval i f.env) tl2 H2 (R3 p q))
    (hn : ∀ p q r H3, R3 p q r H3 → ∃ u a pre post ds k, p = .dat u ∧ q = .ref a ∧ r = .dat (.int k) ∧ H3 = pre ++ (a, ds) :: post ∧ 0 ≤ k ∧ k < ds.length ∧ ds.length ≤ 1000 ∧ Rn σ (pre ++ (a, ds.set k.toNat u) :: post))
    (hs : swapsWith e (some (.Subscript o i p')) pos.line f.env = pure false) : TrS g f (exec (.Assign [.Subscript o i p'] e pos) f.env) tl σ H Rn Rr := fun s hss Q S L kn kr => by
  refine wpAny_Assign_Subscript (h1 s hss _ S fun p H1 v t1 tk1 tl1 hs1 r1 m1 S1 rv1 => ?_) hs
  refine h2 p H1 tl1 r1 m1 _ hs1 _ S1 fun q H2 v2 t2 tk2 tl2 hs2 r2 m2 S2 rv2 => ?_
  refine h3 p q H2 tl2 r2 (fun z hz => m2 _ (m1 _ hz)) _ hs2 _ S2 fun r H3 v3 t3 tk3 tl3 hs3 r3 m3 S3 rv3 => ?_
  obtain ⟨u, a, pre, post, ds, k, rfl, rfl, rfl, rfl, k0, k1, kl, fin⟩ := hn p q r H3 r3
  cases rv2
  obtain ⟨t, rfl⟩ := datIn_int rv3
  refine st_setItem (f := f) S3 k0 k1 kl ((rv1.mono m2).mono m3) fun h' hs' S' => ?_
  have mm : ∀ q ∈ tl, q ∈ tl3 := fun z hz => m3 _ (m2 _ (m1 _ hz))
  exact kn σ _ f.mL f.cm f.cl h' tk3 tl3 hs' fin mm rfl S' (L.mono mm)

/-- while -/
theorem trs_While (C : Cx g b d f.A f.env f.h₀) {t : PySem.Expr} {bd : List Stmt} {pos : Pos} (Inv : Nat → Loc → Sto → Prop) (n₀ : Nat) (h0 : Inv n₀ σ H) (Rt : Nat → Loc → Bool → Sto → Prop)
    (ht : ∀ n σ1 H1 tl1 mL cm cl, Inv n σ1 H1 → (∀ q ∈ tl, q ∈ tl1) → LocRep g tl1 σ1 (f.loc mL cm cl).comb → Tr g (f.loc mL cm cl) RepB (isTrue t f.env (eval t f.env)) tl1 H1 (Rt n σ1))
    (hb : ∀ n σ1 H1 tl1 mL cm cl, Rt n σ1 true H1 → (∀ q ∈ tl, q ∈ tl1) → TrS g (f.loc mL cm cl) (execs bd f.env) tl1 σ1 H1 (fun σ2 H2 => ∃ m, m < n ∧ Inv m σ2 H2) Rr)
    (he : ∀ n σ1 H1, Rt n σ1 false H1 → Rn σ1 H1) : TrS g f (exec (.While t bd [] pos) f.env) tl σ H Rn Rr := fun s hss Q S L kn kr => by
  refine wpAny_While ?_
  refine codeAny_whileLoop (fun n s' => ∃ σ1 H1 mL cm cl h1 tk tl1 hs1, s' = { s with heap := h1, toks := tk } ∧ Inv n σ1 H1 ∧ (∀ q ∈ tl, q ∈ tl1) ∧ cl.map (·.1) = f.cl.map (·.1) ∧ (f.loc mL cm cl).St h1 tl1 H1 hs1 ∧ LocRep g tl1 σ1 (f.loc mL cm cl).comb) ?_ n₀
    ⟨σ, H, f.mL, f.cm, f.cl, s.heap, s.toks, tl, hss, rfl, h0, fun _ q => q, rfl, S, L⟩
  rintro n s' ⟨σ1, H1, mL, cm, cl, h1, tk, tl1, hs1, rfl, hi, m1, c1, S1, L1⟩
  refine wpAny_noRaise (ht n σ1 H1 tl1 mL cm cl hi m1 L1 _ hs1 _ S1 fun c H2 c' h2 tk2 tl2 hs2 r2 m2 S2 rv => ?_)
  cases rv
  have mm : ∀ q ∈ tl, q ∈ tl2 := fun z hz => m2 _ (m1 _ hz)
  cases c with
  | true =>
    rw [if_pos rfl]
    refine wpAny_noRaise (hb n σ1 H2 tl2 mL cm cl r2 mm _ hs2 _ S2 (L1.mono m2) (fun σ3 H3 mL3 cm3 cl3 h3 tk3 tl3 hs3 r3 m3 c3 S3 L3 => ?_) (fun p H3 mL3 cm3 cl3 v h3 tk3 tl3 hs3 r3 m3 c3 S3 rv => ?_))
    · obtain ⟨m, hm, hi'⟩ := r3
      exact ⟨m, hm, σ3, H3, mL3, cm3, cl3, h3, tk3, tl3, hs3, rfl, hi', fun z hz => m3 _ (mm _ hz), c3.trans c1, S3, L3⟩
    · exact kr p H3 mL3 cm3 cl3 v h3 tk3 tl3 hs3 r3 (fun z hz => m3 _ (mm _ hz)) (c3.trans c1) S3 rv
  | false =>
    rw [if_neg Bool.false_ne_true]
    refine wpAny_execs_nil ?_
    exact kn σ1 H2 mL cm cl h2 tk2 tl2 hs2 (he n σ1 H2 r2) mm c1 S2 (L1.mono m2)

/-- for -/
theorem trs_For (C : Cx g b d f.A f.env f.h₀) {tgt it : PySem.Expr} {bd : List Stmt} {pos : Pos} {R1 : PV → Sto → Prop} (hi : Tr g f (Rep g) (eval it f.env) tl H R1)
    (hsrc : ∀ p H1, R1 p H1 → ∃ (items : List Dat) (H2 : Sto) (Inv : List Dat → Loc → Sto → Prop), Src p H1 items H2 ∧ Inv [] σ H2 ∧
      (∀ pre e post σ1 H3, items = pre ++ e :: post → Inv pre σ1 H3 → ∃ σ2, tBind f.env.scope tgt (.dat e) σ1 = some σ2 ∧ ∀ fz mL cm cl tl3, TrS g ((f.frz fz).loc mL cm cl) (execs bd f.env) tl3 σ2 H3 (fun σ4 H4 => Inv (pre ++ [e]) σ4 H4) Rr) ∧
      (∀ σ1 H3, Inv items σ1 H3 → Rn σ1 H3))
    (hfold : ∀ x, foldedSetIterable it f.env x = pure x) : TrS g f (exec (.For tgt it bd [] pos) f.env) tl σ H Rn Rr := fun s hss Q S L kn kr => by
  refine wpAny_For (hi s hss _ S fun p H1 v h1 tk1 tl1 hs1 r1 m1 S1 rv => ?_) hfold
  obtain ⟨items, H2, Inv, hsr, inv0, turn, fin⟩ := hsrc p H1 r1
  refine it_start C (s := { s with heap := h1, toks := tk1 }) S1 rv hsr fun I StW fz' h2 hs2 IT hz S2 st2 ap2 => ?_
  obtain ⟨⟨fp, P, W, hfp, hP⟩, hobj, IL, I0⟩ := IT
  refine codeAny_forLoop_any (fun n s' => ∃ i σ3 H3 mL cm cl h3 tk tl3 hs3, s' = { s with heap := h3, toks := tk } ∧ n = items.length + 1 - i ∧ i ≤ items.length ∧ Inv (items.take i) σ3 H3 ∧ (∀ q ∈ tl1, q ∈ tl3) ∧ cl.map (·.1) = f.cl.map (·.1) ∧
      ((f.frz fz').loc mL cm cl).St h3 tl3 H3 hs3 ∧ LocRep g tl3 σ3 ((f.frz fz').loc mL cm cl).comb ∧ StW i h3 ∧ (∀ q ∈ hs3 ++ (tl3 ++ (fz' ++ cl)), q.1 ≠ I)) ?_ (items.length + 1)
    ⟨0, σ, H2, f.mL, f.cm, f.cl, h2, tk1, tl1, hs2, rfl, rfl, Nat.zero_le _, inv0, fun _ q => q, rfl, S2, L.mono m1, st2, ap2⟩
  rintro n s' ⟨i, σ3, H3, mL, cm, cl, h3, tk3, tl3, hs3, rfl, rfl, hile, hinv, m3, c3, S3, L3, st3, ap3⟩
  by_cases hlt : i < items.length
  · refine W.item i _ _ _ hlt st3 fun u h4 tk4 hPu st4 hk4 => ?_
    have hk4' : ∀ b o, b ≠ I → h3.get? b = some o → h4.get? b = some o := fun b o hb e => hk4 b o (fun q => hb (List.mem_singleton.mp q)) e
    have S4 : ((f.frz fz').loc mL cm cl).St h4 tl3 H3 hs3 := S3.but IL I0 ap3 hk4'
    obtain ⟨oI, nI, vI, g1, g2, g3, g4⟩ := hobj (i + 1) h4 st4
    refine wpAny_noRaise (st_letGo (s := { s with heap := h4, toks := tk4 }) g1 g2 g3 g4 ?_)
    obtain ⟨e, he, hDu⟩ := hP i u hPu
    have hsplit : items = items.take i ++ e :: items.drop (i + 1) := by
      obtain ⟨hi9, he9⟩ := List.getElem?_eq_some_iff.mp he
      rw [← he9]
      have := List.take_append_drop i items
      rw [List.drop_eq_getElem_cons hi9] at this
      exact this.symm
    have htake : items.take (i + 1) = items.take i ++ [e] := by rw [List.take_add_one, he]; rfl
    obtain ⟨σ4, hb4, body⟩ := turn (items.take i) e (items.drop (i + 1)) σ3 H3 hsplit hinv
    have S5 := St.frzI S4 g1 IL I0 ap3
    have Cf : Cx g b d f.A f.env f.h₀ := C
    refine wpAny_noRaise (st_target (f := ((f.frz ((I, oI) :: fz')).loc mL cm cl)) (s := { s with heap := h4, toks := tk4 }) C hb4 S5 L3 (p := .dat e) (hDu.mono m3) fun mL5 cm5 cl5 h5 tk5 c5 S6 L6 => ?_)
    have hh := body ((I, oI) :: fz') mL5 cm5 cl5 tl3
    refine wpAny_noRaise (hh { s with heap := h5, toks := tk5 } hs3 _ S6 L6 (fun σ7 H7 mL7 cm7 cl7 h7 tk7 tl7 hs7 r7 m7 c7 S7 L7 => ?_) (fun p7 H7 mL7 cm7 cl7 v7 h7 tk7 tl7 hs7 r7 m7 c7 S7 rv7 => ?_))
    · have hI7 : ∀ q ∈ hs7 ++ (tl7 ++ (fz' ++ cl7)), q.1 ≠ I := by
        intro q hq
        have hmI : ∀ {x : Led}, (I, oI) ∈ x ++ (((I, oI) :: fz') ++ cl7) := fun {x} => List.mem_append_right _ (List.mem_append_left _ (.head _))
        rcases List.mem_append.mp hq with hq | hq
        · exact S7.hr q hq (I, oI) hmI
        · rcases List.mem_append.mp hq with hq | hq
          · exact S7.tr q hq (I, oI) (List.mem_append_left _ (.head _))
          · rcases List.mem_append.mp hq with hq | hq
            · exact ap3 q (List.mem_append_right _ (List.mem_append_right _ (List.mem_append_left _ hq)))
            · exact Ne.symm (S7.fc (I, oI) (.head _) q hq)
      have hgI : h7.get? I = some oI := (S7.nw (I, oI) (List.mem_append_right _ (List.mem_append_right _ (List.mem_append_left _ (.head _))))).1
      have st7 : StW (i + 1) h7 := by
        refine W.frame (i + 1) h4 h7 st4 fun c hc o ho => ?_
        rcases hfp c hc with rfl | ⟨oc, hoc⟩
        · rw [g1] at ho
          rw [hgI]; exact ho
        · have hin4 : (c, oc) ∈ hs3 ++ (tl3 ++ (fz' ++ cl)) := by
            rcases List.mem_append.mp hoc with q | q
            · exact List.mem_append_right _ (List.mem_append_left _ (m3 _ q))
            · exact List.mem_append_right _ (List.mem_append_right _ (List.mem_append_left _ q))
          have e4 := (S4.nw _ hin4).1
          have hin7 : (c, oc) ∈ hs7 ++ (tl7 ++ (((I, oI) :: fz') ++ cl7)) := by
            rcases List.mem_append.mp hoc with q | q
            · exact List.mem_append_right _ (List.mem_append_left _ (m7 _ (m3 _ q)))
            · exact List.mem_append_right _ (List.mem_append_right _ (List.mem_append_left _ (.tail _ q)))
          have e7 := (S7.nw _ hin7).1
          rw [e4] at ho
          rw [e7]; exact ho
      refine ⟨items.length + 1 - (i + 1), by omega, i + 1, σ7, H7, mL7, cm7, cl7, h7, tk7, tl7, hs7, rfl, rfl, hlt, ?_, fun z hz => m7 _ (m3 _ hz), (c7.trans c5).trans c3, ?_, L7, st7, hI7⟩
      · rw [htake]; exact r7
      · exact St.unfrz (f := (f.frz ((I, oI) :: fz')).loc mL7 cm7 cl7) S7 (fun q hq => .tail _ hq)
    · refine kr p7 H7 mL7 cm7 cl7 v7 h7 tk7 tl7 hs7 r7 (fun z hz => m7 _ (m3 _ (m1 _ hz))) ((c7.trans c5).trans c3) ?_ rv7
      exact St.unfrz (f := (f.frz ((I, oI) :: fz')).loc mL7 cm7 cl7) S7 (fun q hq => .tail _ (hz q hq))
  · have hie : i = items.length := by omega
    subst hie
    refine W.done _ _ _ st3 fun h4 tk4 hk4 => wpAny_execs_nil ?_
    have hk4' : ∀ b o, b ≠ I → h3.get? b = some o → h4.get? b = some o := fun b o hb e => hk4 b o (fun q => hb (List.mem_singleton.mp q)) e
    have S4 : ((f.frz fz').loc mL cm cl).St h4 tl3 H3 hs3 := S3.but IL I0 ap3 hk4'
    rw [List.take_length] at hinv
    refine kn σ3 H3 mL cm cl h4 tk4 tl3 hs3 (fin σ3 H3 hinv) (fun z hz => m3 _ (m1 _ hz)) c3 ?_ L3
    exact St.unfrz (f := (f.frz fz').loc mL cm cl) S4 hz
end
end Mine
end

section
namespace Mine
open PySem.Calls

section
variable {g : Gl} {f : Fx} {tl : Led} {H : Sto} {d : Nat} {b : Bool} {σ : Loc} {R : Bool → Sto → Prop}

noncomputable def asBool (R : Bool → Sto → Prop) (p : PV) (H : Sto) : Prop := ∃ c, p = .dat (.bool c) ∧ R c H
theorem rep_bool {v : Value} {p : PV} {H : Sto} (h : asBool R p H) (rv : Rep g tl v p) : ∃ c, v = .bool c ∧ R c H := by
  obtain ⟨c, rfl, hr⟩ := h
  exact ⟨c, datIn_bool rv, hr⟩

theorem tr_Compare {l r : PySem.Expr} {op : CmpOp} {pos : Pos} {R : PV → Sto → Prop} {R1 : PV → Sto → Prop} {R2 : PV → PV → Sto → Prop} (hl : Tr g f (Rep g) (eval l f.env) tl H R1)
    (hr : ∀ p H1 tl1, R1 p H1 → (∀ q ∈ tl, q ∈ tl1) → Tr g f (Rep g) (eval r f.env) tl1 H1 (R2 p))
    (ho : ∀ p q H2 tl2 a b, (∀ q ∈ tl, q ∈ tl2) → Rep g tl2 a p → Rep g tl2 b q → R2 p q H2 → Tr g f (Rep g) (compareOp op a b) tl2 H2 R) (hm : behindInMarks op r = false) :
    Tr g f (Rep g) (eval (.Compare l [op] [r] pos) f.env) tl H R := fun s hs Q S k => by
  refine wpAny_Compare1 (hl s hs _ S fun p H1 a h1 tk1 tl1 hs1 r1 m1 S1 ra => ?_) hm
  refine hr p H1 tl1 r1 m1 _ hs1 _ S1 fun q H2 b h2 tk2 tl2 hs2 r2 m2 S2 rb => ?_
  refine ho p q H2 tl2 a b (fun z hz => m2 _ (m1 _ hz)) (ra.mono m2) rb r2 _ hs2 _ S2 fun y H' v h' tk tl' hs' ry m' S' rv => ?_
  exact k y H' v h' tk tl' hs' ry (fun z hz => m' _ (m2 _ (m1 _ hz))) S' rv

theorem tr_tCompare {l r : PySem.Expr} {op : CmpOp} {pos : Pos} {whole : Sem Value} {R1 : PV → Sto → Prop} {R2 : PV → PV → Sto → Prop} (hl : Tr g f (Rep g) (eval l f.env) tl H R1)
    (hr : ∀ p H1 tl1, R1 p H1 → (∀ q ∈ tl, q ∈ tl1) → Tr g f (Rep g) (eval r f.env) tl1 H1 (R2 p))
    (ho : ∀ p q H2 tl2 a b, (∀ q ∈ tl, q ∈ tl2) → Rep g tl2 a p → Rep g tl2 b q → R2 p q H2 → Tr g f (Rep g) (compareOp op a b) tl2 H2 (asBool R)) (hm : behindInMarks op r = false) :
    Tr g f RepB (isTrue (.Compare l [op] [r] pos) f.env whole) tl H R := fun s hs Q S k => by
  refine wpAny_isTrue_Compare1 (hl s hs _ S fun p H1 a h1 tk1 tl1 hs1 r1 m1 S1 ra => ?_) hm
  refine hr p H1 tl1 r1 m1 _ hs1 _ S1 fun q H2 b h2 tk2 tl2 hs2 r2 m2 S2 rb => ?_
  refine ho p q H2 tl2 a b (fun z hz => m2 _ (m1 _ hz)) (ra.mono m2) rb r2 _ hs2 _ S2 fun y H' v h' tk tl' hs' ry m' S' rv => ?_
  obtain ⟨c, rfl, hc⟩ := rep_bool ry rv
  exact wpAny_truthy_bool (k c H' c h' tk tl' hs' hc (fun z hz => m' _ (m2 _ (m1 _ hz))) S' rfl)

theorem tr_tChain {l r t : PySem.Expr} {op op2 : CmpOp} {pos : Pos} {whole : Sem Value} {R1 : PV → Sto → Prop} {R2 : PV → PV → Sto → Prop} {R3 : PV → Bool → Sto → Prop} {R4 : PV → PV → Sto → Prop} (hl : Tr g f (Rep g) (eval l f.env) tl H R1)
    (hr : ∀ p H1 tl1, R1 p H1 → (∀ q ∈ tl, q ∈ tl1) → Tr g f (Rep g) (eval r f.env) tl1 H1 (R2 p))
    (ho : ∀ p q H2 tl2 a b, (∀ q ∈ tl, q ∈ tl2) → Rep g tl2 a p → Rep g tl2 b q → R2 p q H2 → Tr g f (Rep g) (compareOp op a b) tl2 H2 (asBool (R3 q)))
    (hf : ∀ q H3, R3 q false H3 → R false H3)
    (ht : ∀ q H3 tl3, R3 q true H3 → (∀ q ∈ tl, q ∈ tl3) → Tr g f (Rep g) (eval t f.env) tl3 H3 (R4 q))
    (ho2 : ∀ p q H2 tl2 a b, (∀ q ∈ tl, q ∈ tl2) → Rep g tl2 a p → Rep g tl2 b q → R4 p q H2 → Tr g f (Rep g) (compareOp op2 a b) tl2 H2 (asBool R))
    (hm : lastMarks [op, op2] [r, t] = false) :
    Tr g f RepB (isTrue (.Compare l [op, op2] [r, t] pos) f.env whole) tl H R := fun s hs Q S k => by
  refine isTrue_chain (hl s hs _ S fun p H1 a h1 tk1 tl1 hs1 r1 m1 S1 ra => ?_) hm
  refine test_link (hr p H1 tl1 r1 m1 _ hs1 _ S1 fun q H2 b h2 tk2 tl2 hs2 r2 m2 S2 rb => ?_)
  refine ho p q H2 tl2 a b (fun z hz => m2 _ (m1 _ hz)) (ra.mono m2) rb r2 _ hs2 _ S2 fun y H3 v h3 tk3 tl3 hs3 ry m3 S3 rv => ?_
  obtain ⟨c, rfl, hc⟩ := rep_bool ry rv
  refine wpAny_truthy_bool ?_
  have mm : ∀ z ∈ tl, z ∈ tl3 := fun z hz => m3 _ (m2 _ (m1 _ hz))
  cases c with
  | false => exact k false H3 false h3 tk3 tl3 hs3 (hf q H3 hc) mm S3 rfl
  | true =>
    rw [if_pos rfl]
    refine test_last (ht q H3 tl3 hc mm _ hs3 _ S3 fun t' H4 w h4 tk4 tl4 hs4 r4 m4 S4 rw' => ?_)
    refine ho2 q t' H4 tl4 b w (fun z hz => m4 _ (mm _ hz)) ((rb.mono m3).mono m4) rw' r4 _ hs4 _ S4 fun y5 H5 v5 h5 tk5 tl5 hs5 ry5 m5 S5 rv5 => ?_
    obtain ⟨c5, rfl, hc5⟩ := rep_bool ry5 rv5
    exact wpAny_truthy_bool (k c5 H5 c5 h5 tk5 tl5 hs5 hc5 (fun z hz => m5 _ (m4 _ (mm _ hz))) S5 rfl)

theorem tr_tNot {x : PySem.Expr} {pos : Pos} {whole : Sem Value} (h : Tr g f RepB (isTrue x f.env (eval x f.env)) tl H (fun c H1 => R (!c) H1)) : Tr g f RepB (isTrue (.UnaryOp .Not x pos) f.env whole) tl H R := fun s hs Q S k =>
  wpAny_isTrue_Not (h s hs _ S fun c H1 c' h1 tk1 tl1 hs1 r1 m1 S1 rb => by cases rb; exact k (!c) H1 (!c) h1 tk1 tl1 hs1 r1 m1 S1 rfl)

theorem tr_tOr {x y : PySem.Expr} {pos : Pos} {whole : Sem Value} {R1 : Bool → Sto → Prop} (h : Tr g f RepB (isTrue x f.env (eval x f.env)) tl H R1) (ht : ∀ H1, R1 true H1 → R true H1)
    (hf : ∀ H1 tl1, R1 false H1 → (∀ q ∈ tl, q ∈ tl1) → Tr g f RepB (isTrue y f.env (eval y f.env)) tl1 H1 R) : Tr g f RepB (isTrue (.BoolOp .Or [x, y] pos) f.env whole) tl H R := fun s hs Q S k => by
  refine wpAny_isTrue_BoolOp (wpAny_allTrue_Or_cons (h s hs _ S fun c H1 c' h1 tk1 tl1 hs1 r1 m1 S1 rb => ?_))
  cases rb
  cases c with
  | true => exact k true H1 true h1 tk1 tl1 hs1 (ht H1 r1) m1 S1 rfl
  | false =>
    rw [if_neg Bool.false_ne_true]
    refine wpAny_allTrue_Or_cons (hf H1 tl1 r1 m1 _ hs1 _ S1 fun c2 H2 c2' h2 tk2 tl2 hs2 r2 m2 S2 rb2 => ?_)
    cases rb2
    have fin := k c2 H2 c2 h2 tk2 tl2 hs2 r2 (fun z hz => m2 _ (m1 _ hz)) S2 rfl
    cases c2 with
    | true => exact fin
    | false => exact wpAny_allTrue_Or_nil fin
theorem tr_tAnd {x y : PySem.Expr} {pos : Pos} {whole : Sem Value} {R1 : Bool → Sto → Prop} (h : Tr g f RepB (isTrue x f.env (eval x f.env)) tl H R1) (hf : ∀ H1, R1 false H1 → R false H1)
    (ht : ∀ H1 tl1, R1 true H1 → (∀ q ∈ tl, q ∈ tl1) → Tr g f RepB (isTrue y f.env (eval y f.env)) tl1 H1 R) : Tr g f RepB (isTrue (.BoolOp .And [x, y] pos) f.env whole) tl H R := fun s hs Q S k => by
  refine wpAny_isTrue_BoolOp (wpAny_allTrue_And_cons (h s hs _ S fun c H1 c' h1 tk1 tl1 hs1 r1 m1 S1 rb => ?_))
  cases rb
  cases c with
  | false => exact k false H1 false h1 tk1 tl1 hs1 (hf H1 r1) m1 S1 rfl
  | true =>
    rw [if_pos rfl]
    refine wpAny_allTrue_And_cons (ht H1 tl1 r1 m1 _ hs1 _ S1 fun c2 H2 c2' h2 tk2 tl2 hs2 r2 m2 S2 rb2 => ?_)
    cases rb2
    have fin := k c2 H2 c2 h2 tk2 tl2 hs2 r2 (fun z hz => m2 _ (m1 _ hz)) S2 rfl
    cases c2 with
    | false => exact fin
    | true => exact wpAny_allTrue_And_nil fin
theorem tr_tCall {fn : PySem.Expr} {as : List PySem.Expr} {ks : List Keyword} {pos : Pos} (h : Tr g f (Rep g) (eval (.Call fn as ks pos) f.env) tl H (asBool R)) : Tr g f RepB (isTrue (.Call fn as ks pos) f.env (eval (.Call fn as ks pos) f.env)) tl H R := fun s hs Q S k =>
  wpAny_isTrue_value (h s hs _ S fun p H1 v h1 tk1 tl1 hs1 r1 m1 S1 rv => by
    obtain ⟨c, rfl, hc⟩ := rep_bool r1 rv
    exact wpAny_truthy_bool (k c H1 c h1 tk1 tl1 hs1 hc m1 S1 rfl)) rfl

theorem tr_IfExp {t x y : PySem.Expr} {pos : Pos} {R : PV → Sto → Prop} {R1 : Bool → Sto → Prop} (h : Tr g f RepB (isTrue t f.env (eval t f.env)) tl H R1)
    (hx : ∀ H1 tl1, R1 true H1 → (∀ q ∈ tl, q ∈ tl1) → Tr g f (Rep g) (eval x f.env) tl1 H1 R) (hy : ∀ H1 tl1, R1 false H1 → (∀ q ∈ tl, q ∈ tl1) → Tr g f (Rep g) (eval y f.env) tl1 H1 R) : Tr g f (Rep g) (eval (.IfExp t x y pos) f.env) tl H R := fun s hs Q S k => by
  refine wpAny_IfExp (h s hs _ S fun c H1 c' h1 tk1 tl1 hs1 r1 m1 S1 rb => ?_)
  cases rb
  cases c with
  | true => exact hx H1 tl1 r1 m1 _ hs1 _ S1 fun p H2 v h2 tk2 tl2 hs2 r2 m2 S2 rv => k p H2 v h2 tk2 tl2 hs2 r2 (fun z hz => m2 _ (m1 _ hz)) S2 rv
  | false => exact hy H1 tl1 r1 m1 _ hs1 _ S1 fun p H2 v h2 tk2 tl2 hs2 r2 m2 S2 rv => k p H2 v h2 tk2 tl2 hs2 r2 (fun z hz => m2 _ (m1 _ hz)) S2 rv

/-! methods of a list that a name holds -/
theorem tr_meth1 {x m : Str} {id : String} {e : PySem.Expr} {px ap pos : Pos} {R : PV → Sto → Prop} {R0 : PV → Sto → Prop} {R1 : PV → PV → Sto → Prop} (slot : Slot "list" m id) (hty : typeOf (.builtin id) = pure (.type "method_descriptor"))
    (hline : (ap.endLine == pos.line) = true) (hn : notStar e = true) (hv : Tr g f (Rep g) (eval (.Name x px) f.env) tl H R0) (hl : ∀ p H1, R0 p H1 → ∃ a ds, p = .ref a ∧ (a, ds) ∈ H1)
    (ha : ∀ p H1 tl1, R0 p H1 → (∀ q ∈ tl, q ∈ tl1) → Tr g f (Rep g) (eval e f.env) tl1 H1 (R1 p))
    (hc : ∀ a q H2 tl2 v, R1 (.ref a) q H2 → (∀ q ∈ tl, q ∈ tl2) → Rep g tl2 v q → Tr g f (Rep g) (call (.builtin id) [.ref a, v]) tl2 H2 R) :
    Tr g f (Rep g) (eval (.Call (.Attribute (.Name x px) m ap) [e] [] pos) f.env) tl H R := fun s hs Q S k => by
  refine wpAny_Call_method_lateS rfl ?_ hline (hv s hs _ S fun p H1 v h1 tk1 tl1 hs1 r1 m1 S1 rv => ?_)
  · rw [starEach_cons hn]; rfl
  obtain ⟨a, ds, rfl, hm⟩ := hl p H1 r1
  cases rv
  obtain ⟨vs, n, m2, da, il⟩ := S1.isList hm
  have ho := (S1.nw _ m2).1
  refine ⟨"list", id, PySem.F.plainAttrs_list, slot, hty, ⟨_, ho, rfl⟩, fun c e => by cases e; exact ⟨_, ho, rfl⟩, ?_⟩
  refine PyProof.Rows.callWith_method1 ?_ (starEach_cons hn) rfl
  have T : Tr g f (RepA g) (spliced (backTo pos (starEach [e] f.env))) tl1 H1 (fun ps H2 => ∃ q, ps = [q] ∧ R1 (.ref a) q H2) :=
    tr_items_cons hn (ha _ H1 tl1 r1 m1) (fun q H2 tl2 r2 _ => tr_items_nil (R := fun ps H3 => ps = [] ∧ R1 (.ref a) q H3) ⟨rfl, r2⟩) fun q ps H2 hh => ⟨q, by rw [hh.1], hh.2⟩
  refine T _ hs1 _ S1 fun ps H2 vs h2 tk2 tl2 hs2 r2 mm2 S2 ra => ?_
  obtain ⟨q, rfl, hq⟩ := r2
  cases ra with
  | @cons v _ _ _ rv rest =>
    cases rest
    have mm : ∀ z ∈ tl, z ∈ tl2 := fun z hz => mm2 _ (m1 _ hz)
    exact hc a q H2 tl2 v hq mm rv _ hs2 _ S2 fun y H' u h' tk tl' hs' ry m' S' ru => k y H' u h' tk tl' hs' ry (fun z hz => m' _ (mm _ hz)) S' ru

theorem tr_meth0 {x m : Str} {id : String} {px ap pos : Pos} {R : PV → Sto → Prop} {R0 : PV → Sto → Prop} (slot : Slot "list" m id) (hty : typeOf (.builtin id) = pure (.type "method_descriptor"))
    (hline : (ap.endLine == pos.line) = true) (hv : Tr g f (Rep g) (eval (.Name x px) f.env) tl H R0) (hl : ∀ p H1, R0 p H1 → ∃ a ds, p = .ref a ∧ (a, ds) ∈ H1)
    (hc : ∀ a H2 tl2, R0 (.ref a) H2 → (∀ q ∈ tl, q ∈ tl2) → Tr g f (Rep g) (call (.builtin id) [.ref a]) tl2 H2 R) :
    Tr g f (Rep g) (eval (.Call (.Attribute (.Name x px) m ap) [] [] pos) f.env) tl H R := fun s hs Q S k => by
  refine wpAny_Call_method_lateS rfl rfl hline (hv s hs _ S fun p H1 v h1 tk1 tl1 hs1 r1 m1 S1 rv => ?_)
  obtain ⟨a, ds, rfl, hm⟩ := hl p H1 r1
  cases rv
  obtain ⟨vs, n, m2, da, il⟩ := S1.isList hm
  have ho := (S1.nw _ m2).1
  refine ⟨"list", id, PySem.F.plainAttrs_list, slot, hty, ⟨_, ho, rfl⟩, fun c e => by cases e; exact ⟨_, ho, rfl⟩, ?_⟩
  refine PyProof.Rows.callWith_method0 ?_
  exact hc a H1 tl1 r1 m1 _ hs1 _ S1 fun y H' u h' tk tl' hs' ry m' S' ru => k y H' u h' tk tl' hs' ry (fun z hz => m' _ (m1 _ hz)) S' ru
end
end Mine
end

section
namespace Mine
open PySem.Calls

noncomputable abbrev Spec := List PV → Sto → (PV → Sto → Prop) → Prop

noncomputable def FnOk (g : Gl) (x : Str) (k : Nat) (S : Spec) : Prop := ∃ fa o fd, nsIn g.K mainGlobals x = some (some (.ref fa)) ∧ g.K.lookup fa = some o ∧ o.data = .func fd ∧
  ∀ (f : Fx) (d : Nat), Cx g true d f.A f.env f.h₀ → k < d → ∀ tl H vs ps R, RepA g tl vs ps → S ps H R → Tr g f (Rep g) (call (.ref fa) vs) tl H R

/-! the cells of a new frame -/
theorem cf_mem : ∀ (names : List (Str × NameKind)) (n : Nat) (acc : List (Str × Addr)) (x : Str) (c : Addr), (x, c) ∈ cellsFrom n names acc → (x, c) ∈ acc ∨ (n ≤ c ∧ (x, NameKind.cell) ∈ names)
  | [], _, _, _, _, h => .inl h
  | (y, k) :: r, n, acc, x, c, h => by
    unfold cellsFrom at h
    by_cases hk : (k == NameKind.cell) = true
    · rw [if_pos hk] at h
      rcases cf_mem r (n + 1) _ x c h with h | ⟨h1, h2⟩
      · rcases List.mem_cons.mp h with e | h
        · cases e
          exact .inr ⟨Nat.le_refl _, by rw [beq_iff_eq.mp hk]; exact .head _⟩
        · exact .inl h
      · exact .inr ⟨Nat.le_of_succ_le h1, .tail _ h2⟩
    · rw [if_neg hk] at h
      rcases cf_mem r n acc x c h with h | ⟨h1, h2⟩
      · exact .inl h
      · exact .inr ⟨h1, .tail _ h2⟩
theorem cf_nodup : ∀ (names : List (Str × NameKind)) (n : Nat) (acc : List (Str × Addr)), (acc.map (·.2)).Nodup → (∀ p ∈ acc, @LT.lt Nat _ p.2 n) → ((cellsFrom n names acc).map (·.2)).Nodup
  | [], _, _, h, _ => h
  | (y, k) :: r, n, acc, h, ha => by
    unfold cellsFrom
    by_cases hk : (k == NameKind.cell) = true
    · rw [if_pos hk]
      refine cf_nodup r (n + 1) _ ?_ ?_
      · rw [List.map_cons, List.nodup_cons]
        refine ⟨fun hm => ?_, h⟩
        obtain ⟨p, hp, e⟩ := List.mem_map.mp hm
        have := ha p hp
        have e' : @Eq Nat p.2 n := e
        omega
      · intro p hp
        rcases List.mem_cons.mp hp with rfl | hp
        · exact Nat.lt_succ_self n
        · exact Nat.lt_succ_of_lt (ha p hp)
    · rw [if_neg hk]
      exact cf_nodup r n acc h ha
theorem lookup_mem {β : Type} {x : Str} {c : β} : ∀ {l : List (Str × β)}, l.lookup x = some c → (x, c) ∈ l
  | [], h => by cases h
  | (y, v) :: r, h => by
    rw [List.lookup_cons] at h
    by_cases hy : x = y
    · subst hy
      rw [beq_self_eq_true] at h
      cases h
      exact .head _
    · rw [beq_eq_false_iff_ne.mpr hy] at h
      exact .tail _ (lookup_mem h)
theorem nodup_inj {l : List (Str × Addr)} (h : (l.map (·.2)).Nodup) {x y : Str} {c : Addr} (hx : (x, c) ∈ l) (hy : (y, c) ∈ l) : x = y := by
  induction l with
  | nil => cases hx
  | cons p r ih =>
    rw [List.map_cons, List.nodup_cons] at h
    rcases List.mem_cons.mp hx with e1 | hx
    · rcases List.mem_cons.mp hy with e2 | hy
      · rw [← e1] at e2; exact (congrArg Prod.fst e2).symm
      · exact absurd (List.mem_map.mpr ⟨_, hy, rfl⟩) (by rw [← e1] at h; exact h.1)
    · rcases List.mem_cons.mp hy with e2 | hy
      · exact absurd (List.mem_map.mpr ⟨_, hx, rfl⟩) (by rw [← e2] at h; exact h.1)
      · exact ih h.2 hx hy
theorem cells_keys {cm : Str → Option Value} {cs : List (Str × Addr)} {cells : Led} (h : CellsAre cm cs cells) : cells.map (·.1) = cs.map (·.2) := by
  induction h with
  | nil => rfl
  | cons _ _ ih => rw [List.map_cons, List.map_cons, ih]
theorem cells_at {cm : Str → Option Value} {cs : List (Str × Addr)} {cells : Led} (h : CellsAre cm cs cells) {x : Str} {c : Addr} (hm : (x, c) ∈ cs) : ∃ o, (c, o) ∈ cells ∧ o.data = .cell (cm x) := by
  induction h with
  | nil => cases hm
  | cons ho _ ih =>
    rcases List.mem_cons.mp hm with e | hm
    · cases e; exact ⟨_, .head _, ho⟩
    · obtain ⟨o, h1, h2⟩ := ih hm; exact ⟨o, .tail _ h1, h2⟩

/-- the scope's names are told apart: no name is a cell and something else -/
noncomputable def scopeOk (sc : Scope) : Bool := sc.names.all fun y => y.2 != .cell || sc.names.lookup y.1 == some .cell

section
variable {g : Gl}

theorem binds_rep {tl : Led} {sc : Scope} {cells : List (Str × Addr)} (kl : ∀ x, sc.names.lookup x = some .local → cells.lookup x = none) (kc : ∀ x, sc.names.lookup x = some .cell → (cells.lookup x).isSome = true) (kind : Str → Option NameKind) (hkind : ∀ x, kind x = sc.names.lookup x) :
    ∀ (xs : List Str) (vs : List Value) (ps : List PV) (σ : Loc) (mL cm : Str → Option Value), (∀ x ∈ xs, sc.names.lookup x = some .local ∨ sc.names.lookup x = some .cell) → RepA g tl vs ps →
      LocRep g tl σ (fun x => match cells.lookup x with | some _ => cm x | none => mL x) →
      LocRep g tl ((xs.zip ps).reverse ++ σ) (fun x => match cells.lookup x with | some _ => bindC kind (xs.zip vs) cm x | none => bindL kind (xs.zip vs) mL x)
  | [], _, _, σ, mL, cm, _, _, L => L
  | x :: xs, vs, ps, σ, mL, cm, hx, ra, L => by
    cases ra with
    | nil => exact L
    | @cons v p vs ps hv hr =>
      rw [List.zip_cons_cons, List.reverse_cons, List.append_assoc]
      refine binds_rep kl kc kind hkind xs vs ps ([(x, p)] ++ σ) _ _ (fun y hy => hx y (.tail _ hy)) hr (L.cons hv fun y => ?_)
      rcases hx x (.head _) with h | h
      · have hk : kind x = some .local := (hkind x).trans h
        have hn := kl x h
        by_cases hy : y = x
        · subst hy
          simp [hn, hk]
        · cases cells.lookup y <;> simp [hk, hy]
      · have hk : ¬ kind x = some .local := by rw [hkind x, h]; decide
        obtain ⟨c, hn⟩ := Option.isSome_iff_exists.mp (kc x h)
        by_cases hy : y = x
        · subst hy
          simp [hn, hk]
        · cases cells.lookup y <;> simp [hk, hy]

theorem fnOk_of {x : Str} {k : Nat} {S : Spec} {fa : Addr} {oc : Value} {od : Option Addr} {osl : Array (Option Value)} {name qual : Str} {params : Arguments} {body : List Stmt} {sc : Scope} {dV kV doc pm cdv ct : Value} {an : Option Addr} (xs : List Str)
    (hn : nsIn g.K mainGlobals x = some (some (.ref fa))) (ho : g.K.lookup fa = some ⟨oc, od, .func (fnOf name qual params body sc dV kV doc pm an cdv ct), osl⟩) (hcd : codeIn g.K cdv qual = true)
    (hbind : ∀ vs : List Value, vs.length = xs.length → bindArgs (fnOf name qual params body sc dV kV doc pm an cdv ct) ⟨vs, []⟩ = pure (xs.zip vs))
    (hxs : ∀ y ∈ xs, sc.names.lookup y = some .local ∨ sc.names.lookup y = some .cell) (hsc : scopeOk sc = true) (hnd : ((cellsFrom 0 sc.names []).map (·.1)).Nodup)
    (hco : sc.isCoroutine = false) (hgen : sc.isGenerator = false) (hk : sc.kind = .function)
    (hlen : ∀ ps H R, S ps H R → ps.length = xs.length)
    (hv : ∀ (f : Fx) (tl : Led) (H : Sto) (ps : List PV) (R : PV → Sto → Prop), Cx g true k f.A f.env f.h₀ → f.env.scope = sc → S ps H R → TrS g f (execs body f.env) tl (xs.zip ps).reverse H (fun _ _ => False) R) :
    FnOk g x k S := by
  refine ⟨fa, _, _, hn, ho, rfl, fun f d C hkd tl H vs ps R ra hS s hs Q S k' => ?_⟩
  obtain ⟨hfr, A₀, base, outer, B, hA⟩ := C.cal rfl
  have hvl : vs.length = xs.length := by
    rw [← hlen ps H R hS]
    clear hS k'
    induction ra with
    | nil => rfl
    | cons _ _ ih => rw [List.length_cons, List.length_cons, ih]
  have XH : g.K.In s.heap := C.X.keeps S.fr.keep
  have hAd := C.hd
  have hAu := C.hu
  refine wpAny_call ?_
  refine callX_cells (binds := xs.zip vs) B S.fr S.nw C.T.nolimit hA hfr C.hk (XH _ _ ho) rfl (codeRec_of XH hcd) (by show f.A.depth < 1000; omega) (BindsTo.of_eq (hbind vs hvl)) ?_ hnd ?_ hco hgen hk
  · intro n y hy
    have hy' : y.1 ∈ xs := (List.of_mem_zip hy).1
    rcases hxs _ hy' with h | h
    · exact .inl h
    · exact .inr ⟨h, cellsFrom_some _ _ _ (.inl h)⟩
  intro gh L' h₁ tk cells FG F' N' CA B' st lts
  have kl : ∀ y, sc.names.lookup y = some .local → (cellsFrom (L' + 1) sc.names []).lookup y = none := by
    intro y hy
    cases hq : (cellsFrom (L' + 1) sc.names []).lookup y with
    | none => rfl
    | some c =>
      rcases cf_mem _ _ _ _ _ (lookup_mem hq) with h | ⟨_, h⟩
      · cases h
      · have := List.all_eq_true.mp hsc _ h
        simp [hy] at this
  have kc : ∀ y, sc.names.lookup y = some .cell → ((cellsFrom (L' + 1) sc.names []).lookup y).isSome = true := fun y hy => cellsFrom_some _ _ _ (.inl hy)
  have cge : ∀ q ∈ cells, @LT.lt Nat _ L' q.1 := by
    intro q hq
    have hk9 := cells_keys CA
    have : q.1 ∈ cells.map (·.1) := List.mem_map_of_mem hq
    rw [hk9] at this
    obtain ⟨p, hp, e⟩ := List.mem_map.mp this
    obtain ⟨py, pc⟩ := p
    rcases cf_mem _ _ _ _ _ hp with h | ⟨h, _⟩
    · cases h
    · have e' : @Eq Nat pc q.1 := e
      have h' : @LE.le Nat _ (L' + 1) pc := h
      omega
  let env' : Env := envOfC qual sc L' fa cdv
  let f' : Fx := ⟨f.A.deeper env', env', gh, bindL env'.kindOf (xs.zip vs) fun _ => none, bindC env'.kindOf (xs.zip vs) fun _ => none, cells, f.fz ++ f.cl⟩
  have S' : f'.St h₁ tl H hs := by
    have apc : ∀ q ∈ hs ++ (tl ++ (f.fz ++ f.cl)), ∀ c ∈ cells, q.1 ≠ c.1 := fun q hq c hc e => by
      have l1 : @LT.lt Nat _ q.1 L' := lts q hq
      have l2 := cge c hc
      have e' : @Eq Nat q.1 c.1 := e
      omega
    refine ⟨F', fun p hp => ?_, S.ls, S.hd, ?_, fun p hp q hq => ?_, fun p hp q hq => ?_, fun p hp q hq => ?_, fun y c hy => ?_, fun y z c hy hz => ?_⟩
    · refine N' p ?_
      show p ∈ cells ++ (hs ++ (tl ++ (f.fz ++ f.cl)))
      have hp' : p ∈ hs ++ (tl ++ ((f.fz ++ f.cl) ++ cells)) := hp
      simp only [List.mem_append] at hp' ⊢
      rcases hp' with hp | hp | (hp | hp) | hp <;> simp [hp]
    · show (cells.map (·.1)).Nodup
      rw [cells_keys CA]
      exact cf_nodup _ _ _ List.nodup_nil (fun _ h => by cases h)
    · have hq' : q ∈ tl ++ ((f.fz ++ f.cl) ++ cells) := hq
      have : q ∈ tl ++ (f.fz ++ f.cl) ∨ q ∈ cells := by
        simp only [List.mem_append] at hq' ⊢
        rcases hq' with hq | (hq | hq) | hq <;> simp [hq]
      rcases this with h | h
      · exact S.hr p hp q h
      · exact apc p (List.mem_append_left _ hp) q h
    · have hq' : q ∈ (f.fz ++ f.cl) ++ cells := hq
      rcases List.mem_append.mp hq' with h | h
      · exact S.tr p hp q h
      · exact apc p (List.mem_append_right _ (List.mem_append_left _ hp)) q h
    · exact apc p (List.mem_append_right _ (List.mem_append_right _ hp)) q hq
    · exact cells_at CA (lookup_mem hy)
    · exact nodup_inj (cf_nodup sc.names (L' + 1) [] List.nodup_nil (fun _ h => by cases h)) (lookup_mem hy) (lookup_mem hz)
  have C' : Cx g true k f'.A f'.env f'.h₀ :=
    { X := C.X.keeps st
      T := C.T.keeps st
      hh := C.hh
      hd := by show f.A.depth + 1 + k ≤ 850; omega
      hu := by show f.A.units + 3 + 4 * k ≤ 9000; omega
      hk := hk
      hg := rfl
      hb := rfl
      seer := .inr trivial
      scr := let ⟨o, h1, h2, n, h3⟩ := C.scr; ⟨o, st _ _ h1, h2, n, h3⟩
      scI := C.scI
      scL := C.scL
      fr := ⟨env', f.env :: outer, Around.frames_deeper hA, hgen, hco, rfl, rfl⟩
      cal := fun _ => ⟨rfl, f.A, base, f.env :: outer, B', Around.frames_deeper hA⟩
      tree := C.tree
      noImp := C.noImp
      kl := kl
      kc := kc }
  have L0 : LocRep g tl (xs.zip ps).reverse f'.comb := by
    have := binds_rep (g := g) (tl := tl) (sc := sc) kl kc env'.kindOf (fun _ => rfl) xs vs ps [] (fun _ => none) (fun _ => none) hxs ra (fun _ _ h => by cases h)
    rw [List.append_nil] at this
    exact this
  refine wpAny_noRaise (hv f' tl H ps R C' rfl hS { s with heap := h₁, toks := tk } hs _ S' L0 (fun σ' H' mL' cm' cl' h' tk' tl' hs' r m c S2 L2 => r.elim) (fun p H' mL' cm' cl' v h' tk' tl' hs' r m c S2 rv => ?_))
  refine leaveK_ (news' := hs' ++ (tl' ++ (f.fz ++ f.cl))) S2.fr (fun q hq => S2.nw q ?_) fun F3 N3 => ?_
  · show q ∈ hs' ++ (tl' ++ ((f.fz ++ f.cl) ++ cl'))
    simp only [List.mem_append] at hq ⊢
    rcases hq with hq | hq | hq | hq <;> simp [hq]
  · refine k' p H' v h' tk' tl' hs' r m ?_ rv
    refine ⟨F3, N3, S2.ls, S2.hd, S.cd, fun a ha q hq => S2.hr a ha q ?_, fun a ha q hq => S2.tr a ha q (List.mem_append_left _ hq), S.fc, S.ca, S.ci⟩
    show q ∈ tl' ++ ((f.fz ++ f.cl) ++ cl')
    simp only [List.mem_append] at hq ⊢
    rcases hq with hq | hq | hq <;> simp [hq]
end
end Mine
end

section
namespace Mine
open PySem.Calls

/-! comprehensions -/
noncomputable def clos (cells : List (Str × Addr)) : List (Str × NameKind) → List (Str × Addr) → Option (List (Str × Addr))
  | [], acc => some acc
  | (n, k) :: r, acc => if (k == NameKind.free) = true then (match cells.lookup n with
      | some c => clos cells r ((n, c) :: acc)
      | none => none) else clos cells r acc

theorem clos_for (env : Env) : ∀ (names : List (Str × NameKind)) (acc cl : List (Str × Addr)), clos env.cells names acc = some cl →
    (forIn names acc fun (x : Str × NameKind) (cs : List (Str × Addr)) => (if (x.2 == NameKind.free) = true then do let c ← cellOf env x.1; pure (ForInStep.yield ((x.1, c) :: cs)) else pure (ForInStep.yield cs) : Sem (ForInStep (List (Str × Addr))))) = pure cl
  | [], acc, cl, h => by cases h; rfl
  | (n, k) :: r, acc, cl, h => by
    unfold clos at h
    rw [List.forIn_cons]
    by_cases hk : (k == NameKind.free) = true
    · rw [if_pos hk] at h
      cases hc : env.cells.lookup n with
      | none => rw [hc] at h; cases h
      | some c =>
        rw [hc] at h
        have e : cellOf env n = pure c := by unfold cellOf; rw [hc]
        simp only [hk, if_true, e, pure_bind]
        exact clos_for env r _ cl h
    · rw [if_neg hk] at h
      simp only [hk, if_false, pure_bind]
      exact clos_for env r acc cl h
theorem closureFor_of {scope : Scope} {env : Env} {cl : List (Str × Addr)} (h : clos env.cells scope.names [] = some cl) : closureFor scope env = pure cl := by
  unfold closureFor
  have q := clos_for env scope.names [] cl h
  first
  | (rw [← q]; rfl)
  | (simp only [q]; rfl)
  | (refine Eq.trans ?_ q
     simp only [bind_pure]
     congr 1
     funext x cs
     obtain ⟨n, k⟩ := x
     by_cases hk : (k == NameKind.free) = true
     · simp [hk]
     · simp [hk])
theorem clos_in {cells : List (Str × Addr)} : ∀ (names : List (Str × NameKind)) (acc cl : List (Str × Addr)), clos cells names acc = some cl → ∀ x c, (x, c) ∈ cl → (x, c) ∈ acc ∨ (cells.lookup x = some c ∧ (x, NameKind.free) ∈ names)
  | [], acc, cl, h, x, c, hm => by cases h; exact .inl hm
  | (n, k) :: r, acc, cl, h, x, c, hm => by
    unfold clos at h
    by_cases hk : (k == NameKind.free) = true
    · rw [if_pos hk] at h
      cases hc : cells.lookup n with
      | none => rw [hc] at h; cases h
      | some c' =>
        rw [hc] at h
        rcases clos_in r _ cl h x c hm with q | ⟨q1, q2⟩
        · rcases List.mem_cons.mp q with e | q
          · cases e
            exact .inr ⟨hc, by rw [beq_iff_eq.mp hk]; exact .head _⟩
          · exact .inl q
        · exact .inr ⟨q1, .tail _ q2⟩
    · rw [if_neg hk] at h
      rcases clos_in r _ cl h x c hm with q | ⟨q1, q2⟩
      · exact .inl q
      · exact .inr ⟨q1, .tail _ q2⟩
theorem clos_has {cells : List (Str × Addr)} {x : Str} : ∀ (names : List (Str × NameKind)) (acc cl : List (Str × Addr)), clos cells names acc = some cl → ((acc.lookup x).isSome = true ∨ (x, NameKind.free) ∈ names) → (cl.lookup x).isSome = true
  | [], acc, cl, h, hx => by
    cases h
    rcases hx with h | h
    · exact h
    · cases h
  | (n, k) :: r, acc, cl, h, hx => by
    unfold clos at h
    by_cases hk : (k == NameKind.free) = true
    · rw [if_pos hk] at h
      cases hc : cells.lookup n with
      | none => rw [hc] at h; cases h
      | some c' =>
        rw [hc] at h
        refine clos_has r _ cl h ?_
        by_cases hxn : x = n
        · subst hxn; left; rw [List.lookup_cons, beq_self_eq_true]; rfl
        · rcases hx with h | h
          · left; rw [List.lookup_cons, beq_eq_false_iff_ne.mpr hxn]; exact h
          · rcases List.mem_cons.mp h with e | h
            · cases e; exact absurd rfl hxn
            · exact .inr h
    · rw [if_neg hk] at h
      refine clos_has r _ cl h ?_
      rcases hx with h | h
      · exact .inl h
      · rcases List.mem_cons.mp h with e | h
        · cases e; exact absurd rfl hk
        · exact .inr h
theorem clos_some {cells : List (Str × Addr)} : ∀ (names : List (Str × NameKind)) (acc : List (Str × Addr)), (∀ x, (x, NameKind.free) ∈ names → (cells.lookup x).isSome = true) → ∃ cl, clos cells names acc = some cl
  | [], acc, _ => ⟨acc, rfl⟩
  | (n, k) :: r, acc, h => by
    unfold clos
    by_cases hk : (k == NameKind.free) = true
    · rw [if_pos hk]
      obtain ⟨c, hc⟩ := Option.isSome_iff_exists.mp (h n (by rw [← beq_iff_eq.mp hk]; exact .head _))
      rw [hc]
      exact clos_some r _ fun x hx => h x (.tail _ hx)
    · rw [if_neg hk]
      exact clos_some r acc fun x hx => h x (.tail _ hx)

noncomputable def compOk (scope fsc : Scope) : Bool :=
  (scope.names.all fun y => y.2 != .cell) && scope.kind == .function && (scope.names.all fun y => y.2 != .local || scope.names.lookup y.1 == some .local) && (scope.names.all fun y => y.2 != .free || (fsc.names.lookup y.1 == some .cell && scope.names.lookup y.1 == some .free))

theorem lookup_map_kind {fn : Str × NameKind → NameKind} {x : Str} {k : NameKind} : ∀ {l : List (Str × NameKind)}, (l.map fun y => (y.1, fn y)).lookup x = some k → ∃ k0, l.lookup x = some k0 ∧ (x, k0) ∈ l ∧ fn (x, k0) = k
  | [], h => by cases h
  | (n, k1) :: r, h => by
    rw [List.map_cons, List.lookup_cons] at h
    rw [List.lookup_cons]
    by_cases hx : x = n
    · subst hx
      rw [beq_self_eq_true] at h ⊢
      cases h
      exact ⟨k1, rfl, .head _, rfl⟩
    · rw [beq_eq_false_iff_ne.mpr hx] at h ⊢
      obtain ⟨k0, a, b, c⟩ := lookup_map_kind h
      exact ⟨k0, a, .tail _ b, c⟩

theorem relabel_look {scope : Scope} {env : Env} {x : Str} {k : NameKind} (h : (relabel scope env).names.lookup x = some k) : ∃ k0, scope.names.lookup x = some k0 ∧ (x, k0) ∈ scope.names ∧ (if (k0 == .free && env.scope.kind == .function && env.kindOf x == some .cell) = true then NameKind.cell else k0) = k := by
  have e : (relabel scope env).names = scope.names.map fun y => (y.1, if (y.2 == .free && env.scope.kind == .function && env.kindOf y.1 == some .cell) = true then NameKind.cell else y.2) := by
    show scope.names.map _ = _
    apply List.map_congr_left
    rintro ⟨n, k⟩ _
    dsimp only
    split <;> rfl
  rw [e] at h
  exact lookup_map_kind h

section
variable {prog : Program} {w : World} {A : Around}
noncomputable abbrev testsTree (ifs : List PySem.Expr) (env : Env) : Sem Bool := forIn ifs true fun c r => if r = true then do let ok ← isTrue c env (eval c env); pure (ForInStep.yield ok) else pure (ForInStep.yield r)

theorem cg_loop {elt target iter : PySem.Expr} {ifs : List PySem.Expr} {scope : Scope} {pos : Pos} {it acc : Value} {env : Env} {R : Result → Shared → Prop} (I : Nat → Shared → Prop)
    (turn : ∀ n s, I n s → wpAny (model prog w) A (pyNext it) (fun r s₁ => match r with
      | none => R (.ok .next) s₁
      | some v => wpAny (model prog w) A (letOwnedTupleGo target it v) (fun _ s₀ => wpAny (model prog w) A (assign target env v) (fun _ s₂ =>
          wpAny (model prog w) A (testsTree ifs env) (fun ok s₃ => if ok = true then wpAny (model prog w) A (eval elt env) (fun x s₄ =>
            wpAny (model prog w) A (call (.builtin "list.append") [acc, x]) (fun _ s₅ => ∃ m, m < n ∧ I m s₅) (fun _ _ => False) s₄) (fun _ _ => False) s₃
            else ∃ m, m < n ∧ I m s₃) (fun _ _ => False) s₂) (fun _ _ => False) s₀) (fun _ _ => False) s₁) (fun _ _ => False) s)
    (n : Nat) {s : Shared} (h : I n s) : codeAny (model prog w) A (.compLoop (.ListComp elt [⟨target, iter, ifs, 0⟩] scope pos) 0 it acc env) R s := by
  refine codeAny_loop rfl I (fun n s hI => ?_) n h
  show wpAny _ A ((compTurn (.ListComp elt [⟨target, iter, ifs, 0⟩] scope pos) 0 it acc env).onRaise (fun x => do noteFrame x env; theTreesLotGoes x)) _ _ s
  refine wpAny_noted (wpAny_noRaise ?_)
  rw [compTurn_list]
  refine wpAny_bind (wpAny_standAt (wpAny_bind (wpAny_mono (turn n s hI) (fun r s₁ h₁ => ?_) fun _ _ h' => h')))
  cases r with
  | none => exact wpAny_pure h₁
  | some v =>
    refine wpAny_bind (wpAny_mono h₁ (fun _ s₀ h₀' => ?_) fun _ _ h' => h')
    refine wpAny_bind (wpAny_mono h₀' (fun _ s₂ h₂ => ?_) fun _ _ h' => h')
    refine wpAny_bind (wpAny_mono h₂ (fun okb s₃ h₃ => ?_) fun _ _ h' => h')
    cases okb with
    | false => exact wpAny_pure ⟨rfl, h₃⟩
    | true => exact wpAny_bind (wpAny_bind (wpAny_mono h₃ (fun x s₄ h₄ => wpAny_bind (wpAny_mono h₄ (fun _ s₅ h₅ => wpAny_pure (wpAny_pure ⟨rfl, h₅⟩)) fun _ _ h' => h')) fun _ _ h' => h'))
end
end Mine
end

section
namespace Mine
open PySem.Calls

noncomputable def pickD (keep : Dat → Bool) (val : Dat → Dat) (e : Dat) : Option Dat := if keep e = true then some (val e) else none

/-- the comprehension's own frame, seen from the def's -/
noncomputable abbrev Fx.comp (f : Fx) (scope : Scope) (cl' : List (Str × Addr)) (C : Addr) (m : Str → Option Value) (fz : Led) : Fx := { f with env := compEnvC scope cl' C f.env, mL := m, fz := fz }

section
variable {g : Gl} {f : Fx} {tl : Led} {H : Sto} {d : Nat} {b : Bool} {σ : Loc}

theorem Cx.comp (C : Cx g b d f.A f.env f.h₀) {scope : Scope} {cl' : List (Str × Addr)} {Ca : Addr} (ho : compOk scope f.env.scope = true) (hc : clos f.env.cells scope.names [] = some cl') : Cx g false d f.A (compEnvC scope cl' Ca f.env) f.h₀ := by
  unfold compOk at ho
  simp only [Bool.and_eq_true] at ho
  obtain ⟨⟨⟨o1, o2⟩, o3⟩, o4⟩ := ho
  refine { C with hk := beq_iff_eq.mp o2, hg := C.hg, hb := C.hb, cal := (fun h => by cases h), kl := fun x hx => ?_, kc := fun x hx => ?_ }
  · obtain ⟨k0, h1, h2, h3⟩ := relabel_look hx
    show cl'.lookup x = none
    cases hq : cl'.lookup x with
    | none => rfl
    | some c =>
      rcases clos_in _ _ _ hc x c (lookup_mem hq) with q | ⟨_, q⟩
      · cases q
      · have := List.all_eq_true.mp o4 _ q
        simp only [bne_self_eq_false, Bool.false_or, Bool.and_eq_true, beq_iff_eq] at this
        rw [this.2] at h1
        cases h1
        have hkf : f.env.kindOf x = some .cell := this.1
        rw [hkf, C.hk] at h3
        cases h3
  · obtain ⟨k0, h1, h2, h3⟩ := relabel_look hx
    show (cl'.lookup x).isSome = true
    refine clos_has _ _ _ hc (.inr ?_)
    by_cases hk : k0 = .free
    · rw [← hk]; exact h2
    · have : ¬ (k0 == NameKind.free && f.env.scope.kind == .function && f.env.kindOf x == some .cell) = true := by
        intro q
        simp only [Bool.and_eq_true, beq_iff_eq] at q
        exact hk q.1.1
      rw [if_neg this] at h3
      have q := List.all_eq_true.mp o1 _ h2
      rw [h3] at q
      simp at q

theorem filter_lookup {P : Str → Bool} {x : Str} {p : PV} : ∀ {σ : Loc}, (σ.filter fun q => P q.1).lookup x = some p → σ.lookup x = some p ∧ P x = true
  | [], h => by cases h
  | (y, q) :: r, h => by
    rw [List.filter_cons] at h
    by_cases hy : P y = true
    · rw [if_pos hy] at h
      rw [List.lookup_cons] at h ⊢
      by_cases hx : x = y
      · subst hx
        rw [beq_self_eq_true] at h ⊢
        exact ⟨h, hy⟩
      · rw [beq_eq_false_iff_ne.mpr hx] at h ⊢
        exact filter_lookup h
    · rw [if_neg hy] at h
      obtain ⟨h1, h2⟩ := filter_lookup h
      rw [List.lookup_cons]
      by_cases hx : x = y
      · subst hx; exact absurd h2 hy
      · rw [beq_eq_false_iff_ne.mpr hx]
        exact ⟨h1, h2⟩

noncomputable def freeIn (scope : Scope) (x : Str) : Bool := scope.names.any fun y => y.1 == x && y.2 == .free
noncomputable def compLoc (scope : Scope) (σ : Loc) : Loc := σ.filter fun q => freeIn scope q.1

theorem compLoc_rep {scope : Scope} {cl' : List (Str × Addr)} {Ca : Addr} {m : Str → Option Value} {fz : Led} (hc : clos f.env.cells scope.names [] = some cl') (L : LocRep g tl σ f.comb) : LocRep g tl (compLoc scope σ) (f.comp scope cl' Ca m fz).comb := by
  intro x p hx
  obtain ⟨h1, h2⟩ := filter_lookup hx
  obtain ⟨v, hv, rv⟩ := L x p h1
  refine ⟨v, ?_, rv⟩
  obtain ⟨y, hy, hy2⟩ := List.any_eq_true.mp h2
  simp only [Bool.and_eq_true, beq_iff_eq] at hy2
  have hm : (x, NameKind.free) ∈ scope.names := by rw [← hy2.1, ← hy2.2]; exact hy
  obtain ⟨c, hcl⟩ := Option.isSome_iff_exists.mp (clos_has _ _ _ hc (.inr hm))
  rcases clos_in _ _ _ hc x c (lookup_mem hcl) with q | ⟨q, _⟩
  · cases q
  · unfold Fx.comb at hv ⊢
    rw [q] at hv
    show (match cl'.lookup x with | some _ => f.cm x | none => m x) = some v
    rw [hcl]
    exact hv

/-- into the comprehension's frame -/
theorem St.intoComp {h : Heap} {hs : Led} {scope : Scope} {cl' : List (Str × Addr)} {m : Str → Option Value} {Ca : Addr} {oL : Obj} (hc : clos f.env.cells scope.names [] = some cl') (S : f.St h tl H hs) (hCa : ∀ p ∈ hs ++ (tl ++ (f.fz ++ f.cl)), p.1 ≠ Ca) (hCL : Ca ≠ f.env.locals) (hns : h.Ns Ca m) (hab : f.h₀.objs.size ≤ Ca) (hL : h.get? f.env.locals = some oL) :
    (f.comp scope cl' Ca m ((f.env.locals, oL) :: f.fz)).St h tl H hs := by
  have h0L : f.h₀.get? f.env.locals = none := Heap.get?_none_of_le S.fr.above
  have apL : ∀ p ∈ hs ++ (tl ++ (f.fz ++ f.cl)), p.1 ≠ f.env.locals := fun p hp => (S.nw p hp).2.1
  refine ⟨⟨hns, S.fr.keep, hab⟩, fun p hp => ?_, S.ls, S.hd, S.cd, fun p hp q hq => ?_, fun p hp q hq => ?_, fun p hp q hq => ?_, fun x c hx => ?_, fun x y c hx hy => ?_⟩
  · have hp' : p = (f.env.locals, oL) ∨ p ∈ hs ++ (tl ++ (f.fz ++ f.cl)) := by
      have hp2 : p ∈ hs ++ (tl ++ (((f.env.locals, oL) :: f.fz) ++ f.cl)) := hp
      simp only [List.mem_append, List.mem_cons] at hp2 ⊢
      rcases hp2 with hp | hp | (hp | hp) | hp <;> simp [hp]
    rcases hp' with rfl | hp'
    · exact ⟨hL, Ne.symm hCL, h0L⟩
    · exact ⟨(S.nw p hp').1, hCa p hp', (S.nw p hp').2.2⟩
  · have hq' : q = (f.env.locals, oL) ∨ q ∈ tl ++ (f.fz ++ f.cl) := by
      have hq2 : q ∈ tl ++ (((f.env.locals, oL) :: f.fz) ++ f.cl) := hq
      simp only [List.mem_append, List.mem_cons] at hq2 ⊢
      rcases hq2 with hq | (hq | hq) | hq <;> simp [hq]
    rcases hq' with rfl | hq'
    · exact apL p (List.mem_append_left _ hp)
    · exact S.hr p hp q hq'
  · have hq' : q = (f.env.locals, oL) ∨ q ∈ f.fz ++ f.cl := by
      have hq2 : q ∈ ((f.env.locals, oL) :: f.fz) ++ f.cl := hq
      simp only [List.mem_append, List.mem_cons] at hq2 ⊢
      rcases hq2 with (hq | hq) | hq <;> simp [hq]
    rcases hq' with rfl | hq'
    · exact apL p (List.mem_append_right _ (List.mem_append_left _ hp))
    · exact S.tr p hp q hq'
  · rcases List.mem_cons.mp hp with rfl | hp
    · exact Ne.symm (apL q (List.mem_append_right _ (List.mem_append_right _ (List.mem_append_right _ hq))))
    · exact S.fc p hp q hq
  · have hx' : cl'.lookup x = some c := hx
    rcases clos_in _ _ _ hc x c (lookup_mem hx') with q | ⟨q, _⟩
    · cases q
    · exact S.ca x c q
  · have hx' : cl'.lookup x = some c := hx
    have hy' : cl'.lookup y = some c := hy
    rcases clos_in _ _ _ hc x c (lookup_mem hx') with q | ⟨q, _⟩
    · cases q
    · rcases clos_in _ _ _ hc y c (lookup_mem hy') with q2 | ⟨q2, _⟩
      · cases q2
      · exact S.ci x y c q q2

/-- out of it -/
theorem St.outComp {h h' : Heap} {hs hs' tl' fz' : Led} {H' : Sto} {scope : Scope} {cl' : List (Str × Addr)} {m' : Str → Option Value} {Ca : Addr} {oL : Obj} (S : f.St h tl H hs) (hLo : PyProof.Rows.LCg.NsObj oL f.mL) (S2 : (f.comp scope cl' Ca m' fz').St h' tl' H' hs') (hz : ∀ q ∈ (f.env.locals, oL) :: f.fz, q ∈ fz') :
    f.St h' tl' H' hs' := by
  have hin : ∀ {x : Led} {q : Addr × Obj}, q ∈ hs' ++ (tl' ++ (f.fz ++ f.cl)) → q ∈ hs' ++ (tl' ++ (fz' ++ f.cl)) := fun {x q} hq => by
    simp only [List.mem_append] at hq ⊢
    rcases hq with hq | hq | hq | hq
    · simp [hq]
    · simp [hq]
    · exact .inr (.inr (.inl (hz q (.tail _ hq))))
    · simp [hq]
  have gL := (S2.nw (f.env.locals, oL) (List.mem_append_right _ (List.mem_append_right _ (List.mem_append_left _ (hz _ (.head _)))))).1
  have hLm : (f.env.locals, oL) ∈ fz' := hz _ (.head _)
  refine ⟨⟨hLo.ns gL, S2.fr.keep, S.fr.above⟩, fun p hp => ?_, S2.ls, S2.hd, S.cd, fun p hp q hq => S2.hr p hp q ?_, fun p hp q hq => S2.tr p hp q ?_, fun p hp q hq => S2.fc p (hz p (.tail _ hp)) q hq, S.ca, S.ci⟩
  · refine ⟨(S2.nw p (hin (x := []) hp)).1, ?_, (S2.nw p (hin (x := []) hp)).2.2⟩
    rcases List.mem_append.mp hp with hp | hp
    · exact S2.hr p hp (f.env.locals, oL) (List.mem_append_right _ (List.mem_append_left _ hLm))
    · rcases List.mem_append.mp hp with hp | hp
      · exact S2.tr p hp (f.env.locals, oL) (List.mem_append_left _ hLm)
      · rcases List.mem_append.mp hp with hp | hp
        · exact (S.nw p (List.mem_append_right _ (List.mem_append_right _ (List.mem_append_left _ hp)))).2.1
        · exact (S.nw p (List.mem_append_right _ (List.mem_append_right _ (List.mem_append_right _ hp)))).2.1
  · simp only [List.mem_append] at hq ⊢
    rcases hq with hq | hq | hq
    · simp [hq]
    · exact .inr (.inl (hz q (.tail _ hq)))
    · simp [hq]
  · simp only [List.mem_append] at hq ⊢
    rcases hq with hq | hq
    · exact .inl (hz q (.tail _ hq))
    · simp [hq]
end
end Mine
end

section
namespace Mine
open PySem.Calls

section
variable {g : Gl} {f : Fx} {tl : Led} {H : Sto} {d : Nat} {b : Bool} {σ : Loc}

/-! targets that are plain locals -/
noncomputable def zipL (sc : Scope) : List PySem.Expr → List Dat → Loc → Option Loc
  | [], [], acc => some acc
  | .Name x _ :: ts, e :: ds, acc => if sc.names.lookup x = some .local then zipL sc ts ds ((x, .dat e) :: acc) else none
  | _, _, _ => none
noncomputable def tBindL (sc : Scope) : PySem.Expr → PV → Loc → Option Loc
  | .Name x _, p, acc => if sc.names.lookup x = some .local then some ((x, p) :: acc) else none
  | .Tuple ts _ _, .dat (.tuple ds), acc => zipL sc ts ds acc
  | _, _, _ => none

theorem st_storeL (C : Cx g b d f.A f.env f.h₀) {s : Shared} {hs : Led} {Q : Unit → Shared → Prop} {x : Str} {v : Value} {p : PV} (hk : f.env.kindOf x = some .local) (S : f.St s.heap tl H hs) (L : LocRep g tl σ f.comb) (rv : Rep g tl v p)
    (k : ∀ mL' h' tk, (f.loc mL' f.cm f.cl).St h' tl H hs → LocRep g tl ((x, p) :: σ) (f.loc mL' f.cm f.cl).comb → Q () { s with heap := h', toks := tk }) :
    wpAny g.M f.A (storeName f.env x v) Q (fun _ _ => False) s := by
  refine wpAny_storeName_local hk S.fr.ns (fun h' hn hs' => ?_) (by rw [C.hk]; rfl)
  refine k (fun y => if y = x then some v else f.mL y) h' _ ({ S with fr := S.fr.set hn hs', nw := S.nw.set hs' }) (L.cons rv fun y => ?_)
  have hx := C.kl x hk
  unfold Fx.comb
  by_cases h : y = x
  · subst h
    show (match f.env.cells.lookup y with | some _ => f.cm y | none => if y = y then some v else f.mL y) = _
    simp [hx]
  · show (match f.env.cells.lookup y with | some _ => f.cm y | none => if y = x then some v else f.mL y) = _
    cases List.lookup y f.env.cells <;> simp [h]

theorem zipL_shape (sc : Scope) (env : Env) : ∀ (ts : List PySem.Expr) (ds : List Dat) (acc r : Loc), zipL sc ts ds acc = some r → (assignEach ts env).length = ds.length ∧ (assignEach ts env).findIdx? (·.1) = none
  | [], [], _, _, _ => ⟨rfl, rfl⟩
  | [], _ :: _, _, _, hz => by cases hz
  | e :: ts, ds, acc, r, hz => by
    cases ds with
    | nil => cases e <;> cases hz
    | cons x ds =>
      cases e with
      | Name n pn =>
        unfold zipL at hz
        by_cases hst : sc.names.lookup n = some .local
        · rw [if_pos hst] at hz
          obtain ⟨h1, h2⟩ := zipL_shape sc env ts ds _ r hz
          refine ⟨?_, ?_⟩
          · show (assignEach ts env).length + 1 = ds.length + 1
            rw [h1]
          · show List.findIdx? (·.1) ((false, assign (.Name n pn) env) :: assignEach ts env) = none
            rw [List.findIdx?_cons, h2]; rfl
        · rw [if_neg hst] at hz; cases hz
      | _ => cases hz

theorem st_assignsL (g : Gl) (d : Nat) (b : Bool) (h₀ : Heap) (A : Around) (env : Env) (C : Cx g b d A env h₀) : ∀ (ts : List PySem.Expr) (vs : List Value) (ds : List Dat) (σ σ' : Loc) (f : Fx) (s : Shared) (tl : Led) (H : Sto) (hs : Led) (Q : Unit → Shared → Prop),
    f.h₀ = h₀ → f.A = A → f.env = env → zipL env.scope ts ds σ = some σ' → DatAll tl vs ds → f.St s.heap tl H hs → LocRep g tl σ f.comb →
    (∀ mL' h' tk, (f.loc mL' f.cm f.cl).St h' tl H hs → LocRep g tl σ' (f.loc mL' f.cm f.cl).comb → Q () { s with heap := h', toks := tk }) →
    wpAny g.M f.A (assignInOrder ((assignEach ts env).map (·.2)) vs) Q (fun _ _ => False) s
  | [], vs, ds, σ, σ', f, s, tl, H, hs, Q, e1, e2, e3, hz, da, S, L, k => by
    cases ds with
    | cons _ _ => cases hz
    | nil =>
      cases da
      cases hz
      exact wpAny_pure (k f.mL s.heap s.toks S L)
  | e :: ts, vs, ds, σ, σ', f, s, tl, H, hs, Q, e1, e2, e3, hz, da, S, L, k => by
    cases ds with
    | nil => cases e <;> cases hz
    | cons x ds =>
      cases e with
      | Name n pn =>
        unfold zipL at hz
        by_cases hst : env.scope.names.lookup n = some .local
        · rw [if_pos hst] at hz
          cases da with
          | @cons v vs' _ _ hd hr =>
            subst e1; subst e2; subst e3
            show wpAny g.M f.A (assignInOrder (assign (.Name n pn) f.env :: (assignEach ts f.env).map (·.2)) (v :: vs')) Q _ s
            refine assignInOrder_cons (wpAny_assign_Name (st_storeL C (x := n) (p := .dat x) hst S L hd fun mL' h' tk S' L' => ?_))
            exact st_assignsL g d b f.h₀ f.A f.env C ts vs' ds _ σ' (f.loc mL' f.cm f.cl) { s with heap := h', toks := tk } tl H hs Q rfl rfl rfl hz hr S' L' fun mL2 h2 tk2 S2 L2 => k mL2 h2 tk2 S2 L2
        · rw [if_neg hst] at hz; cases hz
      | _ => cases hz

theorem st_targetL (C : Cx g b d f.A f.env f.h₀) {t : PySem.Expr} {v : Value} {p : PV} {σ' : Loc} {s : Shared} {hs : Led} {Q : Unit → Shared → Prop} (hb : tBindL f.env.scope t p σ = some σ') (S : f.St s.heap tl H hs) (L : LocRep g tl σ f.comb) (rv : Rep g tl v p)
    (k : ∀ mL' h' tk, (f.loc mL' f.cm f.cl).St h' tl H hs → LocRep g tl σ' (f.loc mL' f.cm f.cl).comb → Q () { s with heap := h', toks := tk }) :
    wpAny g.M f.A (assign t f.env v) Q (fun _ _ => False) s := by
  cases t with
  | Name x px =>
    change (if f.env.scope.names.lookup x = some .local then some ((x, p) :: σ) else none) = some σ' at hb
    by_cases hst : f.env.scope.names.lookup x = some .local
    · rw [if_pos hst] at hb
      cases hb
      exact wpAny_assign_Name (st_storeL C hst S L rv k)
    · rw [if_neg hst] at hb; cases hb
  | Tuple ts kk pp =>
    cases p with
    | dat u =>
      cases u with
      | tuple ds =>
        change zipL f.env.scope ts ds σ = some σ' at hb
        obtain ⟨a, vs, n, rfl, hm, da⟩ := datIn_tuple rv
        obtain ⟨z1, z2⟩ := zipL_shape _ f.env _ _ _ _ hb
        refine wpAny_assign_Tuple (items := vs.toArray) C.hh ⟨_, (S.newsT _ hm).1, rfl, n, rfl⟩ (by rw [z1, List.size_toArray, da.length]) z2 fun h' he => ?_
        have S' : f.St h' tl H hs := S.keeps fun b o e => he b o (Nat.ne_of_lt (Heap.lt_size e)) e
        exact st_assignsL g d b f.h₀ f.A f.env C ts vs ds σ σ' f { s with heap := h' } tl H hs Q rfl rfl rfl hb da S' L k
      | _ => cases hb
    | _ => cases hb
  | _ => cases hb

/-- what is asked of each item -/
noncomputable def TurnOk (g : Gl) (f : Fx) (d : Nat) (σ : Loc) (scope : Scope) (tgt elt : PySem.Expr) (ifs : List PySem.Expr) (keep : Dat → Bool) (val : Dat → Dat) (items : List Dat) : Prop :=
  ∀ e ∈ items, ∃ σ2, tBindL (relabel scope f.env) tgt (.dat e) (compLoc scope σ) = some σ2 ∧ ∀ (fc : Fx) (tl' : Led), fc.A = f.A → fc.env.scope = relabel scope f.env → Cx g false d fc.A fc.env fc.h₀ → LocRep g tl' σ2 fc.comb →
    (∀ H', Tr g fc RepB (testsTree ifs fc.env) tl' H' (fun ok H2 => H2 = H' ∧ ok = keep e)) ∧
    (keep e = true → ∀ tl'' H', (∀ q ∈ tl', q ∈ tl'') → Tr g fc (Rep g) (eval elt fc.env) tl'' H' (fun p H2 => H2 = H' ∧ p = .dat (val e)))

set_option maxHeartbeats 1000000 in
theorem comp_run (C : Cx g b d f.A f.env f.h₀) {elt tgt iter : PySem.Expr} {ifs : List PySem.Expr} {scope : Scope} {cl' : List (Str × Addr)} {pos : Pos} {keep : Dat → Bool} {val : Dat → Dat} {items : List Dat} {H2 : Sto} {s₂ : Shared} {I : Addr} {StW : Nat → Heap → Prop} {fz' hs2 : Led}
    (hok : compOk scope f.env.scope = true) (hc : clos f.env.cells scope.names [] = some cl') (hlen : items.length ≤ 1000) (IT : It g (f.frz fz') tl I items StW) (hz : ∀ q ∈ f.fz, q ∈ fz') (S2 : (f.frz fz').St s₂.heap tl H2 hs2) (st0 : StW 0 s₂.heap) (ap2 : ∀ q ∈ hs2 ++ (tl ++ (fz' ++ f.cl)), q.1 ≠ I)
    (L : LocRep g tl σ f.comb) (turn : TurnOk g f d σ scope tgt elt ifs keep val items) {RR : Value → Addr → Result → Shared → Prop}
    (hRR : ∀ D Ca h' tk tl' hs' m', f.St h' tl' ((D, items.filterMap (pickD keep val)) :: H2) hs' → (∀ q ∈ tl, q ∈ tl') → h'.Ns Ca m' → (∀ q ∈ hs' ++ (tl' ++ (f.fz ++ f.cl)), q.1 ≠ Ca) → Ca ≠ f.env.locals → f.h₀.get? Ca = none → RR (.ref D) Ca (.ok .next) { s₂ with heap := h', toks := tk }) :
    wpAny g.M f.A (newList []) (fun acc s₃ => wpAny g.M f.A (newFunctionEnv scope f.env.globals cl' [] f.env.qual none .none (some f.env)) (fun cenv s₄ =>
      codeAny g.M f.A (.compStart (.ListComp elt [⟨tgt, iter, ifs, 0⟩] scope pos) 0 (.ref I) acc { cenv with scope := relabel scope f.env }) (RR acc cenv.locals) s₄) (fun _ _ => False) s₃) (fun _ _ => False) s₂ := by
  have hok' := hok
  unfold compOk at hok'
  simp only [Bool.and_eq_true] at hok'
  obtain ⟨⟨⟨o1, o2⟩, o3⟩, o4⟩ := hok'
  have hcell : ∀ y ∈ scope.names, y.2 ≠ .cell := fun y hy => by have := List.all_eq_true.mp o1 y hy; simpa using this
  obtain ⟨⟨fp, P, W, hfp, hP⟩, hobj, IL, I0⟩ := IT
  refine wpAny_newObj_type (wpAny_newFunctionEnv hcell (by intro y hy; simp at hy) (fun h₁ hns₁ hsb₁ => ?_) (beq_iff_eq.mp o2))
  have hns₁' := hns₁
  have hsb₁' := hsb₁
  dsimp only at hns₁' hsb₁' ⊢
  have S3 := St.pushL (n := 0) (vs := []) (ds := []) S2 .nil
  have hIlt : @LT.lt Nat _ I s₂.heap.objs.size := by
    obtain ⟨o, _, _, h1, _⟩ := hobj 0 _ st0
    exact Heap.lt_size h1
  generalize hH3 : s₂.heap.push (listOf ([] : List Value).toArray 0) = H3 at S3
  have hC3 : H3.objs.size = s₂.heap.objs.size + 1 := by rw [← hH3, Heap.size_push]
  have hns₂ : h₁.Ns H3.objs.size (fun x => (([] : List (Str × Value)).reverse.lookup x)) := by rw [← hH3]; exact hns₁'
  have hsb₂ : Heap.SameBut H3.objs.size (H3.push { cls := .type "dict", data := .dict #[] }) h₁ := by rw [← hH3]; exact hsb₁'
  have up3 : ∀ b o, H3.get? b = some o → h₁.get? b = some o := fun b o e => hsb₂.extBut b o (Nat.ne_of_lt (Heap.lt_size e)) (Heap.get?_push_of_some _ e)
  have up2 : ∀ b o, s₂.heap.get? b = some o → h₁.get? b = some o := fun b o e => up3 b o (by rw [← hH3]; exact Heap.get?_push_of_some _ e)
  have S4 := S3.keeps up3
  have st4 : StW 0 h₁ := W.frame 0 _ _ st0 fun b _ o e => up2 b o e
  have hCL : H3.objs.size ≠ f.env.locals := Ne.symm (Nat.ne_of_lt S3.fr.ns.lt)
  have hC0 : f.h₀.get? H3.objs.size = none := next_none S3.fr
  have hCab : f.h₀.objs.size ≤ H3.objs.size := Nat.le_trans S3.fr.above (Nat.le_of_lt S3.fr.ns.lt)
  have hCI : I ≠ H3.objs.size := by
    have : @Ne Nat I H3.objs.size := by omega
    exact this
  have ap4 : ∀ q ∈ ((s₂.heap.objs.size, listOf ([] : List Value).toArray 0) :: hs2) ++ (tl ++ (fz' ++ f.cl)), q.1 ≠ I := by
    intro q hq
    rcases List.mem_cons.mp hq with rfl | hq
    · have : @Ne Nat s₂.heap.objs.size I := by omega
      exact this
    · exact ap2 q hq
  have apC4 : ∀ q ∈ ((s₂.heap.objs.size, listOf ([] : List Value).toArray 0) :: hs2) ++ (tl ++ (fz' ++ f.cl)), q.1 ≠ H3.objs.size := fun q hq => Nat.ne_of_lt (S3.lt hq)
  generalize hCa : H3.objs.size = Ca at hns₂ hCL hC0 hCab hCI apC4
  generalize hD : s₂.heap.objs.size = D at S4 ap4 apC4
  have loop : ∀ s₃ : Shared, s₃ = { s₂ with heap := h₁, toks := s₂.toks + ([] : List (Str × Value)).length } →
      codeAny g.M f.A (.compLoop (.ListComp elt [⟨tgt, iter, ifs, 0⟩] scope pos) 0 (.ref I) (.ref D) (compEnvC scope cl' Ca f.env)) (RR (.ref D) Ca) s₃ := by
    rintro s₃ rfl
    refine cg_loop (fun k s' => ∃ i h3 tk tl3 hs3 m3, s' = { s₂ with heap := h3, toks := tk } ∧ k = items.length + 1 - i ∧ i ≤ items.length ∧ (∀ q ∈ tl, q ∈ tl3) ∧ (f.frz fz').St h3 tl3 ((D, (items.take i).filterMap (pickD keep val)) :: H2) hs3 ∧ h3.Ns Ca m3 ∧ StW i h3 ∧
      (∀ q ∈ hs3 ++ (tl3 ++ (fz' ++ f.cl)), q.1 ≠ I) ∧ (∀ q ∈ hs3 ++ (tl3 ++ (fz' ++ f.cl)), q.1 ≠ Ca)) ?_ (items.length + 1)
      ⟨0, h₁, _, tl, _, _, rfl, rfl, Nat.zero_le _, fun _ q => q, S4, hns₂, st4, ap4, apC4⟩
    rintro k s' ⟨i, h3, tk3, tl3, hs3, m3, rfl, rfl, hile, mm3, S5, ns5, st5, ap5, apC5⟩
    by_cases hlt : i < items.length
    · refine W.item i _ _ _ hlt st5 fun u h4 tk4 hPu st6 hk4 => ?_
      have hk4' : ∀ b o, b ≠ I → h3.get? b = some o → h4.get? b = some o := fun b o hb e => hk4 b o (fun q => hb (List.mem_singleton.mp q)) e
      have S6 : (f.frz fz').St h4 tl3 _ hs3 := S5.but IL I0 ap5 hk4'
      have ns6 : h4.Ns Ca m3 := ns5.at' fun o e => hk4' _ o (Ne.symm hCI) e
      obtain ⟨oI, nI, vI, g1, g2, g3, g4⟩ := hobj (i + 1) h4 st6
      refine st_letGo (s := { s₂ with heap := h4, toks := tk4 }) g1 g2 g3 g4 ?_
      obtain ⟨e, he, hDu⟩ := hP i u hPu
      obtain ⟨σ2, hb2, body⟩ := turn e (List.mem_of_getElem? he)
      obtain ⟨oL, hoL, hnL⟩ := PyProof.Rows.LCg.ns_obj S6.fr.ns
      have Sc := St.intoComp (f := f.frz fz') (scope := scope) (cl' := cl') (m := m3) (Ca := Ca) hc S6 apC5 hCL ns6 hCab hoL
      have Sc' := St.frzI (f := (f.frz fz').comp scope cl' Ca m3 ((f.env.locals, oL) :: fz')) Sc g1 hCI I0 (fun q hq => by
        have hq2 : q ∈ hs3 ++ (tl3 ++ (((f.env.locals, oL) :: fz') ++ f.cl)) := hq
        have : q = (f.env.locals, oL) ∨ q ∈ hs3 ++ (tl3 ++ (fz' ++ f.cl)) := by
          simp only [List.mem_append, List.mem_cons] at hq2 ⊢
          rcases hq2 with hq | hq | (hq | hq) | hq <;> simp [hq]
        rcases this with rfl | h
        · exact Ne.symm IL
        · exact ap5 q h)
      have Cc : Cx g false d f.A (compEnvC scope cl' Ca f.env) f.h₀ := Cx.comp C hok hc
      have Lc : LocRep g tl3 (compLoc scope σ) ((f.comp scope cl' Ca m3 ((I, oI) :: (f.env.locals, oL) :: fz'))).comb := compLoc_rep hc (L.mono mm3)
      refine st_targetL (f := f.comp scope cl' Ca m3 ((I, oI) :: (f.env.locals, oL) :: fz')) (s := { s₂ with heap := h4, toks := tk4 }) Cc hb2 Sc' Lc (p := .dat e) (hDu.mono mm3) fun m5 h5 tk5 S7 L7 => ?_
      obtain ⟨tests, elts⟩ := body (f.comp scope cl' Ca m5 ((I, oI) :: (f.env.locals, oL) :: fz')) tl3 rfl rfl Cc L7
      have htake : items.take (i + 1) = items.take i ++ [e] := by rw [List.take_add_one, he]; rfl
      have back : ∀ (h8 : Heap) (tk8 : Nat) (tl8 hs8 : Led) (acc : List Dat), (items.take (i + 1)).filterMap (pickD keep val) = acc → (f.comp scope cl' Ca m5 ((I, oI) :: (f.env.locals, oL) :: fz')).St h8 tl8 ((D, acc) :: H2) hs8 → (∀ q ∈ tl3, q ∈ tl8) →
          ∃ m, m < items.length + 1 - i ∧ ∃ i' h3 tk tl3 hs3 m3, ({ s₂ with heap := h8, toks := tk8 } : Shared) = { s₂ with heap := h3, toks := tk } ∧ m = items.length + 1 - i' ∧ i' ≤ items.length ∧ (∀ q ∈ tl, q ∈ tl3) ∧ (f.frz fz').St h3 tl3 ((D, (items.take i').filterMap (pickD keep val)) :: H2) hs3 ∧ h3.Ns Ca m3 ∧ StW i' h3 ∧
            (∀ q ∈ hs3 ++ (tl3 ++ (fz' ++ f.cl)), q.1 ≠ I) ∧ (∀ q ∈ hs3 ++ (tl3 ++ (fz' ++ f.cl)), q.1 ≠ Ca) := by
        intro h8 tk8 tl8 hs8 acc hacc S8 m8
        have hbig : ∀ q ∈ hs8 ++ (tl8 ++ (fz' ++ f.cl)), q ∈ hs8 ++ (tl8 ++ (((I, oI) :: (f.env.locals, oL) :: fz') ++ f.cl)) := fun q hq => by
          simp only [List.mem_append, List.mem_cons] at hq ⊢
          rcases hq with hq | hq | hq | hq <;> simp [hq]
        have hI8 : ∀ q ∈ hs8 ++ (tl8 ++ (fz' ++ f.cl)), q.1 ≠ I := by
          intro q hq
          have hmI : ∀ {x : Led}, (I, oI) ∈ x ++ (((I, oI) :: (f.env.locals, oL) :: fz') ++ f.cl) := fun {x} => List.mem_append_right _ (List.mem_append_left _ (.head _))
          rcases List.mem_append.mp hq with hq | hq
          · exact S8.hr q hq (I, oI) hmI
          · rcases List.mem_append.mp hq with hq | hq
            · exact S8.tr q hq (I, oI) (List.mem_append_left _ (.head _))
            · rcases List.mem_append.mp hq with hq | hq
              · exact ap5 q (List.mem_append_right _ (List.mem_append_right _ (List.mem_append_left _ hq)))
              · exact Ne.symm (S8.fc (I, oI) (.head _) q hq)
        have hgI : h8.get? I = some oI := (S8.nw (I, oI) (List.mem_append_right _ (List.mem_append_right _ (List.mem_append_left _ (.head _))))).1
        have st8 : StW (i + 1) h8 := by
          refine W.frame (i + 1) h4 h8 st6 fun c hcm o ho => ?_
          rcases hfp c hcm with rfl | ⟨oc, hoc⟩
          · rw [g1] at ho
            rw [hgI]; exact ho
          · have hin4 : (c, oc) ∈ hs3 ++ (tl3 ++ (fz' ++ f.cl)) := by
              rcases List.mem_append.mp hoc with q | q
              · exact List.mem_append_right _ (List.mem_append_left _ (mm3 _ q))
              · exact List.mem_append_right _ (List.mem_append_right _ (List.mem_append_left _ q))
            have e4 := (S6.nw _ hin4).1
            have hin8 : (c, oc) ∈ hs8 ++ (tl8 ++ (((I, oI) :: (f.env.locals, oL) :: fz') ++ f.cl)) := by
              rcases List.mem_append.mp hoc with q | q
              · exact List.mem_append_right _ (List.mem_append_left _ (m8 _ (mm3 _ q)))
              · exact List.mem_append_right _ (List.mem_append_right _ (List.mem_append_left _ (.tail _ (.tail _ q))))
            have e8 := (S8.nw _ hin8).1
            rw [e4] at ho
            rw [e8]; exact ho
        have S9 : (f.frz fz').St h8 tl8 ((D, acc) :: H2) hs8 := St.outComp (f := f.frz fz') (Ca := Ca) S6 hnL S8 (fun q hq => .tail _ hq)
        refine ⟨items.length + 1 - (i + 1), by omega, i + 1, h8, tk8, tl8, hs8, m5, rfl, rfl, hlt, fun z hz => m8 _ (mm3 _ hz), ?_, S8.fr.ns, st8, hI8, fun q hq => (S8.nw q (hbig q hq)).2.1⟩
        rw [hacc]; exact S9
      refine tests _ { s₂ with heap := h5, toks := tk5 } hs3 _ S7 fun ok H8 okv h8 tk8 tl8 hs8 r8 m8 S8 rb8 => ?_
      obtain ⟨rfl, rfl⟩ := r8
      cases rb8
      cases hkeep : keep e with
      | false =>
        rw [if_neg Bool.false_ne_true]
        refine back h8 tk8 tl8 hs8 _ ?_ S8 m8
        rw [htake, List.filterMap_append]
        simp [pickD, hkeep]
      | true =>
        rw [if_pos rfl]
        refine elts hkeep tl8 _ m8 { s₂ with heap := h8, toks := tk8 } hs8 _ S8 fun p9 H9 v9 h9 tk9 tl9 hs9 r9 m9 S9 rv9 => ?_
        obtain ⟨rfl, rfl⟩ := r9
        have hal : ((items.take i).filterMap (pickD keep val)).length ≤ 1000 := by
          refine Nat.le_trans (List.length_filterMap_le _ _) ?_
          rw [List.length_take]
          omega
        have T := tr_append (g := g) (f := f.comp scope cl' Ca m5 ((I, oI) :: (f.env.locals, oL) :: fz')) (tl := tl9) (x := v9) (a := D) (pre := []) (post := H2) (ds := (items.take i).filterMap (pickD keep val)) (e := val e)
          (R := fun _ H' => H' = (D, (items.take i).filterMap (pickD keep val) ++ [val e]) :: H2) rv9 rfl hal rfl
        refine T { s₂ with heap := h9, toks := tk9 } hs9 _ S9 fun p10 H10 v10 h10 tk10 tl10 hs10 r10 m10 S10 rv10 => ?_
        obtain rfl : H10 = _ := r10
        refine back h10 tk10 tl10 hs10 _ ?_ S10 (fun z hz => m10 _ (m9 _ (m8 _ hz)))
        rw [htake, List.filterMap_append]
        simp [pickD, hkeep]
    · have hie : i = items.length := by omega
      subst hie
      refine W.done _ _ _ st5 fun h4 tk4 hk4 => ?_
      have hk4' : ∀ b o, b ≠ I → h3.get? b = some o → h4.get? b = some o := fun b o hb e => hk4 b o (fun q => hb (List.mem_singleton.mp q)) e
      have S6 := S5.but IL I0 ap5 hk4'
      rw [List.take_length] at S6
      refine hRR D Ca h4 tk4 tl3 hs3 m3 (St.unfrz (f := f.frz fz') S6 hz) mm3 (ns5.at' fun o e => hk4' _ o (Ne.symm hCI) e) (fun q hq => apC5 q ?_) hCL hC0
      simp only [List.mem_append] at hq ⊢
      rcases hq with hq | hq | hq | hq
      · simp [hq]
      · simp [hq]
      · exact .inr (.inr (.inl (hz q hq)))
      · simp [hq]
  have lp := loop _ rfl
  subst hD
  have hCa' : (s₂.heap.push { cls := .type "list", data := .seq ([] : List Value).toArray }).objs.size = Ca := by rw [← hCa, ← hH3]
  subst hCa'
  exact codeAny_compStart_list lp (W.self 0 _ _ _ st4 lp)
end
end Mine
end

section
namespace Mine
open PySem.Calls

section
variable {g : Gl} {f : Fx} {tl : Led} {H : Sto} {d : Nat} {b : Bool} {σ : Loc}

theorem comp_facts (C : Cx g b d f.A f.env f.h₀) {scope : Scope} (hok : compOk scope f.env.scope = true) :
    (∃ cl', clos f.env.cells scope.names [] = some cl') ∧ scope.kind = .function ∧ ∀ y ∈ scope.names, y.2 = .local → scope.names.lookup y.1 = some .local := by
  unfold compOk at hok
  simp only [Bool.and_eq_true] at hok
  obtain ⟨⟨⟨o1, o2⟩, o3⟩, o4⟩ := hok
  refine ⟨clos_some _ _ fun x hx => ?_, beq_iff_eq.mp o2, fun y hy hl => ?_⟩
  · have q := List.all_eq_true.mp o4 _ hx
    simp only [bne_self_eq_false, Bool.false_or, Bool.and_eq_true, beq_iff_eq] at q
    exact C.kc x q.1
  · have q := List.all_eq_true.mp o3 _ hy
    rw [hl] at q
    simpa using q

theorem tr_Comp (C : Cx g b d f.A f.env f.h₀) {elt tgt iter : PySem.Expr} {ifs : List PySem.Expr} {scope : Scope} {pos : Pos} {R R1 : PV → Sto → Prop} (hok : compOk scope f.env.scope = true) (hi : Tr g f (Rep g) (eval iter f.env) tl H R1) (L : LocRep g tl σ f.comb)
    (hsrc : ∀ p H1, R1 p H1 → ∃ items H2 keep val, Src p H1 items H2 ∧ items.length ≤ 1000 ∧ TurnOk g f d σ scope tgt elt ifs keep val items ∧ ∀ D, R (.ref D) ((D, items.filterMap (pickD keep val)) :: H2))
    (hfold : ∀ x, foldedSetIterable iter f.env x = pure x) : Tr g f (Rep g) (eval (.ListComp elt [⟨tgt, iter, ifs, 0⟩] scope pos) f.env) tl H R := fun s hs Q S k => by
  obtain ⟨⟨cl', hc⟩, hkind, hnames⟩ := comp_facts C hok
  rw [eval_ListComp]
  refine wpAny_comprehension_free (use := none) rfl hfold (closureFor_of hc) hkind hnames (hi s hs _ S fun p H1 v h1 tk1 tl1 hs1 r1 m1 S1 rv => ?_)
  obtain ⟨items, H2, keep, val, hsr, hlen, turn, fin⟩ := hsrc p H1 r1
  refine it_start C (s := { s with heap := h1, toks := tk1 }) S1 rv hsr fun I StW fz' h2 hs2 IT hz S2 st0 ap2 => ?_
  refine comp_run C (s₂ := { s with heap := h2, toks := tk1 }) (RR := fun acc Ca => compPost g.M f.A (fun _ _ => False) none Q acc Ca) hok hc hlen IT hz S2 st0 ap2 (L.mono m1) turn ?_
  intro D Ca h' tk tl' hs' m' S3 m3 hn apC hCL hC0
  refine ⟨m', hn, fun h'' hs'' => ?_⟩
  exact k _ _ _ h'' tk tl' hs' (fin D) (fun z hz => m3 _ (m1 _ hz)) (S3.but hCL hC0 apC fun b o hb e => hs''.extBut b o hb e) rfl

theorem trs_AssignComp (C : Cx g b d f.A f.env f.h₀) {elt tgt iter : PySem.Expr} {ifs : List PySem.Expr} {scope : Scope} {pos spos py : Pos} {y : Str} {R1 : PV → Sto → Prop} {Rn : Loc → Sto → Prop} {Rr : PV → Sto → Prop} (hok : compOk scope f.env.scope = true) (hi : Tr g f (Rep g) (eval iter f.env) tl H R1) (L : LocRep g tl σ f.comb)
    (hy : stor (f.env.kindOf y) = true)
    (hsrc : ∀ p H1, R1 p H1 → ∃ items H2 keep val, Src p H1 items H2 ∧ items.length ≤ 1000 ∧ TurnOk g f d σ scope tgt elt ifs keep val items ∧ ∀ D, Rn ((y, .ref D) :: σ) ((D, items.filterMap (pickD keep val)) :: H2))
    (hfold : ∀ x, foldedSetIterable iter f.env x = pure x) (hsw : swapsWith (.ListComp elt [⟨tgt, iter, ifs, 0⟩] scope pos) (some (.Name y py)) spos.line f.env = pure true) :
    TrS g f (exec (.Assign [.Name y py] (.ListComp elt [⟨tgt, iter, ifs, 0⟩] scope pos) spos) f.env) tl σ H Rn Rr := fun s hs Q S _ kn kr => by
  obtain ⟨⟨cl', hc⟩, hkind, hnames⟩ := comp_facts C hok
  rw [exec_Assign_Name_used _ _ _ _ hsw]
  refine wpAny_bind (wpAny_standAt (wpAny_bind ?_))
  show wpAny _ _ (do let _ ← comprehension (.ListComp elt [⟨tgt, iter, ifs, 0⟩] scope pos) scope f.env _ (newList []) false (eval iter f.env) (some (assign (.Name y py) f.env))) _ _ s
  refine wpAny_bind (wpAny_mono (wpAny_comprehension_free (use := some (assign (.Name y py) f.env)) (Q := fun _ s' => Q .next s') rfl hfold (closureFor_of hc) hkind hnames
    (hi s hs _ S fun p H1 v h1 tk1 tl1 hs1 r1 m1 S1 rv => ?_)) (fun _ s' hq => wpAny_pure (wpAny_pure hq)) fun _ _ e => e)
  obtain ⟨items, H2, keep, val, hsr, hlen, turn, fin⟩ := hsrc p H1 r1
  refine it_start C (s := { s with heap := h1, toks := tk1 }) S1 rv hsr fun I StW fz' h2 hs2 IT hz S2 st0 ap2 => ?_
  refine comp_run C (s₂ := { s with heap := h2, toks := tk1 }) (RR := fun acc Ca => compPost g.M f.A (fun _ _ => False) (some (assign (.Name y py) f.env)) (fun _ s' => Q .next s') acc Ca) hok hc hlen IT hz S2 st0 ap2 (L.mono m1) turn ?_
  intro D Ca h' tk tl' hs' m' S3 m3 hn apC hCL hC0
  obtain ⟨oC, hoC, hnC⟩ := PyProof.Rows.LCg.ns_obj hn
  have S4 := St.frzI S3 hoC hCL hC0 apC
  have mm : ∀ q ∈ tl, q ∈ tl' := fun z hz => m3 _ (m1 _ hz)
  show wpAny g.M f.A (assign (.Name y py) f.env (.ref D)) _ _ _
  refine wpAny_assign_Name (st_store (f := f.frz ((Ca, oC) :: f.fz)) (s := { s with heap := h', toks := tk }) C hy S4 (L.mono mm) (p := .ref D) rfl fun mL' cm' cl2 h5 tk5 c5 S5 L5 => ?_)
  have hg := (S5.nw (Ca, oC) (List.mem_append_right _ (List.mem_append_right _ (List.mem_append_left _ (.head _))))).1
  refine ⟨m', hnC.ns hg, fun h6 hs6 => ?_⟩
  have S6 : (f.loc mL' cm' cl2).St h5 tl' ((D, items.filterMap (pickD keep val)) :: H2) hs' := St.unfrz (f := (f.frz ((Ca, oC) :: f.fz)).loc mL' cm' cl2) S5 (fun q hq => .tail _ hq)
  have hm9 : ∀ {x : Led}, (Ca, oC) ∈ x ++ (((Ca, oC) :: f.fz) ++ cl2) := fun {x} => List.mem_append_right _ (List.mem_append_left _ (.head _))
  have apC6 : ∀ q ∈ hs' ++ (tl' ++ (f.fz ++ cl2)), q.1 ≠ Ca := by
    intro q hq
    rcases List.mem_append.mp hq with hq | hq
    · exact S5.hr q hq (Ca, oC) hm9
    · rcases List.mem_append.mp hq with hq | hq
      · exact S5.tr q hq (Ca, oC) (List.mem_append_left _ (.head _))
      · rcases List.mem_append.mp hq with hq | hq
        · exact apC q (List.mem_append_right _ (List.mem_append_right _ (List.mem_append_left _ hq)))
        · exact Ne.symm (S5.fc (Ca, oC) (.head _) q hq)
  exact kn _ _ mL' cm' cl2 h6 tk5 tl' hs' (fin D) mm c5 (S6.but hCL hC0 apC6 fun b o hb e => hs6.extBut b o hb e) L5
end
end Mine
end

section
namespace Mine
open PySem.Calls

/-! sorted, over a list of pairs of ints -/
noncomputable abbrev Pt := Int × Int
noncomputable def pt (p : Pt) : Dat := .tuple [.int p.1, .int p.2]
theorem pt_inj {p q : Pt} (h : pt p = pt q) : p = q := by
  unfold pt at h
  obtain ⟨a, b⟩ := p
  obtain ⟨c, e⟩ := q
  simp at h
  rw [h.1, h.2]
theorem pts_inj {l r : List Pt} (h : l.map pt = r.map pt) : l = r := by
  induction l generalizing r with
  | nil => cases r with
    | nil => rfl
    | cons _ _ => cases h
  | cons p l ih => cases r with
    | nil => cases h
    | cons q r =>
      rw [List.map_cons, List.map_cons] at h
      obtain ⟨h1, h2⟩ := List.cons.inj h
      rw [pt_inj h1, ih h2]

noncomputable def ltP (p q : Pt) : Bool := if (p.1 == q.1) = true then (if (p.2 == q.2) = true then false else decide (p.2 < q.2)) else decide (p.1 < q.1)
noncomputable def ltAt (l : List Pt) (i j : Nat) : Option Bool := match l[i]?, l[j]? with
  | some p, some q => some (ltP p q)
  | _, _ => none
noncomputable def runT {α : Type} (lt : Nat → Nat → Option Bool) : KasT α → Option α
  | .ret a => some a
  | .ask i j k => match lt i j with
    | some b => runT lt (k b)
    | none => none
noncomputable def sortP (l : List Pt) : Option (List Pt) := match runT (ltAt l) (kas_sort l.length) with
  | some p => some (p.toList.map fun i => l.getD i (0, 0))
  | none => none

section
variable {g : Gl} {f : Fx} {tl : Led} {H : Sto} {d : Nat} {b : Bool} {σ : Loc} {R : PV → Sto → Prop}

theorem pt_at {v : Value} {p : Pt} (h : DatIn tl v (pt p)) : ∃ a t u n, v = .ref a ∧ (a, ({ cls := .type "tuple", data := .seq #[.int p.1 t, .int p.2 u] n } : Obj)) ∈ tl := by
  obtain ⟨a, vs, n, rfl, hm, da⟩ := datIn_tuple h
  cases da with
  | cons h1 r =>
    cases r with
    | cons h2 r2 =>
      cases r2
      obtain ⟨t, rfl⟩ := datIn_int h1
      obtain ⟨u, rfl⟩ := datIn_int h2
      exact ⟨a, t, u, n, rfl, hm⟩

theorem st_ltP {h₀ : Heap} {L : Addr} {A : Around} {s : Shared} {v w : Value} {p q : Pt} {Q : Bool → Shared → Prop} (N : News h₀ L s.heap tl) (hv : DatIn tl v (pt p)) (hw : DatIn tl w (pt q)) (h : Q (ltP p q) s) :
    wpAny g.M A (keyLt' (tuples' true) v w) Q (fun _ _ => False) s := by
  obtain ⟨a, t, u, n, rfl, hm⟩ := pt_at hv
  obtain ⟨a', t', u', n', rfl, hm'⟩ := pt_at hw
  refine kat_lt (N _ hm).1 rfl (N _ hm').1 rfl ?_
  show KatLex _ _ _ _ _ _ [(Value.int p.1 t, Value.int q.1 t'), (Value.int p.2 u, Value.int q.2 u')] 0 s
  unfold ltP at h
  refine kat_cons (wpAny_eqBool_int ?_)
  cases h1 : (p.1 == q.1) with
  | true =>
    rw [if_pos h1] at h
    refine kat_yes (kat_cons (wpAny_eqBool_int ?_))
    cases h2 : (p.2 == q.2) with
    | true =>
      rw [if_pos h2] at h
      exact kat_yes (kat_nil h)
    | false =>
      rw [if_neg (by rw [h2]; exact Bool.false_ne_true)] at h
      exact kat_no (kat_one _ _ (PyProof.Rows.lt_int h))
  | false =>
    rw [if_neg (by rw [h1]; exact Bool.false_ne_true)] at h
    exact kat_no (oneLt_int h)

theorem runT_wp {h₀ : Heap} {L : Addr} {A : Around} {s : Shared} {l : List Pt} {vs : List Value} (N : News h₀ L s.heap tl) (da : DatAll tl vs (l.map pt)) {α : Type} : ∀ (t : KasT α) (a : α) (Q : α → Shared → Prop), runT (ltAt l) t = some a → Q a s →
    t.kasWp (kas_ask g.P g.w A (tuples' true) vs) Q s
  | .ret x, a, Q, h, q => by cases h; exact q
  | .ask i j k, a, Q, h, q => by
    unfold runT at h
    cases hl : ltAt l i j with
    | none => rw [hl] at h; cases h
    | some c =>
      rw [hl] at h
      unfold ltAt at hl
      cases hi : l[i]? with
      | none => rw [hi] at hl; cases hl
      | some p =>
        cases hj : l[j]? with
        | none => rw [hi, hj] at hl; cases hl
        | some r =>
          rw [hi, hj] at hl
          cases hl
          have gi : ∃ v, vs[i]? = some v ∧ DatIn tl v (pt p) := by
            have hlt : i < (l.map pt).length := by rw [List.length_map]; exact (List.getElem?_eq_some_iff.mp hi).1
            obtain ⟨v, h1, h2⟩ := da.get hlt
            refine ⟨v, h1, ?_⟩
            have : (l.map pt)[i]? = some (pt p) := by rw [List.getElem?_map, hi]; rfl
            rw [List.getElem?_eq_getElem hlt] at this
            rw [← Option.some.inj this]; exact h2
          have gj : ∃ v, vs[j]? = some v ∧ DatIn tl v (pt r) := by
            have hlt : j < (l.map pt).length := by rw [List.length_map]; exact (List.getElem?_eq_some_iff.mp hj).1
            obtain ⟨v, h1, h2⟩ := da.get hlt
            refine ⟨v, h1, ?_⟩
            have : (l.map pt)[j]? = some (pt r) := by rw [List.getElem?_map, hj]; rfl
            rw [List.getElem?_eq_getElem hlt] at this
            rw [← Option.some.inj this]; exact h2
          obtain ⟨v, v1, v2⟩ := gi
          obtain ⟨w, w1, w2⟩ := gj
          show kas_ask g.P g.w A (tuples' true) vs i j _ s
          unfold kas_ask
          have e1 : vs.getD i Value.none = v := by rw [List.getD_eq_getElem?_getD, v1]; rfl
          have e2 : vs.getD j Value.none = w := by rw [List.getD_eq_getElem?_getD, w1]; rfl
          rw [e1, e2]
          exact st_ltP (g := g) N v2 w2 (runT_wp N da (k (ltP p r)) a Q h q)

theorem katTups_of {h₀ h : Heap} {L : Addr} (N : News h₀ L h tl) : ∀ {vs : List Value} {l : List Pt}, DatAll tl vs (l.map pt) → ∃ fs, KatTups h vs fs ∧ fs.length = l.length ∧ ∀ v ∈ fs, ∃ i t, v = Value.int i t
  | [], [], _ => ⟨[], trivial, rfl, fun _ h => by cases h⟩
  | [], _ :: _, da => by cases da
  | _ :: _, [], da => by cases da
  | v :: vs, p :: l, da => by
    cases da with
    | cons hd hr =>
      obtain ⟨fs, k1, k2, k3⟩ := katTups_of N hr
      obtain ⟨a, t, u, n, rfl, hm⟩ := pt_at hd
      refine ⟨.int p.1 t :: fs, KatTups.cons (N _ hm).1 rfl rfl rfl k1, by rw [List.length_cons, List.length_cons, k2], fun v hv => ?_⟩
      rcases List.mem_cons.mp hv with rfl | hv
      · exact ⟨_, _, rfl⟩
      · exact k3 v hv

theorem DatAll.pick {vs : List Value} {l : List Pt} (da : DatAll tl vs (l.map pt)) : ∀ (is : List Nat), (∀ i ∈ is, i < l.length) → DatAll tl (is.map fun i => vs.getD i Value.none) ((is.map fun i => l.getD i (0, 0)).map pt)
  | [], _ => .nil
  | i :: is, hi => by
    have hlt : i < (l.map pt).length := by rw [List.length_map]; exact hi i (.head _)
    obtain ⟨v, h1, h2⟩ := da.get hlt
    have e1 : vs.getD i Value.none = v := by rw [List.getD_eq_getElem?_getD, h1]; rfl
    have e2 : (l.map pt)[i] = pt (l.getD i (0, 0)) := by
      rw [List.getElem_map, List.getD_eq_getElem?_getD, List.getElem?_eq_getElem (hi i (.head _))]; rfl
    rw [e2] at h2
    rw [List.map_cons, List.map_cons, List.map_cons, e1]
    exact .cons h2 (DatAll.pick da is fun j hj => hi j (.tail _ hj))

/-- what is asked of a sort, with the places in bounds -/
noncomputable def sortOk (l r : List Pt) : Prop := ∃ p, runT (ltAt l) (kas_sort l.length) = some p ∧ (∀ i ∈ p.toList, i < l.length) ∧ r = p.toList.map fun i => l.getD i (0, 0)

theorem tr_sorted {a : Addr} {l r : List Pt} (hm : (a, l.map pt) ∈ H) (h2 : 2 ≤ l.length) (h64 : l.length < 64) (hs : sortOk l r) (h : ∀ c, R (.ref c) ((c, r.map pt) :: H)) : Tr g f (Rep g) (call (.builtin "sorted") [.ref a]) tl H R := fun s hs' Q S k => by
  obtain ⟨p, hp, hb, rfl⟩ := hs
  obtain ⟨vs, n, m, da, il⟩ := S.isList hm
  have hvl : vs.length = l.length := by rw [da.length, List.length_map]
  refine kat_sorted S.fr S.nw il (by omega) (by omega) fun D e1 h' F' N' lt' => ?_
  have Nt : News f.h₀ f.env.locals h' tl := fun q hq => N' q (.tail _ (List.mem_append_right _ (List.mem_append_left _ hq)))
  obtain ⟨fs, k1, k2, k3⟩ := katTups_of (h := h') Nt da
  refine kat_kind (s := { s with heap := h' }) (T := .type "int") k1 (by omega) (fun v hv => ?_) rfl ?_
  · obtain ⟨i, t, rfl⟩ := k3 v hv
    exact Looks.of_pure rfl
  refine runT_wp (g := g) (s := { s with heap := h' }) Nt da _ p _ (by rw [hvl]; exact hp) ?_
  have apD : ∀ q ∈ hs' ++ (tl ++ (f.fz ++ f.cl)), q.1 ≠ D := fun q hq => Nat.ne_of_lt (lt' q hq)
  refine KasFin.intro (s := { s with heap := h' }) F' N' (.head apD) fun h'' c F'' N'' => ?_
  have S2 : f.St h'' tl ((D, (p.toList.map fun i => l.getD i (0, 0)).map pt) :: H) ((D, listOf (p.toList.map fun i => vs.getD i Value.none).toArray c) :: hs') := by
    refine { S with fr := F'', nw := N'', ls := .cons (DatAll.pick da _ hb) S.ls, hd := ?_, hr := ?_ }
    · rw [List.map_cons, List.nodup_cons]
      refine ⟨fun hm => ?_, S.hd⟩
      obtain ⟨q, hq, e⟩ := List.mem_map.mp hm
      exact apD q (List.mem_append_left _ hq) e
    · intro q hq z hz
      rcases List.mem_cons.mp hq with rfl | hq
      · exact Ne.symm (apD z (List.mem_append_right _ hz))
      · exact S.hr q hq z hz
  exact k _ _ _ h'' s.toks tl _ (h _) (fun _ q => q) S2 rfl
end
end Mine
end

section
namespace Mine
open PySem.Calls

inductive BI where
  | len | range | abs | max | min | int | sorted | tuple
noncomputable def biT : List (Str × BI) := [("len", .len), ("range", .range), ("abs", .abs), ("max", .max), ("min", .min), ("int", .int), ("sorted", .sorted), ("tuple", .tuple)]

noncomputable def BI.val : BI → Value
  | .len => .builtin "len" | .range => .type "range" | .abs => .builtin "abs" | .max => .builtin "max" | .min => .builtin "min" | .int => .type "int" | .sorted => .builtin "sorted" | .tuple => .type "tuple"

noncomputable abbrev Gam := List (Str × (Nat × Spec))
noncomputable abbrev Kont := PV → Sto → Prop

noncomputable def vBin (op : Operator) (p q : PV) (H : Sto) (R : Kont) : Prop := match p, q with
  | .dat (.int i), .dat (.int j) => match op with
    | .Add => R (.dat (.int (i + j))) H
    | .Sub => R (.dat (.int (i - j))) H
    | .Mult => (i.natAbs < 2 ^ 64 ∨ j.natAbs < 2 ^ 64) ∧ R (.dat (.int (i * j))) H
    | .FloorDiv => 0 < j ∧ R (.dat (.int (i / j))) H
    | .Mod => 0 < j ∧ R (.dat (.int (i % j))) H
    | .Pow => (0 ≤ j ∧ j ≤ 1000000 ∧ i.natAbs < 2 ^ 64) ∧ R (.dat (.int (i ^ j.toNat))) H
    | _ => False
  | .ref a, .ref b => op = .Add ∧ ∃ us vs, (a, us) ∈ H ∧ (b, vs) ∈ H ∧ us.length + vs.length ≤ 1000 ∧ ∀ c, R (.ref c) ((c, us ++ vs) :: H)
  | _, _ => False

noncomputable def vCmp (op : CmpOp) (p q : PV) (H : Sto) (R : Bool → Prop) : Prop := match p, q with
  | .dat (.int i), .dat (.int j) => match op with
    | .Lt => R (decide (i < j))
    | .LtE => R (decide (i ≤ j))
    | .Gt => R (decide (j < i))
    | .GtE => R (decide (j ≤ i))
    | .Eq => R (i == j)
    | .NotEq => R (i != j)
    | _ => False
  | .dat (.str i), .dat (.str j) => match op with
    | .Eq => R (i == j)
    | .NotEq => R (i != j)
    | _ => False
  | .dat (.tuple us), .dat (.tuple vs) => (kqdOk 9 (.tuple us) = true ∧ kqdOk 9 (.tuple vs) = true) ∧ match op with
    | .Eq => ∀ c : Bool, (c = true ↔ us = vs) → R c
    | .NotEq => ∀ c : Bool, (c = true ↔ us ≠ vs) → R c
    | _ => False
  | .ref a, .ref b => ∃ us vs, (a, us) ∈ H ∧ (b, vs) ∈ H ∧ (∀ d ∈ us, kqdOk 8 d = true) ∧ (∀ d ∈ vs, kqdOk 8 d = true) ∧ match op with
    | .Eq => ∀ c : Bool, (c = true ↔ us = vs) → R c
    | .NotEq => ∀ c : Bool, (c = true ↔ us ≠ vs) → R c
    | _ => False
  | .dat u, .ref b => op = .NotIn ∧ ∃ vs, (b, vs) ∈ H ∧ kqdOk 8 u = true ∧ (∀ d ∈ vs, kqdOk 8 d = true) ∧ ∀ c : Bool, (c = true ↔ u ∉ vs) → R c
  | _, _ => False

noncomputable def vIdx (g : Gl) (p q : PV) (H : Sto) (R : Kont) : Prop := match p, q with
  | .dat (.tuple ds), .dat (.int k) => (-(2 ^ 63) ≤ k ∧ k < 2 ^ 63) ∧ ∃ e, idx k ds = some e ∧ R (.dat e) H
  | .ref a, .dat (.int k) => (-(2 ^ 63) ≤ k ∧ k < 2 ^ 63) ∧ ∃ ds e, (a, ds) ∈ H ∧ idx k ds = some e ∧ R (.dat e) H
  | .scr, .dat (.int k) => (0 ≤ k ∧ k < 2 ^ 63) ∧ ∃ n, g.scrN[k.toNat]? = some n ∧ R (.dat (.int n)) H
  | _, _ => False

noncomputable def vLen (g : Gl) (ps : List PV) (H : Sto) (R : Kont) : Prop := match ps with
  | [.ref a] => ∃ ds, (a, ds) ∈ H ∧ ds.length < 2 ^ 62 ∧ R (.dat (.int ds.length)) H
  | [.dat (.tuple ds)] => ds.length < 2 ^ 62 ∧ R (.dat (.int ds.length)) H
  | [.scr] => R (.dat (.int g.scrN.length)) H
  | _ => False
noncomputable def vRange (ps : List PV) (H : Sto) (R : Kont) : Prop := match ps with
  | [.dat (.int j)] => R (.rng 0 j) H
  | [.dat (.int i), .dat (.int j)] => R (.rng i j) H
  | _ => False
noncomputable def vAbs (ps : List PV) (H : Sto) (R : Kont) : Prop := match ps with
  | [.dat (.int i)] => R (.dat (.int (if i < 0 then -i else i))) H
  | _ => False
noncomputable def vMax (ps : List PV) (H : Sto) (R : Kont) : Prop := match ps with
  | [.dat (.int i), .dat (.int j)] => R (.dat (.int (if j > i then j else i))) H
  | _ => False
noncomputable def vMin (ps : List PV) (H : Sto) (R : Kont) : Prop := match ps with
  | [.dat (.int i), .dat (.int j)] => R (.dat (.int (if j < i then j else i))) H
  | _ => False
noncomputable def vInt (ps : List PV) (H : Sto) (R : Kont) : Prop := match ps with
  | [.dat (.int i)] => R (.dat (.int i)) H
  | [.dat (.bool c)] => R (.dat (.int (if c = true then 1 else 0))) H
  | _ => False
noncomputable def vSorted (ps : List PV) (H : Sto) (R : Kont) : Prop := match ps with
  | [.ref a] => ∃ l r, (a, l.map pt) ∈ H ∧ 2 ≤ l.length ∧ l.length < 64 ∧ sortOk l r ∧ ∀ c, R (.ref c) ((c, r.map pt) :: H)
  | _ => False
noncomputable def vTuple (ps : List PV) (H : Sto) (R : Kont) : Prop := match ps with
  | [.ref a] => ∃ ds, (a, ds) ∈ H ∧ ds.length ≤ 1000 ∧ R (.dat (.tuple ds)) H
  | _ => False
noncomputable def vBi (g : Gl) (bi : BI) (ps : List PV) (H : Sto) (R : Kont) : Prop := match bi with
  | .len => vLen g ps H R
  | .range => vRange ps H R
  | .abs => vAbs ps H R
  | .max => vMax ps H R
  | .min => vMin ps H R
  | .int => vInt ps H R
  | .sorted => vSorted ps H R
  | .tuple => vTuple ps H R

noncomputable def vFn (g : Gl) (Γ : Gam) (d : Nat) (b : Bool) (x : Str) (ps : List PV) (H : Sto) (R : Kont) : Prop := match biT.lookup x with
  | some bi => vBi g bi ps H R
  | none => match Γ.lookup x with
    | some (k, S) => (b = true ∧ k < d) ∧ S ps H R
    | none => False

noncomputable def relabelS (scope sc : Scope) : Scope := { scope with names := scope.names.map fun (n, k) => if (k == .free && sc.kind == .function && sc.names.lookup n == some .cell) then (n, .cell) else (n, k) }
theorem relabelS_eq (scope : Scope) (env : Env) : relabel scope env = relabelS scope env.scope := rfl

noncomputable def plainIter : PySem.Expr → Bool
  | .Name .. | .Call .. | .List .. | .Tuple .. | .Subscript .. => true
  | _ => false

noncomputable def vConst (c : Const) (H : Sto) (R : Kont) : Prop := match c with
  | .int i => R (.dat (.int i)) H
  | .str x => R (.dat (.str x)) H
  | .bool c => R (.dat (.bool c)) H
  | _ => False
noncomputable def vName (sc : Scope) (σ : Loc) (x : Str) (H : Sto) (R : Kont) : Prop := (stor (sc.names.lookup x) = true ∧ (x == ("__debug__" : Str)) = false) ∧ (match σ.lookup x with
  | some p => R p H
  | none => False)
noncomputable def isRev : PySem.Expr → Bool
  | .Slice none none (some (.UnaryOp .USub (.Constant (.int 1) _ _) _)) _ => true
  | _ => false
structure Gok (g : Gl) (Γ : Gam) : Prop where
  bi : ∀ x v, biT.lookup x = some v → nsIn g.K mainGlobals x = some none
  fn : ∀ x k S, Γ.lookup x = some (k, S) → FnOk g x k S
end Mine
end

section
namespace Mine
open PySem.Calls

theorem Tr.mono {α β : Type} {g : Gl} {f : Fx} {rep : Led → α → β → Prop} {t : Sem α} {tl : Led} {H : Sto} {R R' : β → Sto → Prop} (h : Tr g f rep t tl H R) (hr : ∀ y H', R y H' → R' y H') : Tr g f rep t tl H R' := fun s hs Q S k =>
  h s hs Q S fun y H' a h' tk tl' hs' r m S' ra => k y H' a h' tk tl' hs' (hr y H' r) m S' ra

section
variable {g : Gl} {f : Fx} {tl : Led} {d : Nat} {b : Bool}

theorem vBin_ok (C : Cx g b d f.A f.env f.h₀) {op : Operator} {p q : PV} {H : Sto} {R : Kont} {u v : Value} (h : vBin op p q H R) (ru : Rep g tl u p) (rv : Rep g tl v q) : Tr g f (Rep g) (binaryOp op u v) tl H R := by
  unfold vBin at h
  split at h
  · rename_i i j
    obtain ⟨t, rfl⟩ := datIn_int ru
    obtain ⟨t', rfl⟩ := datIn_int rv
    split at h
    · exact tr_add h
    · exact tr_sub h
    · exact tr_mul h.1 h.2
    · exact tr_floordiv C h.1 h.2
    · exact tr_mod h.1 h.2
    · exact tr_pow h.1.1 h.1.2.1 h.1.2.2 h.2
    · exact h.elim
  · obtain ⟨rfl, us, vs, h1, h2, h3, h4⟩ := h
    cases ru; cases rv
    exact tr_addL h1 h2 h3 h4
  · exact h.elim

theorem vCmp_ok (C : Cx g b d f.A f.env f.h₀) {op : CmpOp} {p q : PV} {H : Sto} {R : Bool → Sto → Prop} {u v : Value} (h : vCmp op p q H fun c => R c H) (ru : Rep g tl u p) (rv : Rep g tl v q) : Tr g f (Rep g) (compareOp op u v) tl H (asBool R) := by
  unfold vCmp at h
  split at h
  · obtain ⟨t, rfl⟩ := datIn_int ru
    obtain ⟨t', rfl⟩ := datIn_int rv
    split at h
    · exact tr_lt ⟨_, rfl, h⟩
    · exact tr_le ⟨_, rfl, h⟩
    · exact tr_gt ⟨_, rfl, h⟩
    · exact tr_ge ⟨_, rfl, h⟩
    · exact tr_eqI ⟨_, rfl, h⟩
    · exact tr_neI ⟨_, rfl, h⟩
    · exact h.elim
  · obtain ⟨t, rfl⟩ := datIn_str ru
    obtain ⟨t', rfl⟩ := datIn_str rv
    split at h
    · exact tr_eqS ⟨_, rfl, h⟩
    · exact tr_neS ⟨_, rfl, h⟩
    · exact h.elim
  · obtain ⟨⟨k1, k2⟩, h⟩ := h
    split at h
    · exact tr_eqD C k1 k2 ru rv fun c hc => ⟨c, rfl, h c (by rw [hc]; simp)⟩
    · exact tr_neD C k1 k2 ru rv fun c hc => ⟨c, rfl, h c (by rw [hc]; simp)⟩
    · exact h.elim
  · obtain ⟨us, vs, h1, h2, k1, k2, h⟩ := h
    cases ru; cases rv
    split at h
    · exact tr_eqL C h1 h2 k1 k2 fun c hc => ⟨c, rfl, h c hc⟩
    · exact tr_neL C h1 h2 k1 k2 fun c hc => ⟨c, rfl, h c hc⟩
    · exact h.elim
  · obtain ⟨rfl, vs, h1, k1, k2, h⟩ := h
    cases rv
    exact tr_notIn C ru h1 k1 k2 fun c hc => ⟨c, rfl, h c hc⟩
  · exact h.elim

theorem vIdx_ok (C : Cx g b d f.A f.env f.h₀) {x : Str} {px : Pos} {sl : PySem.Expr} {p q : PV} {H : Sto} {R : Kont} {u v : Value} (hp : plainIdx sl = true) (h : vIdx g p q H R) (ru : Rep g tl u p) (rv : Rep g tl v q) : Tr g f (Rep g) (subscriptTail (.Name x px) sl u v) tl H R := by
  unfold vIdx at h
  split at h
  · obtain ⟨t, rfl⟩ := datIn_int rv
    obtain ⟨⟨h1, h2⟩, e, h3, h4⟩ := h
    exact tr_itemT hp h1 h2 ru h3 h4
  · obtain ⟨t, rfl⟩ := datIn_int rv
    obtain ⟨⟨h1, h2⟩, ds, e, hm, h3, h4⟩ := h
    cases ru
    exact tr_itemL hp h1 h2 hm h3 h4
  · obtain ⟨t, rfl⟩ := datIn_int rv
    obtain ⟨⟨h1, h2⟩, n, h3, h4⟩ := h
    cases ru
    exact tr_itemS C hp h1 h2 h3 h4
  · exact h.elim

theorem biT_boot {x : Str} {v : BI} (h : biT.lookup x = some v) : x ≠ "__name__" ∧ (x == ("__debug__" : Str)) = false ∧ bootBuiltins x = some v.val := by
  have hm := lookup_mem h
  clear h
  unfold biT at hm
  simp only [List.mem_cons, List.not_mem_nil, or_false, Prod.mk.injEq] at hm
  rcases hm with ⟨rfl, rfl⟩ | ⟨rfl, rfl⟩ | ⟨rfl, rfl⟩ | ⟨rfl, rfl⟩ | ⟨rfl, rfl⟩ | ⟨rfl, rfl⟩ | ⟨rfl, rfl⟩ | ⟨rfl, rfl⟩ <;> exact ⟨by decide, by decide, by decide +kernel⟩

theorem repA1 {vs : List Value} {p : PV} (h : RepA g tl vs [p]) : ∃ v, vs = [v] ∧ Rep g tl v p := by
  cases h with
  | cons hv r => cases r; exact ⟨_, rfl, hv⟩
theorem repA2 {vs : List Value} {p q : PV} (h : RepA g tl vs [p, q]) : ∃ v w, vs = [v, w] ∧ Rep g tl v p ∧ Rep g tl w q := by
  cases h with
  | cons hv r => cases r with
    | cons hw r => cases r; exact ⟨_, _, rfl, hv, hw⟩

theorem vFn_ok {Γ : Gam} (G : Gok g Γ) (C : Cx g b d f.A f.env f.h₀) {x : Str} {px pos : Pos} {es : List PySem.Expr} {H : Sto} {R : Kont} (hx : f.env.kindOf x = some .globalImplicit) (hd : (x == ("__debug__" : Str)) = false) (he : goodArgs es = true)
    (hkn : ((biT.lookup x).isSome || (Γ.lookup x).isSome) = true)
    (hi : Tr g f (RepA g) (spliced (backTo pos (starEach es f.env))) tl H fun ps H1 => vFn g Γ d b x ps H1 R) : Tr g f (Rep g) (eval (.Call (.Name x px) es [] pos) f.env) tl H R := by
  cases hb : biT.lookup x with
  | none =>
    cases hg : Γ.lookup x with
    | none => rw [hb, hg] at hkn; cases hkn
    | some kS =>
      obtain ⟨k, S⟩ := kS
      obtain ⟨fa, o, fd, h1, h2, h3, h4⟩ := G.fn x k S hg
      refine tr_callF C (named_K C hx hd h1) h2 h3 he hi fun ps H1 tl1 vs m r ra => ?_
      unfold vFn at r
      rw [hb] at r
      dsimp only at r
      rw [hg] at r
      obtain ⟨⟨hbt, hk⟩, hS⟩ := r
      subst hbt
      exact h4 f d C hk tl1 H1 vs ps R ra hS
  | some bi =>
    obtain ⟨n1, n2, n3⟩ := biT_boot hb
    have nk := G.bi x bi hb
    have hi' : Tr g f (RepA g) (spliced (backTo pos (starEach es f.env))) tl H fun ps H1 => vBi g bi ps H1 R := hi.mono fun ps H1 hh => by unfold vFn at hh; rw [hb] at hh; exact hh
    have nm := named_B C hx hd nk n3 n1
    cases bi with
    | len =>
      refine tr_callB (id := "len") nm he hi' fun ps H1 tl1 vs m r ra => ?_
      change vLen g ps H1 R at r; unfold vLen at r
      split at r <;> first
        | exact r.elim
        | (obtain ⟨v, rfl, rv⟩ := repA1 ra; cases rv; obtain ⟨ds, h1, h2, h3⟩ := r; exact tr_lenL h1 h2 h3)
        | (obtain ⟨v, rfl, rv⟩ := repA1 ra; exact tr_lenT rv r.1 r.2)
        | (obtain ⟨v, rfl, rv⟩ := repA1 ra; cases rv; exact tr_lenS C r)
        | (rename_i q _ _ _; cases q)
    | range =>
      refine tr_callT (id := "range") nm he hi' fun ps H1 tl1 vs m r ra => ?_
      change vRange ps H1 R at r; unfold vRange at r
      split at r <;> first
        | exact r.elim
        | (obtain ⟨v, rfl, rv⟩ := repA1 ra; obtain ⟨t, rfl⟩ := datIn_int rv; exact tr_range1 r)
        | (obtain ⟨v, w, rfl, rv, rw'⟩ := repA2 ra; obtain ⟨t, rfl⟩ := datIn_int rv; obtain ⟨t', rfl⟩ := datIn_int rw'; exact tr_range2 r)
    | abs =>
      refine tr_callB (id := "abs") nm he hi' fun ps H1 tl1 vs m r ra => ?_
      change vAbs ps H1 R at r; unfold vAbs at r
      split at r <;> first
        | exact r.elim
        | (obtain ⟨v, rfl, rv⟩ := repA1 ra; obtain ⟨t, rfl⟩ := datIn_int rv; exact tr_abs r)
    | max =>
      refine tr_callB (id := "max") nm he hi' fun ps H1 tl1 vs m r ra => ?_
      change vMax ps H1 R at r; unfold vMax at r
      split at r <;> first
        | exact r.elim
        | (obtain ⟨v, w, rfl, rv, rw'⟩ := repA2 ra; obtain ⟨t, rfl⟩ := datIn_int rv; obtain ⟨t', rfl⟩ := datIn_int rw'; exact tr_max C r)
    | min =>
      refine tr_callB (id := "min") nm he hi' fun ps H1 tl1 vs m r ra => ?_
      change vMin ps H1 R at r; unfold vMin at r
      split at r <;> first
        | exact r.elim
        | (obtain ⟨v, w, rfl, rv, rw'⟩ := repA2 ra; obtain ⟨t, rfl⟩ := datIn_int rv; obtain ⟨t', rfl⟩ := datIn_int rw'; exact tr_min C r)
    | int =>
      refine tr_callT (id := "int") nm he hi' fun ps H1 tl1 vs m r ra => ?_
      change vInt ps H1 R at r; unfold vInt at r
      split at r <;> first
        | exact r.elim
        | (obtain ⟨v, rfl, rv⟩ := repA1 ra; obtain ⟨t, rfl⟩ := datIn_int rv; exact tr_int r)
        | (obtain ⟨v, rfl, rv⟩ := repA1 ra; obtain rfl := datIn_bool rv; exact tr_intB r)
    | sorted =>
      refine tr_callB (id := "sorted") nm he hi' fun ps H1 tl1 vs m r ra => ?_
      change vSorted ps H1 R at r; unfold vSorted at r
      split at r <;> first
        | exact r.elim
        | (obtain ⟨v, rfl, rv⟩ := repA1 ra; cases rv; obtain ⟨l, r', h1, h2, h3, h4, h5⟩ := r; exact tr_sorted h1 h2 h3 h4 h5)
    | tuple =>
      refine tr_callT (id := "tuple") nm he hi' fun ps H1 tl1 vs m r ra => ?_
      change vTuple ps H1 R at r; unfold vTuple at r
      split at r <;> first
        | exact r.elim
        | (obtain ⟨v, rfl, rv⟩ := repA1 ra; cases rv; obtain ⟨ds, h1, h2, h3⟩ := r; exact tr_tupleOf h1 h2 h3)

theorem plainIter_ok {it : PySem.Expr} {env : Env} (h : plainIter it = true) : ∀ x, foldedSetIterable it env x = pure x := by
  intro x
  cases it <;> first | (cases h; done) | rfl

end
end Mine
end

section
namespace Mine
open PySem.Calls

section
variable {g : Gl} {f : Fx} {tl : Led} {d : Nat} {b : Bool} {σ : Loc} {H : Sto} {R : Kont}

theorem vConst_ok {c : Const} {k : Nat} {pos : Pos} (h : vConst c H R) : Tr g f (Rep g) (eval (.Constant c k pos) f.env) tl H R := by
  unfold vConst at h
  split at h
  · exact tr_ret h fun s Q q => wpAny_Constant_int (q _ _ (.int _ _))
  · exact tr_ret h fun s Q q => wpAny_Constant_str (q _ _ (.str _ _))
  · exact tr_ret h fun s Q q => wpAny_Constant_bool (q _ s.toks (.bool _))
  · exact h.elim

theorem vName_ok (C : Cx g b d f.A f.env f.h₀) (L : LocRep g tl σ f.comb) {x : Str} {pos : Pos} (h : vName f.env.scope σ x H R) : Tr g f (Rep g) (eval (.Name x pos) f.env) tl H R := by
  obtain ⟨⟨h1, h2⟩, h3⟩ := h
  split at h3
  · rename_i p hp
    refine tr_name C h2 ?_ L hp h3
    rcases stor_or h1 with q | q
    · exact .inl ⟨q, C.kl x q⟩
    · exact .inr ⟨q, C.kc x q⟩
  · exact h3.elim

theorem isRev_eq {sl : PySem.Expr} (h : isRev sl = true) : ∃ k p1 p2 p3, sl = .Slice none none (some (.UnaryOp .USub (.Constant (.int 1) k p1) p2)) p3 := by
  unfold isRev at h
  split at h
  · exact ⟨_, _, _, _, rfl⟩
  · cases h

end
end Mine
end

section
namespace Mine
open PySem.Calls

noncomputable abbrev KN := Loc → Sto → Prop
noncomputable abbrev RecS := Loc → List Stmt → Sto → KN → Kont → Prop

noncomputable def isComp : PySem.Expr → Bool
  | .ListComp .. | .SetComp .. | .DictComp .. => true
  | _ => false

theorem swaps_no {e : PySem.Expr} {t : Option PySem.Expr} {l : Nat} {env : Env} (h : isComp e = false) : swapsWith e t l env = pure false := by
  cases e <;> first | (cases h; done) | rfl
theorem swapsSole_no {e t : PySem.Expr} {l : Nat} {env : Env} (h : isComp e = false) : swapsWithSole [t] e l env = pure false := swaps_no h

noncomputable def compHere (sc : Scope) (y : Str) (py : Pos) (scope : Scope) (p : Pos) : Bool :=
  sc.kind == .function && sc.names.lookup y == some .local && py.line == p.line && !(scope.names.any fun (n, k) => n == y && (k == .local || k == .cell))

theorem swaps_yes {elt : PySem.Expr} {gens : List Comprehension} {scope : Scope} {p py : Pos} {y : Str} {l : Nat} {env : Env} (hk : env.scope.kind = .function) (h : compHere env.scope y py scope p = true) :
    swapsWith (.ListComp elt gens scope p) (some (.Name y py)) l env = pure true := by
  unfold compHere at h
  simp only [Bool.and_eq_true] at h
  obtain ⟨⟨⟨h1, h2⟩, h3⟩, h4⟩ := h
  show (pure (env.blockKind == .function && env.kindOf y == some .local && py.line == p.line && !(scope.names.any fun (n, k) => n == y && (k == .local || k == .cell))) : Sem Bool) = pure true
  have hb : (env.blockKind == .function) = true := by
    unfold Env.blockKind
    rw [hk]; rfl
  have h2' : (env.kindOf y == some .local) = true := h2
  rw [hb, h2', h3, h4]; rfl

noncomputable def localNames (sc : Scope) (line : Nat) (ts : List PySem.Expr) : List Str := ts.filterMap fun
  | .Name id pos => if sc.names.lookup id == some .local && pos.line == line then some id else none
  | _ => none

/-- names stored from behind, or none -/
noncomputable def swpN (sc : Scope) (ts : List PySem.Expr) (e : PySem.Expr) : Option (Option (List Str)) := match e with
  | .Tuple vs _ _ =>
    if (!(ts.length == 2 || ts.length == 3) || vs.length != ts.length) = true then some none
    else if (vs.any fun | .Starred .. => true | _ => false) = true then some none
    else if ((localNames sc ((ts.head?.map (·.pos.line)).getD 0) ts).length != ts.length || (localNames sc ((ts.head?.map (·.pos.line)).getD 0) ts).eraseDups.length != (localNames sc ((ts.head?.map (·.pos.line)).getD 0) ts).length) = true then some none
    else if vs.all (foldedForSure 8) = true then some none
    else if vs.all (constantsAlone 8) = true then none
    else some (some (localNames sc ((ts.head?.map (·.pos.line)).getD 0) ts))
  | _ => some none

mutual
inductive X where
  | int (i : Int) | str (x : Str) | bool (c : Bool) | var (i : Nat)
  | bin (op : Operator) (l r : X) | neg (x : X) | cmp (op : CmpOp) (l r : X) | ife (t x y : X)
  | tup (es : XS) | lst (es : XS) | sub (v : Nat) (sl : X) | rev (v : Nat)
  | bi (k : BI) (es : XS) | fn (i : Nat) (es : XS) | app (v : Nat) (e : X) | ext (v : Nat) (e : X) | pop (v : Nat)
  | comp (s : Bool) (nt : Nat) (fr : List Nat) (it : X) (ts : XS) (elt : X)
  | chain (op op2 : CmpOp) (l r t : X) | not (x : X) | or (x y : X) | and (x y : X)
inductive XS where
  | nil | cons (e : X) (es : XS)
end

noncomputable abbrev Tau := List (Option PV)
noncomputable def tat (τ : Tau) (i : Nat) : Option PV := match τ[i]? with
  | some o => o
  | none => none
noncomputable def vVar (τ : Tau) (i : Nat) (H : Sto) (R : Kont) : Prop := match tat τ i with
  | some p => R p H
  | none => False
noncomputable def bindD (s : Bool) (nt : Nat) (e : Dat) : Option (List Dat) := if s = true then some [e] else match e with
  | .tuple ds => if ds.length = nt then some ds else none
  | _ => none
noncomputable def tau2 (τ : Tau) (fr : List Nat) (ds : List Dat) : Tau := (ds.map fun e => some (PV.dat e)) ++ fr.map (tat τ)
noncomputable def datsOf : List PV → Option (List Dat)
  | [] => some []
  | .dat d :: r => (datsOf r).map (d :: ·)
  | _ :: _ => none
noncomputable def vMk (ps : List PV) (k : List Dat → Prop) : Prop := match datsOf ps with
  | some ds => ds.length ≤ 1000 ∧ k ds
  | none => False
noncomputable def vNg (p : PV) (k : Int → Prop) : Prop := match p with
  | .dat (.int i) => k i
  | _ => False
noncomputable def vRef (p : PV) (k : Addr → Prop) : Prop := match p with
  | .ref a => k a
  | _ => False
noncomputable def vBo (p : PV) (k : Bool → Prop) : Prop := match p with
  | .dat (.bool i) => k i
  | _ => False
noncomputable def vDat (p : PV) (k : Dat → Prop) : Prop := match p with
  | .dat i => k i
  | _ => False
noncomputable def vDef (Γ : Gam) (d : Nat) (b : Bool) (i : Nat) (ps : List PV) (H : Sto) (R : Kont) : Prop := match Γ[i]? with
  | some (_, (k, S)) => (b = true ∧ k < d) ∧ S ps H R
  | none => False

mutual
noncomputable def vX (g : Gl) (Γ : Gam) (d : Nat) (b : Bool) (τ : Tau) : X → Sto → Kont → Prop
  | .int i, H, R => R (.dat (.int i)) H
  | .str i, H, R => R (.dat (.str i)) H
  | .bool i, H, R => R (.dat (.bool i)) H
  | .var i, H, R => vVar τ i H R
  | .bin op l r, H, R => vX g Γ d b τ l H fun p H1 => vX g Γ d b τ r H1 fun q H2 => vBin op p q H2 R
  | .neg x, H, R => vX g Γ d b τ x H fun p H1 => vNg p fun i => R (.dat (.int (-i))) H1
  | .cmp op l r, H, R => vX g Γ d b τ l H fun p H1 => vX g Γ d b τ r H1 fun q H2 => vCmp op p q H2 fun c => R (.dat (.bool c)) H2
  | .ife t x y, H, R => vXT g Γ d b τ t H fun c H1 => if c = true then vX g Γ d b τ x H1 R else vX g Γ d b τ y H1 R
  | .tup es, H, R => vXs g Γ d b τ es H fun ps H1 => vMk ps fun ds => R (.dat (.tuple ds)) H1
  | .lst es, H, R => vXs g Γ d b τ es H fun ps H1 => vMk ps fun ds => ∀ a, R (.ref a) ((a, ds) :: H1)
  | .sub v sl, H, R => vVar τ v H fun p H1 => vX g Γ d b τ sl H1 fun q H2 => vIdx g p q H2 R
  | .rev v, H, R => vVar τ v H fun p H1 => vRef p fun a => ∃ ds, (a, ds) ∈ H1 ∧ ds.length ≤ 1000 ∧ ∀ c, R (.ref c) ((c, ds.reverse) :: H1)
  | .bi k es, H, R => vXs g Γ d b τ es H fun ps H1 => vBi g k ps H1 R
  | .fn i es, H, R => vXs g Γ d b τ es H fun ps H1 => vDef Γ d b i ps H1 R
  | .app v e, H, R => vVar τ v H fun p H1 => vRef p fun a => (∃ ds, (a, ds) ∈ H1) ∧ vX g Γ d b τ e H1 fun q H2 => vDat q fun u => ∃ pre ds post, H2 = pre ++ (a, ds) :: post ∧ ds.length ≤ 1000 ∧ R (.dat .none) (pre ++ (a, ds ++ [u]) :: post)
  | .ext v e, H, R => vVar τ v H fun p H1 => vRef p fun a => (∃ ds, (a, ds) ∈ H1) ∧ vX g Γ d b τ e H1 fun q H2 => vRef q fun c => ∃ pre ds post es, H2 = pre ++ (a, ds) :: post ∧ (c, es) ∈ pre ++ post ∧ ds.length + es.length ≤ 1000 ∧ es ≠ [] ∧ R (.dat .none) (pre ++ (a, ds ++ es) :: post)
  | .pop v, H, R => vVar τ v H fun p H1 => vRef p fun a => ∃ pre ds u post, H1 = pre ++ (a, ds ++ [u]) :: post ∧ ds.length ≤ 1000 ∧ R (.dat u) (pre ++ (a, ds) :: post)
  | .comp s nt fr it ts elt, H, R => vX g Γ d b τ it H fun p H1 => ∃ items H2 keep val, Src p H1 items H2 ∧ items.length ≤ 1000 ∧
      (∀ e ∈ items, ∃ ds, bindD s nt e = some ds ∧ (∀ H', vXif g Γ d false (tau2 τ fr ds) ts H' fun ok H2 => H2 = H' ∧ ok = keep e) ∧
        (keep e = true → ∀ H', vX g Γ d false (tau2 τ fr ds) elt H' fun p H2 => H2 = H' ∧ p = .dat (val e))) ∧
      ∀ D, R (.ref D) ((D, items.filterMap (pickD keep val)) :: H2)
  | .chain .., _, _ => False
  | .not _, _, _ => False
  | .or .., _, _ => False
  | .and .., _, _ => False
noncomputable def vXs (g : Gl) (Γ : Gam) (d : Nat) (b : Bool) (τ : Tau) : XS → Sto → (List PV → Sto → Prop) → Prop
  | .nil, H, R => R [] H
  | .cons e es, H, R => vX g Γ d b τ e H fun p H1 => vXs g Γ d b τ es H1 fun ps H2 => R (p :: ps) H2
noncomputable def vXif (g : Gl) (Γ : Gam) (d : Nat) (b : Bool) (τ : Tau) : XS → Sto → (Bool → Sto → Prop) → Prop
  | .nil, H, R => R true H
  | .cons e .nil, H, R => vXT g Γ d b τ e H R
  | .cons _ (.cons _ _), _, _ => False
noncomputable def vXT (g : Gl) (Γ : Gam) (d : Nat) (b : Bool) (τ : Tau) : X → Sto → (Bool → Sto → Prop) → Prop
  | .cmp op l r, H, R => vX g Γ d b τ l H fun p H1 => vX g Γ d b τ r H1 fun q H2 => vCmp op p q H2 fun c => R c H2
  | .chain op op2 l r t, H, R => vX g Γ d b τ l H fun p H1 => vX g Γ d b τ r H1 fun q H2 => vCmp op p q H2 fun c => if c = true then vX g Γ d b τ t H2 fun w H3 => vCmp op2 q w H3 fun c2 => R c2 H3 else R false H2
  | .not x, H, R => vXT g Γ d b τ x H fun c H1 => R (!c) H1
  | .or x y, H, R => vXT g Γ d b τ x H fun c H1 => if c = true then R true H1 else vXT g Γ d b τ y H1 R
  | .and x y, H, R => vXT g Γ d b τ x H fun c H1 => if c = true then vXT g Γ d b τ y H1 R else R false H1
  | .fn i es, H, R => vXs g Γ d b τ es H fun ps H1 => vDef Γ d b i ps H1 fun v H2 => vBo v fun c => R c H2
  | _, _, _ => False
end

theorem vX_int {g : Gl} {Γ : Gam} {d : Nat} {b : Bool} {τ : Tau} {H : Sto} {R : Kont} {i : Int} : vX g Γ d b τ (.int i) H R = (R (.dat (.int i)) H) := rfl
theorem vX_str {g : Gl} {Γ : Gam} {d : Nat} {b : Bool} {τ : Tau} {H : Sto} {R : Kont} {i : Str} : vX g Γ d b τ (.str i) H R = (R (.dat (.str i)) H) := rfl
theorem vX_bool {g : Gl} {Γ : Gam} {d : Nat} {b : Bool} {τ : Tau} {H : Sto} {R : Kont} {i : Bool} : vX g Γ d b τ (.bool i) H R = (R (.dat (.bool i)) H) := rfl
theorem vX_var {g : Gl} {Γ : Gam} {d : Nat} {b : Bool} {τ : Tau} {H : Sto} {R : Kont} {i : Nat} : vX g Γ d b τ (.var i) H R = (vVar τ i H R) := rfl
theorem vX_bin {g : Gl} {Γ : Gam} {d : Nat} {b : Bool} {τ : Tau} {H : Sto} {R : Kont} {op : Operator} {l : X} {r : X} : vX g Γ d b τ (.bin op l r) H R = (vX g Γ d b τ l H fun p H1 => vX g Γ d b τ r H1 fun q H2 => vBin op p q H2 R) := rfl
theorem vX_neg {g : Gl} {Γ : Gam} {d : Nat} {b : Bool} {τ : Tau} {H : Sto} {R : Kont} {x : X} : vX g Γ d b τ (.neg x) H R = (vX g Γ d b τ x H fun p H1 => vNg p fun i => R (.dat (.int (-i))) H1) := rfl
theorem vX_cmp {g : Gl} {Γ : Gam} {d : Nat} {b : Bool} {τ : Tau} {H : Sto} {R : Kont} {op : CmpOp} {l : X} {r : X} : vX g Γ d b τ (.cmp op l r) H R = (vX g Γ d b τ l H fun p H1 => vX g Γ d b τ r H1 fun q H2 => vCmp op p q H2 fun c => R (.dat (.bool c)) H2) := rfl
theorem vX_ife {g : Gl} {Γ : Gam} {d : Nat} {b : Bool} {τ : Tau} {H : Sto} {R : Kont} {t : X} {x : X} {y : X} : vX g Γ d b τ (.ife t x y) H R = (vXT g Γ d b τ t H fun c H1 => if c = true then vX g Γ d b τ x H1 R else vX g Γ d b τ y H1 R) := rfl
theorem vX_tup {g : Gl} {Γ : Gam} {d : Nat} {b : Bool} {τ : Tau} {H : Sto} {R : Kont} {es : XS} : vX g Γ d b τ (.tup es) H R = (vXs g Γ d b τ es H fun ps H1 => vMk ps fun ds => R (.dat (.tuple ds)) H1) := rfl
theorem vX_lst {g : Gl} {Γ : Gam} {d : Nat} {b : Bool} {τ : Tau} {H : Sto} {R : Kont} {es : XS} : vX g Γ d b τ (.lst es) H R = (vXs g Γ d b τ es H fun ps H1 => vMk ps fun ds => ∀ a, R (.ref a) ((a, ds) :: H1)) := rfl
theorem vX_sub {g : Gl} {Γ : Gam} {d : Nat} {b : Bool} {τ : Tau} {H : Sto} {R : Kont} {v : Nat} {sl : X} : vX g Γ d b τ (.sub v sl) H R = (vVar τ v H fun p H1 => vX g Γ d b τ sl H1 fun q H2 => vIdx g p q H2 R) := rfl
theorem vX_rev {g : Gl} {Γ : Gam} {d : Nat} {b : Bool} {τ : Tau} {H : Sto} {R : Kont} {v : Nat} : vX g Γ d b τ (.rev v) H R = (vVar τ v H fun p H1 => vRef p fun a => ∃ ds, (a, ds) ∈ H1 ∧ ds.length ≤ 1000 ∧ ∀ c, R (.ref c) ((c, ds.reverse) :: H1)) := rfl
theorem vX_bi {g : Gl} {Γ : Gam} {d : Nat} {b : Bool} {τ : Tau} {H : Sto} {R : Kont} {k : BI} {es : XS} : vX g Γ d b τ (.bi k es) H R = (vXs g Γ d b τ es H fun ps H1 => vBi g k ps H1 R) := rfl
theorem vX_fn {g : Gl} {Γ : Gam} {d : Nat} {b : Bool} {τ : Tau} {H : Sto} {R : Kont} {i : Nat} {es : XS} : vX g Γ d b τ (.fn i es) H R = (vXs g Γ d b τ es H fun ps H1 => vDef Γ d b i ps H1 R) := rfl
theorem vX_app {g : Gl} {Γ : Gam} {d : Nat} {b : Bool} {τ : Tau} {H : Sto} {R : Kont} {v : Nat} {e : X} : vX g Γ d b τ (.app v e) H R = (vVar τ v H fun p H1 => vRef p fun a => (∃ ds, (a, ds) ∈ H1) ∧ vX g Γ d b τ e H1 fun q H2 => vDat q fun u => ∃ pre ds post, H2 = pre ++ (a, ds) :: post ∧ ds.length ≤ 1000 ∧ R (.dat .none) (pre ++ (a, ds ++ [u]) :: post)) := rfl
theorem vX_ext {g : Gl} {Γ : Gam} {d : Nat} {b : Bool} {τ : Tau} {H : Sto} {R : Kont} {v : Nat} {e : X} : vX g Γ d b τ (.ext v e) H R = (vVar τ v H fun p H1 => vRef p fun a => (∃ ds, (a, ds) ∈ H1) ∧ vX g Γ d b τ e H1 fun q H2 => vRef q fun c => ∃ pre ds post es, H2 = pre ++ (a, ds) :: post ∧ (c, es) ∈ pre ++ post ∧ ds.length + es.length ≤ 1000 ∧ es ≠ [] ∧ R (.dat .none) (pre ++ (a, ds ++ es) :: post)) := rfl
theorem vX_pop {g : Gl} {Γ : Gam} {d : Nat} {b : Bool} {τ : Tau} {H : Sto} {R : Kont} {v : Nat} : vX g Γ d b τ (.pop v) H R = (vVar τ v H fun p H1 => vRef p fun a => ∃ pre ds u post, H1 = pre ++ (a, ds ++ [u]) :: post ∧ ds.length ≤ 1000 ∧ R (.dat u) (pre ++ (a, ds) :: post)) := rfl
theorem vX_comp {g : Gl} {Γ : Gam} {d : Nat} {b : Bool} {τ : Tau} {H : Sto} {R : Kont} {s : Bool} {nt : Nat} {fr : List Nat} {it : X} {ts : XS} {elt : X} : vX g Γ d b τ (.comp s nt fr it ts elt) H R = (vX g Γ d b τ it H fun p H1 => ∃ items H2 keep val, Src p H1 items H2 ∧ items.length ≤ 1000 ∧
      (∀ e ∈ items, ∃ ds, bindD s nt e = some ds ∧ (∀ H', vXif g Γ d false (tau2 τ fr ds) ts H' fun ok H2 => H2 = H' ∧ ok = keep e) ∧
        (keep e = true → ∀ H', vX g Γ d false (tau2 τ fr ds) elt H' fun p H2 => H2 = H' ∧ p = .dat (val e))) ∧
      ∀ D, R (.ref D) ((D, items.filterMap (pickD keep val)) :: H2)) := rfl
theorem vXs_nil {g : Gl} {Γ : Gam} {d : Nat} {b : Bool} {τ : Tau} {H : Sto} {R : List PV → Sto → Prop}  : vXs g Γ d b τ .nil H R = (R [] H) := rfl
theorem vXs_cons {g : Gl} {Γ : Gam} {d : Nat} {b : Bool} {τ : Tau} {H : Sto} {R : List PV → Sto → Prop} {e : X} {es : XS} : vXs g Γ d b τ (.cons e es) H R = (vX g Γ d b τ e H fun p H1 => vXs g Γ d b τ es H1 fun ps H2 => R (p :: ps) H2) := rfl
theorem vXif_nil {g : Gl} {Γ : Gam} {d : Nat} {b : Bool} {τ : Tau} {H : Sto} {R : Bool → Sto → Prop}  : vXif g Γ d b τ .nil H R = (R true H) := rfl
theorem vXif_cons1 {g : Gl} {Γ : Gam} {d : Nat} {b : Bool} {τ : Tau} {H : Sto} {R : Bool → Sto → Prop} {e : X} : vXif g Γ d b τ (.cons e .nil) H R = (vXT g Γ d b τ e H R) := rfl
theorem vXT_cmp {g : Gl} {Γ : Gam} {d : Nat} {b : Bool} {τ : Tau} {H : Sto} {R : Bool → Sto → Prop} {op : CmpOp} {l : X} {r : X} : vXT g Γ d b τ (.cmp op l r) H R = (vX g Γ d b τ l H fun p H1 => vX g Γ d b τ r H1 fun q H2 => vCmp op p q H2 fun c => R c H2) := rfl
theorem vXT_chain {g : Gl} {Γ : Gam} {d : Nat} {b : Bool} {τ : Tau} {H : Sto} {R : Bool → Sto → Prop} {op : CmpOp} {op2 : CmpOp} {l : X} {r : X} {t : X} : vXT g Γ d b τ (.chain op op2 l r t) H R = (vX g Γ d b τ l H fun p H1 => vX g Γ d b τ r H1 fun q H2 => vCmp op p q H2 fun c => if c = true then vX g Γ d b τ t H2 fun w H3 => vCmp op2 q w H3 fun c2 => R c2 H3 else R false H2) := rfl
theorem vXT_not {g : Gl} {Γ : Gam} {d : Nat} {b : Bool} {τ : Tau} {H : Sto} {R : Bool → Sto → Prop} {x : X} : vXT g Γ d b τ (.not x) H R = (vXT g Γ d b τ x H fun c H1 => R (!c) H1) := rfl
theorem vXT_or {g : Gl} {Γ : Gam} {d : Nat} {b : Bool} {τ : Tau} {H : Sto} {R : Bool → Sto → Prop} {x : X} {y : X} : vXT g Γ d b τ (.or x y) H R = (vXT g Γ d b τ x H fun c H1 => if c = true then R true H1 else vXT g Γ d b τ y H1 R) := rfl
theorem vXT_and {g : Gl} {Γ : Gam} {d : Nat} {b : Bool} {τ : Tau} {H : Sto} {R : Bool → Sto → Prop} {x : X} {y : X} : vXT g Γ d b τ (.and x y) H R = (vXT g Γ d b τ x H fun c H1 => if c = true then vXT g Γ d b τ y H1 R else R false H1) := rfl
theorem vXT_fn {g : Gl} {Γ : Gam} {d : Nat} {b : Bool} {τ : Tau} {H : Sto} {R : Bool → Sto → Prop} {i : Nat} {es : XS} : vXT g Γ d b τ (.fn i es) H R = (vXs g Γ d b τ es H fun ps H1 => vDef Γ d b i ps H1 fun v H2 => vBo v fun c => R c H2) := rfl

noncomputable def idxS : List Str → Str → Option Nat
  | [], _ => none
  | y :: r, x => if (y == x) = true then some 0 else (idxS r x).map (· + 1)
noncomputable def grd {α : Type} (c : Bool) (o : Option α) : Option α := if c = true then o else none

noncomputable def cVar (sc : Scope) (ns : List Str) (x : Str) : Option Nat := grd (stor (sc.names.lookup x) && !(x == ("__debug__" : Str))) (idxS ns x)
noncomputable def cEs (c : PySem.Expr → Option X) : List PySem.Expr → Option XS
  | [] => some .nil
  | e :: r => grd (notStar e) ((c e).bind fun x => (cEs c r).bind fun xs => some (.cons x xs))
noncomputable def cTc (c : PySem.Expr → Option X) (l : PySem.Expr) (ops : List CmpOp) (rs : List PySem.Expr) : Option X := match ops with
  | [] => none
  | op :: ops2 => match rs with
    | [] => none
    | r :: rs2 => match ops2 with
      | [] => match rs2 with
        | [] => grd (!behindInMarks op r) ((c l).bind fun a => (c r).bind fun b => some (.cmp op a b))
        | _ :: _ => none
      | op2 :: ops3 => match rs2 with
        | [] => none
        | t :: rs3 => match ops3 with
          | [] => match rs3 with
            | [] => grd (!lastMarks [op, op2] [r, t]) ((c l).bind fun a => (c r).bind fun b => (c t).bind fun w => some (.chain op op2 a b w))
            | _ :: _ => none
          | _ :: _ => none
noncomputable def cTb (c : PySem.Expr → Option X) (op : BoolOp) (xs : List PySem.Expr) : Option X := match xs with
  | [] => none
  | x :: xs2 => match xs2 with
    | [] => none
    | y :: xs3 => match xs3 with
      | [] => (c x).bind fun a => (c y).bind fun b => match op with
        | .Or => some (.or a b)
        | .And => some (.and a b)
      | _ :: _ => none
noncomputable def isFn : X → Bool
  | .fn .. => true
  | _ => false
noncomputable def cT (c : PySem.Expr → Option X) : Nat → PySem.Expr → Option X
  | 0, _ => none
  | n + 1, e => match e with
    | .Compare l ops rs _ => cTc c l ops rs
    | .UnaryOp op x _ => grd (decide (op = .Not)) ((cT c n x).bind fun a => some (.not a))
    | .BoolOp op xs _ => cTb (cT c n) op xs
    | .Call f as ks p => (c (.Call f as ks p)).bind fun a => grd (isFn a) (some a)
    | _ => none
noncomputable def tnames (sc : Scope) : List PySem.Expr → Option (List Str)
  | [] => some []
  | .Name x _ :: r => grd (sc.names.lookup x == some .local) ((tnames sc r).map (x :: ·))
  | _ => none
noncomputable def cTgt (sc : Scope) : PySem.Expr → Option (Bool × List Str)
  | .Name x _ => grd (sc.names.lookup x == some .local) (some (true, [x]))
  | .Tuple ts _ _ => (tnames sc ts).map fun xs => (false, xs)
  | _ => none
noncomputable def freeIdx (scope : Scope) : Nat → List Str → List (Nat × Str)
  | _, [] => []
  | k, x :: r => if freeIn scope x = true then (k, x) :: freeIdx scope (k + 1) r else freeIdx scope (k + 1) r
noncomputable def cIfs (c : PySem.Expr → Option X) : List PySem.Expr → Option XS
  | [] => some .nil
  | [t] => (cT c 20 t).bind fun a => some (.cons a .nil)
  | _ => none
noncomputable def nodupS (l : List Str) : Bool := decide l.Nodup

noncomputable def cConst (c : Const) : Option X := match c with
  | .int i => some (.int i)
  | .str i => some (.str i)
  | .bool i => some (.bool i)
  | _ => none
noncomputable def cCmp (c : PySem.Expr → Option X) (l : PySem.Expr) (ops : List CmpOp) (rs : List PySem.Expr) : Option X := match ops with
  | [] => none
  | op :: ops2 => match rs with
    | [] => none
    | r :: rs2 => match ops2 with
      | [] => match rs2 with
        | [] => grd (!behindInMarks op r) ((c l).bind fun a => (c r).bind fun b => some (.cmp op a b))
        | _ :: _ => none
      | _ :: _ => none
noncomputable def nameOf : PySem.Expr → Option Str
  | .Name x _ => some x
  | _ => none
noncomputable def cSub (c : PySem.Expr → Option X) (sc : Scope) (ns : List Str) (v sl : PySem.Expr) : Option X := (nameOf v).bind fun x => (cVar sc ns x).bind fun i => if isRev sl = true then some (.rev i) else grd (plainIdx sl) ((c sl).bind fun a => some (.sub i a))
noncomputable def cCallN (fns : List Str) (c : PySem.Expr → Option X) (sc : Scope) (x : Str) (as : List PySem.Expr) : Option X :=
  grd (sc.names.lookup x == some .globalImplicit && !(x == ("__debug__" : Str)) && goodArgs as) ((cEs c as).bind fun xs => match biT.lookup x with
      | some k => some (.bi k xs)
      | none => (idxS fns x).bind fun i => some (.fn i xs))
noncomputable def cCallA (c : PySem.Expr → Option X) (sc : Scope) (ns : List Str) (v : PySem.Expr) (m : Str) (ap : Pos) (as : List PySem.Expr) (pos : Pos) : Option X := (nameOf v).bind fun x => match as with
  | [] => grd ((ap.endLine == pos.line) && decide (m = "pop")) ((cVar sc ns x).bind fun i => some (.pop i))
  | e :: as2 => match as2 with
    | [] => grd ((ap.endLine == pos.line) && notStar e) ((cVar sc ns x).bind fun i => (c e).bind fun a => if m = "append" then some (.app i a) else if m = "extend" then some (.ext i a) else none)
    | _ :: _ => none
noncomputable def cCall (fns : List Str) (c : PySem.Expr → Option X) (sc : Scope) (ns : List Str) (f : PySem.Expr) (as : List PySem.Expr) (ks : List Keyword) (pos : Pos) : Option X := match ks with
  | [] => match f with
    | .Name x _ => cCallN fns c sc x as
    | .Attribute v m ap => cCallA c sc ns v m ap as pos
    | _ => none
  | _ :: _ => none
noncomputable def cComp1 (W : Scope → List Str → PySem.Expr → Option X) (sc : Scope) (ns : List Str) (elt : PySem.Expr) (scope : Scope) (tgt iter : PySem.Expr) (ifs : List PySem.Expr) (asy : Int) : Option X :=
  grd (asy == 0 && compOk scope sc && plainIter iter) ((cTgt (relabelS scope sc) tgt).bind fun st => (W sc ns iter).bind fun it =>
        grd (nodupS (st.2 ++ (freeIdx scope 0 ns).map (·.2))) ((cIfs (W (relabelS scope sc) (st.2 ++ (freeIdx scope 0 ns).map (·.2))) ifs).bind fun ts => (W (relabelS scope sc) (st.2 ++ (freeIdx scope 0 ns).map (·.2)) elt).bind fun el =>
          some (.comp st.1 st.2.length ((freeIdx scope 0 ns).map (·.1)) it ts el)))
noncomputable def cComp (W : Scope → List Str → PySem.Expr → Option X) (sc : Scope) (ns : List Str) (elt : PySem.Expr) (gens : List Comprehension) (scope : Scope) : Option X := match gens with
  | [] => none
  | ⟨tgt, iter, ifs, asy⟩ :: gens2 => match gens2 with
    | [] => cComp1 W sc ns elt scope tgt iter ifs asy
    | _ :: _ => none

noncomputable def cE (fns : List Str) : Nat → Scope → List Str → PySem.Expr → Option X
  | 0, _, _, _ => none
  | n + 1, sc, ns, e => match e with
    | .Constant c _ _ => cConst c
    | .Name x _ => (cVar sc ns x).bind fun i => some (.var i)
    | .BinOp l op r _ => (cE fns n sc ns l).bind fun a => (cE fns n sc ns r).bind fun b => some (.bin op a b)
    | .UnaryOp op x _ => grd (decide (op = .USub)) ((cE fns n sc ns x).bind fun a => some (.neg a))
    | .Compare l ops rs _ => cCmp (cE fns n sc ns) l ops rs
    | .IfExp t x y _ => (cT (cE fns n sc ns) 20 t).bind fun w => (cE fns n sc ns x).bind fun a => (cE fns n sc ns y).bind fun b => some (.ife w a b)
    | .Tuple es _ _ => (cEs (cE fns n sc ns) es).bind fun xs => some (.tup xs)
    | .List es _ => (cEs (cE fns n sc ns) es).bind fun xs => some (.lst xs)
    | .Subscript v sl _ => cSub (cE fns n sc ns) sc ns v sl
    | .Call f as ks pos => cCall fns (cE fns n sc ns) sc ns f as ks pos
    | .ListComp elt gens scope _ => cComp (cE fns n) sc ns elt gens scope
    | _ => none
end Mine
end

section
namespace Mine
open PySem.Calls

noncomputable def Sub (ns : List Str) (τ : Tau) (σ : Loc) : Prop := ∀ i x p, ns[i]? = some x → tat τ i = some p → σ.lookup x = some p

theorem idxS_get : ∀ {ns : List Str} {x : Str} {i : Nat}, idxS ns x = some i → ns[i]? = some x
  | [], _, _, h => by cases h
  | y :: r, x, i, h => by
    unfold idxS at h
    split at h
    · rename_i e
      cases h
      rw [beq_iff_eq.mp e]; rfl
    · obtain ⟨j, hj, rfl⟩ := Option.map_eq_some_iff.mp h
      have q := idxS_get hj
      exact q
theorem grd_some {α : Type} {c : Bool} {o : Option α} {a : α} (h : grd c o = some a) : c = true ∧ o = some a := by
  unfold grd at h
  split at h
  · rename_i e; exact ⟨e, h⟩
  · cases h
theorem bnd {α β : Type} {o : Option α} {k : α → Option β} {b : β} (h : o.bind k = some b) : ∃ a, o = some a ∧ k a = some b := Option.bind_eq_some_iff.mp h

noncomputable def SX (g : Gl) (f : Fx) (tl : Led) (c : PySem.Expr → Option X) (V : X → Sto → Kont → Prop) : Prop := ∀ e x, c e = some x → ∀ tl' H R, (∀ q ∈ tl, q ∈ tl') → V x H R → Tr g f (Rep g) (eval e f.env) tl' H R
theorem SX.up {g : Gl} {f : Fx} {tl tl' : Led} {c : PySem.Expr → Option X} {V : X → Sto → Kont → Prop} (h : SX g f tl c V) (hm : ∀ q ∈ tl, q ∈ tl') : SX g f tl' c V := fun e x hc tl2 H R m hv => h e x hc tl2 H R (fun q hq => m q (hm q hq)) hv

theorem datsOf_eq : ∀ {ps : List PV} {ds : List Dat}, datsOf ps = some ds → ps = ds.map PV.dat
  | [], ds, h => by cases h; rfl
  | .dat d :: r, ds, h => by
    obtain ⟨es, he, rfl⟩ := Option.map_eq_some_iff.mp (h : (datsOf r).map (d :: ·) = some ds)
    rw [datsOf_eq he]; rfl
  | .ref _ :: _, _, h => by cases h
  | .rng _ _ :: _, _, h => by cases h
  | .scr :: _, _, h => by cases h
theorem vMk_ok {ps : List PV} {k : List Dat → Prop} (h : vMk ps k) : ∃ ds : List Dat, ps = ds.map PV.dat ∧ ds.length ≤ 1000 ∧ k ds := by
  unfold vMk at h
  split at h
  · rename_i ds e; exact ⟨ds, datsOf_eq e, h.1, h.2⟩
  · exact h.elim
theorem vNg_ok {p : PV} {k : Int → Prop} (h : vNg p k) : ∃ i, p = .dat (.int i) ∧ k i := by
  unfold vNg at h
  split at h
  · exact ⟨_, rfl, h⟩
  · exact h.elim
theorem vRef_ok {p : PV} {k : Addr → Prop} (h : vRef p k) : ∃ i, p = .ref i ∧ k i := by
  unfold vRef at h
  split at h
  · exact ⟨_, rfl, h⟩
  · exact h.elim
theorem vBo_ok {p : PV} {k : Bool → Prop} (h : vBo p k) : ∃ i, p = .dat (.bool i) ∧ k i := by
  unfold vBo at h
  split at h
  · exact ⟨_, rfl, h⟩
  · exact h.elim
theorem vDat_ok {p : PV} {k : Dat → Prop} (h : vDat p k) : ∃ i, p = .dat i ∧ k i := by
  unfold vDat at h
  split at h
  · exact ⟨_, rfl, h⟩
  · exact h.elim

section
variable {g : Gl} {Γ : Gam} {f : Fx} {tl : Led} {d : Nat} {b : Bool} {σ : Loc} {τ : Tau} {ns : List Str} {H : Sto} {R : Kont}

theorem cVar_ok (C : Cx g b d f.A f.env f.h₀) (L : LocRep g tl σ f.comb) (S : Sub ns τ σ) {x : Str} {i : Nat} {pos : Pos} (hc : cVar f.env.scope ns x = some i) (h : vVar τ i H R) : Tr g f (Rep g) (eval (.Name x pos) f.env) tl H R := by
  obtain ⟨h1, h2⟩ := grd_some hc
  rw [Bool.and_eq_true] at h1
  refine vName_ok C L ⟨⟨h1.1, by simpa using h1.2⟩, ?_⟩
  unfold vVar at h
  split at h
  · rename_i p hp
    rw [S i x p (idxS_get h2) hp]
    exact h
  · exact h.elim

theorem cEs_ok {c : PySem.Expr → Option X} {pos : Pos} : ∀ (es : List PySem.Expr) (xs : XS), cEs c es = some xs → ∀ (tl : Led) (H : Sto) (R : List PV → Sto → Prop), SX g f tl c (vX g Γ d b τ) → vXs g Γ d b τ xs H R → Tr g f (RepA g) (spliced (backTo pos (starEach es f.env))) tl H R
  | [], xs, hc, tl, H, R, _, h => by
    cases hc
    exact tr_items_nil (by simpa only [vXs_nil, vXs_cons] using h)
  | e :: es, xs, hc, tl, H, R, hV, h => by
    obtain ⟨h1, h2⟩ := grd_some hc
    obtain ⟨x, h3, h4⟩ := bnd h2
    obtain ⟨ys, h5, h6⟩ := bnd h4
    cases h6
    simp only [vXs_nil, vXs_cons] at h
    exact tr_items_cons h1 (hV e x h3 tl H _ (fun _ q => q) h) (fun p H1 tl1 r m => cEs_ok es ys h5 tl1 H1 _ (hV.up m) r) fun p ps H2 r => r

theorem isFn_eq {x : X} (h : isFn x = true) : ∃ i es, x = .fn i es := by
  cases x <;> first | exact ⟨_, _, rfl⟩ | cases h

def ST (g : Gl) (f : Fx) (tl : Led) (c : PySem.Expr → Option X) (V : X → Sto → (Bool → Sto → Prop) → Prop) : Prop := ∀ e x, c e = some x → ∀ (tl' : Led) (H : Sto) (R : Bool → Sto → Prop), (∀ q ∈ tl, q ∈ tl') → V x H R → Tr g f RepB (isTrue e f.env (eval e f.env)) tl' H R

theorem cTc_ok (C : Cx g b d f.A f.env f.h₀) {c : PySem.Expr → Option X} (hV : SX g f tl c (vX g Γ d b τ)) {l : PySem.Expr} {ops : List CmpOp} {rs : List PySem.Expr} {pos : Pos} {x : X} (hc : cTc c l ops rs = some x) {R : Bool → Sto → Prop} (h : vXT g Γ d b τ x H R) :
    Tr g f RepB (isTrue (.Compare l ops rs pos) f.env (eval (.Compare l ops rs pos) f.env)) tl H R := by
  cases ops with
  | nil => cases hc
  | cons op ops2 =>
    cases rs with
    | nil => cases hc
    | cons r rs2 =>
      cases ops2 with
      | nil =>
        cases rs2 with
        | cons _ _ => cases hc
        | nil =>
          obtain ⟨hm, h2⟩ := grd_some hc
          obtain ⟨a, ha, h4⟩ := bnd h2
          obtain ⟨b', hb, h6⟩ := bnd h4
          cases h6
          simp only [vXT_cmp, vXT_chain, vXT_not, vXT_or, vXT_and, vXT_fn] at h
          exact tr_tCompare (hV _ _ ha tl _ _ (fun _ q => q) h) (fun p H1 tl1 r m => hV _ _ hb tl1 _ _ m r) (fun p q H2 tl2 a b m ra rb r => vCmp_ok C r ra rb) (by simpa using hm)
      | cons op2 ops3 =>
        cases rs2 with
        | nil => cases hc
        | cons t rs3 =>
          cases ops3 with
          | cons _ _ => cases hc
          | nil =>
            cases rs3 with
            | cons _ _ => cases hc
            | nil =>
              obtain ⟨hm, h2⟩ := grd_some hc
              obtain ⟨a, ha, h4⟩ := bnd h2
              obtain ⟨b', hb, h6⟩ := bnd h4
              obtain ⟨w, hw, h8⟩ := bnd h6
              cases h8
              simp only [vXT_cmp, vXT_chain, vXT_not, vXT_or, vXT_and, vXT_fn] at h
              refine tr_tChain (R3 := fun q c H2 => if c = true then vX g Γ d b τ w H2 _ else R false H2) (hV _ _ ha tl _ _ (fun _ q => q) h) (fun p H1 tl1 r m => hV _ _ hb tl1 _ _ m r) (fun p q H2 tl2 a b m ra rb r => vCmp_ok C r ra rb)
                (fun q H3 r => by rw [if_neg Bool.false_ne_true] at r; exact r) (fun q H3 tl3 r m => ?_) (fun p q H2 tl2 a b m ra rb r => vCmp_ok C r ra rb) (by simpa using hm)
              rw [if_pos rfl] at r
              exact hV _ _ hw tl3 _ _ m r

theorem cTb_ok {c : PySem.Expr → Option X} (hT : ST g f tl c (vXT g Γ d b τ)) {op : BoolOp} {xs : List PySem.Expr} {pos : Pos} {x : X} (hc : cTb c op xs = some x) {R : Bool → Sto → Prop} (h : vXT g Γ d b τ x H R) :
    Tr g f RepB (isTrue (.BoolOp op xs pos) f.env (eval (.BoolOp op xs pos) f.env)) tl H R := by
  cases xs with
  | nil => cases hc
  | cons x1 xs2 =>
    cases xs2 with
    | nil => cases hc
    | cons y xs3 =>
      cases xs3 with
      | cons _ _ => cases hc
      | nil =>
        obtain ⟨a, ha, h4⟩ := bnd hc
        obtain ⟨b', hb, h6⟩ := bnd h4
        cases op with
        | Or =>
          cases h6
          simp only [vXT_cmp, vXT_chain, vXT_not, vXT_or, vXT_and, vXT_fn] at h
          refine tr_tOr (hT _ _ ha tl H _ (fun _ q => q) h) (fun H1 r => ?_) (fun H1 tl1 r m => ?_)
          · rw [if_pos rfl] at r; exact r
          · rw [if_neg Bool.false_ne_true] at r; exact hT _ _ hb tl1 H1 _ m r
        | And =>
          cases h6
          simp only [vXT_cmp, vXT_chain, vXT_not, vXT_or, vXT_and, vXT_fn] at h
          refine tr_tAnd (hT _ _ ha tl H _ (fun _ q => q) h) (fun H1 r => ?_) (fun H1 tl1 r m => ?_)
          · rw [if_neg Bool.false_ne_true] at r; exact r
          · rw [if_pos rfl] at r; exact hT _ _ hb tl1 H1 _ m r

theorem cT_ok' (C : Cx g b d f.A f.env f.h₀) {c : PySem.Expr → Option X} (hV : SX g f tl c (vX g Γ d b τ)) : ∀ n, ST g f tl (cT c n) (vXT g Γ d b τ)
  | 0 => fun _ _ hc => by cases hc
  | n + 1 => by
    intro e x hc tl' H R m h
    have hV' := hV.up m
    have hT : ST g f tl' (cT c n) (vXT g Γ d b τ) := fun e x hc tl2 H R m2 h => cT_ok' C hV n e x hc tl2 H R (fun q hq => m2 q (m q hq)) h
    cases e with
    | Compare l ops rs p => exact cTc_ok C hV' hc h
    | UnaryOp op y p =>
      obtain ⟨ho, h2⟩ := grd_some hc
      obtain rfl := of_decide_eq_true ho
      obtain ⟨a, ha, h4⟩ := bnd h2
      cases h4
      simp only [vXT_cmp, vXT_chain, vXT_not, vXT_or, vXT_and, vXT_fn] at h
      exact tr_tNot (hT _ _ ha tl' H _ (fun _ q => q) h)
    | BoolOp op xs p => exact cTb_ok hT hc h
    | Call fn as ks p =>
      obtain ⟨a, ha, h4⟩ := bnd hc
      obtain ⟨hf, h5⟩ := grd_some h4
      cases h5
      obtain ⟨i, es, rfl⟩ := isFn_eq hf
      simp only [vXT_cmp, vXT_chain, vXT_not, vXT_or, vXT_and, vXT_fn] at h
      refine tr_tCall ((hV' _ _ ha tl' H (fun v H2 => vBo v fun c => R c H2) (fun _ q => q) (by simpa only [vX_int, vX_str, vX_bool, vX_var, vX_bin, vX_neg, vX_cmp, vX_ife, vX_tup, vX_lst, vX_sub, vX_rev, vX_bi, vX_fn, vX_app, vX_ext, vX_pop, vX_comp] using h)).mono fun y H' r => ?_)
      exact vBo_ok r
    | _ => cases hc
theorem cT_ok (C : Cx g b d f.A f.env f.h₀) {c : PySem.Expr → Option X} (n : Nat) (e : PySem.Expr) (x : X) (hc : cT c n e = some x) (tl : Led) (H : Sto) (R : Bool → Sto → Prop) (hV : SX g f tl c (vX g Γ d b τ)) (h : vXT g Γ d b τ x H R) : Tr g f RepB (isTrue e f.env (eval e f.env)) tl H R :=
  cT_ok' C hV n e x hc tl H R (fun _ q => q) h

theorem idxS_lookup {β : Type} : ∀ {Γ : List (Str × β)} {x : Str} {i : Nat}, idxS (Γ.map (·.1)) x = some i → ∃ k, Γ.lookup x = some k ∧ ∃ y, Γ[i]? = some (y, k)
  | [], _, _, h => by cases h
  | (y, k) :: r, x, i, h => by
    rw [List.map_cons] at h
    unfold idxS at h
    split at h
    · rename_i e
      cases h
      have e' : y = x := beq_iff_eq.mp e
      exact ⟨k, by rw [List.lookup_cons, e']; simp, y, rfl⟩
    · rename_i e
      obtain ⟨j, hj, rfl⟩ := Option.map_eq_some_iff.mp h
      obtain ⟨k', h1, h2⟩ := idxS_lookup hj
      refine ⟨k', ?_, h2⟩
      rw [List.lookup_cons]
      have e' : (x == y) = false := by
        cases h9 : (x == y) with
        | false => rfl
        | true =>
          exact absurd (by rw [beq_iff_eq.mp h9]; simp) e
      rw [e']; exact h1

theorem cApp_ok (C : Cx g b d f.A f.env f.h₀) (L : LocRep g tl σ f.comb) (S : Sub ns τ σ) {c : PySem.Expr → Option X} (hV : SX g f tl c (vX g Γ d b τ)) {x : Str} {i : Nat} {e : PySem.Expr} {a : X} {px ap pos : Pos} (hc : cVar f.env.scope ns x = some i) (ha : c e = some a)
    (hl : (ap.endLine == pos.line) = true) (hn : notStar e = true) (h : vX g Γ d b τ (.app i a) H R) : Tr g f (Rep g) (eval (.Call (.Attribute (.Name x px) "append" ap) [e] [] pos) f.env) tl H R := by
  simp only [vX_int, vX_str, vX_bool, vX_var, vX_bin, vX_neg, vX_cmp, vX_ife, vX_tup, vX_lst, vX_sub, vX_rev, vX_bi, vX_fn, vX_app, vX_ext, vX_pop, vX_comp] at h
  have hx := cVar_ok (pos := px) C L S hc h
  refine tr_meth1 (id := "list.append") (R1 := fun p q H2 => ∃ a, p = .ref a ∧ vDat q fun u => ∃ pre ds post, H2 = pre ++ (a, ds) :: post ∧ ds.length ≤ 1000 ∧ R (.dat .none) (pre ++ (a, ds ++ [u]) :: post)) PySem.slot_list_append PySem.type_list_append hl hn hx
    (fun p H1 hh => ?_) (fun p H1 tl1 hh mm => ?_) (fun a q H2 tl2 v hh mm rv => ?_)
  · obtain ⟨a, rfl, ⟨ds, h1⟩, h2⟩ := vRef_ok hh; exact ⟨a, ds, rfl, h1⟩
  · obtain ⟨a, rfl, _, h3⟩ := vRef_ok hh
    exact (hV _ _ ha tl1 _ _ mm h3).mono fun q H2 r => ⟨a, rfl, r⟩
  · obtain ⟨a', e, hh⟩ := hh
    cases e
    obtain ⟨u, rfl, pre, ds, post, h1, h2, h3⟩ := vDat_ok hh
    exact tr_append rv h1 h2 h3

theorem cExt_ok (C : Cx g b d f.A f.env f.h₀) (L : LocRep g tl σ f.comb) (S : Sub ns τ σ) {c : PySem.Expr → Option X} (hV : SX g f tl c (vX g Γ d b τ)) {x : Str} {i : Nat} {e : PySem.Expr} {a : X} {px ap pos : Pos} (hc : cVar f.env.scope ns x = some i) (ha : c e = some a)
    (hl : (ap.endLine == pos.line) = true) (hn : notStar e = true) (h : vX g Γ d b τ (.ext i a) H R) : Tr g f (Rep g) (eval (.Call (.Attribute (.Name x px) "extend" ap) [e] [] pos) f.env) tl H R := by
  simp only [vX_int, vX_str, vX_bool, vX_var, vX_bin, vX_neg, vX_cmp, vX_ife, vX_tup, vX_lst, vX_sub, vX_rev, vX_bi, vX_fn, vX_app, vX_ext, vX_pop, vX_comp] at h
  have hx := cVar_ok (pos := px) C L S hc h
  refine tr_meth1 (id := "list.extend") (R1 := fun p q H2 => ∃ a, p = .ref a ∧ vRef q fun c => ∃ pre ds post es, H2 = pre ++ (a, ds) :: post ∧ (c, es) ∈ pre ++ post ∧ ds.length + es.length ≤ 1000 ∧ es ≠ [] ∧ R (.dat .none) (pre ++ (a, ds ++ es) :: post)) PySem.F.slot_list_extend PySem.F.type_list_extend hl hn hx
    (fun p H1 hh => ?_) (fun p H1 tl1 hh mm => ?_) (fun a q H2 tl2 v hh mm rv => ?_)
  · obtain ⟨a, rfl, ⟨ds, h1⟩, h2⟩ := vRef_ok hh; exact ⟨a, ds, rfl, h1⟩
  · obtain ⟨a, rfl, _, h3⟩ := vRef_ok hh
    exact (hV _ _ ha tl1 _ _ mm h3).mono fun q H2 r => ⟨a, rfl, r⟩
  · obtain ⟨a', e, hh⟩ := hh
    cases e
    obtain ⟨c, rfl, pre, ds, post, es, h1, h2, h3, h4, h5⟩ := vRef_ok hh
    cases rv
    exact tr_extend h2 h1 h3 h4 h5

theorem cPop_ok (C : Cx g b d f.A f.env f.h₀) (L : LocRep g tl σ f.comb) (S : Sub ns τ σ) {x : Str} {i : Nat} {px ap pos : Pos} (hc : cVar f.env.scope ns x = some i)
    (hl : (ap.endLine == pos.line) = true) (h : vX g Γ d b τ (.pop i) H R) : Tr g f (Rep g) (eval (.Call (.Attribute (.Name x px) "pop" ap) [] [] pos) f.env) tl H R := by
  simp only [vX_int, vX_str, vX_bool, vX_var, vX_bin, vX_neg, vX_cmp, vX_ife, vX_tup, vX_lst, vX_sub, vX_rev, vX_bi, vX_fn, vX_app, vX_ext, vX_pop, vX_comp] at h
  have hx := cVar_ok (pos := px) C L S hc h
  refine tr_meth0 (id := "list.pop") PySem.F.slot_list_pop PySem.F.type_list_pop hl hx (fun p H1 hh => ?_) (fun a H2 tl2 hh mm => ?_)
  · obtain ⟨a, rfl, pre, ds, u, post, h2, _⟩ := vRef_ok hh
    exact ⟨a, ds ++ [u], rfl, by rw [h2]; exact List.mem_append_right _ (.head _)⟩
  · obtain ⟨a', e, pre, ds, u, post, h2, h3, h4⟩ := vRef_ok hh
    cases e
    exact tr_pop h2 h3 h4

theorem lookup_app {β : Type} {x : Str} : ∀ {l r : List (Str × β)}, (l ++ r).lookup x = (match l.lookup x with
      | some p => some p
      | none => r.lookup x)
  | [], r => rfl
  | (y, p) :: l, r => by
    rw [List.cons_append, List.lookup_cons, List.lookup_cons, lookup_app (l := l)]
    cases (x == y) <;> rfl
theorem tat_some {τ : Tau} {i : Nat} {p : PV} (h : tat τ i = some p) : τ[i]? = some (some p) := by
  unfold tat at h
  split at h
  · rename_i o e; rw [e, h]
  · cases h
theorem tat_of {τ : Tau} {i : Nat} {p : PV} (h : τ[i]? = some (some p)) : tat τ i = some p := by
  unfold tat; rw [h]
theorem lookup_none_of {β : Type} {x : Str} : ∀ {l : List (Str × β)}, (x ∉ l.map (·.1)) → l.lookup x = none
  | [], _ => rfl
  | (y, p) :: l, h => by
    rw [List.map_cons, List.mem_cons, not_or] at h
    rw [List.lookup_cons]
    have : (x == y) = false := by simpa using h.1
    rw [this]
    exact lookup_none_of h.2

/-- one more name in front of all -/
theorem lookup_zip {x : Str} {p : PV} : ∀ {xs : List Str} {ps : List PV} {i : Nat}, xs.Nodup → xs[i]? = some x → ps[i]? = some p → (xs.zip ps).lookup x = some p
  | [], _, _, _, h, _ => by simp at h
  | y :: xs, [], _, _, _, h => by simp at h
  | y :: xs, q :: ps, 0, hn, h1, h2 => by
    simp at h1 h2
    rw [List.zip_cons_cons, List.lookup_cons, h1, h2]
    simp
  | y :: xs, q :: ps, i + 1, hn, h1, h2 => by
    have h1' : xs[i]? = some x := h1
    have h2' : ps[i]? = some p := h2
    rw [List.nodup_cons] at hn
    rw [List.zip_cons_cons, List.lookup_cons]
    have : (x == y) = false := by
      have hm := List.mem_of_getElem? h1'
      simp only [beq_eq_false_iff_ne, ne_eq]
      rintro rfl
      exact hn.1 hm
    rw [this]
    exact lookup_zip hn.2 h1' h2'
theorem lookup_zip_rev {x : Str} {p : PV} {xs : List Str} {ps : List PV} {i : Nat} (hl : xs.length = ps.length) (hn : xs.Nodup) (h1 : xs[i]? = some x) (h2 : ps[i]? = some p) : (xs.zip ps).reverse.lookup x = some p := by
  have hz : (xs.zip ps).reverse = xs.reverse.zip ps.reverse := by
    clear h1 h2 hn
    induction xs generalizing ps with
    | nil => rfl
    | cons y xs ih =>
      cases ps with
      | nil => cases hl
      | cons q ps =>
        have hl' : xs.length = ps.length := by simpa using hl
        rw [List.zip_cons_cons, List.reverse_cons, List.reverse_cons, List.reverse_cons, ih hl', List.zip_append (by simp [hl'])]
        rfl
  rw [hz]
  have hi := (List.getElem?_eq_some_iff.mp h1).1
  refine lookup_zip (i := xs.length - 1 - i) (by unfold List.Nodup at hn ⊢; rw [List.pairwise_reverse]; exact hn.imp fun h => Ne.symm h) ?_ ?_
  · rw [List.getElem?_reverse (by omega)]
    have : xs.length - 1 - (xs.length - 1 - i) = i := by omega
    rw [this]; exact h1
  · rw [List.getElem?_reverse (by omega)]
    have : ps.length - 1 - (xs.length - 1 - i) = i := by omega
    rw [this]; exact h2

theorem sub_push {xs : List Str} {ps : List PV} (hl : xs.length = ps.length) (hn : (xs ++ ns).Nodup) (S : Sub ns τ σ) : Sub (xs ++ ns) (ps.map some ++ τ) ((xs.zip ps).reverse ++ σ) := by
  intro i x p h1 h2
  have h2 := tat_some h2
  rw [lookup_app]
  by_cases hi : i < xs.length
  · rw [List.getElem?_append_left hi] at h1
    rw [List.getElem?_append_left (by simp; omega), List.getElem?_map] at h2
    have h2' : ps[i]? = some p := by simpa using h2
    rw [lookup_zip_rev hl (List.nodup_append.mp hn).1 h1 h2']
  · rw [List.getElem?_append_right (by omega)] at h1
    rw [List.getElem?_append_right (by simp; omega)] at h2
    have hx : x ∉ ((xs.zip ps).reverse).map (·.1) := by
      intro hm
      rw [List.map_reverse, List.mem_reverse, List.map_fst_zip (by omega)] at hm
      exact (List.nodup_append.mp hn).2.2 x hm x (List.mem_of_getElem? h1) rfl
    rw [lookup_none_of hx]
    refine S _ _ _ h1 ?_
    rw [List.length_map, ← hl] at h2
    exact tat_of h2

theorem freeIdx_get {scope : Scope} : ∀ (ns : List Str) (k j : Nat) (i : Nat) (x : Str), (freeIdx scope k ns)[j]? = some (i, x) → freeIn scope x = true ∧ ∃ m, i = k + m ∧ ns[m]? = some x
  | [], _, _, _, _, h => by simp [freeIdx] at h
  | y :: r, k, j, i, x, h => by
    unfold freeIdx at h
    split at h
    · rename_i hy
      cases j with
      | zero =>
        simp at h
        obtain ⟨rfl, rfl⟩ := h
        exact ⟨hy, 0, rfl, rfl⟩
      | succ j =>
        have h' : (freeIdx scope (k + 1) r)[j]? = some (i, x) := h
        obtain ⟨a, m, e, q⟩ := freeIdx_get r (k + 1) j i x h'
        exact ⟨a, m + 1, by omega, q⟩
    · obtain ⟨a, m, e, q⟩ := freeIdx_get r (k + 1) j i x h
      exact ⟨a, m + 1, by omega, q⟩

theorem lookup_filter {P : Str → Bool} {x : Str} : ∀ {σ : Loc}, P x = true → (σ.filter fun q => P q.1).lookup x = σ.lookup x
  | [], _ => rfl
  | (y, p) :: σ, h => by
    rw [List.filter_cons]
    by_cases e : x = y
    · subst e
      rw [if_pos h, List.lookup_cons, List.lookup_cons]
      simp
    · have e' : (x == y) = false := by simpa using e
      split
      · rw [List.lookup_cons, List.lookup_cons, e']
        exact lookup_filter h
      · rw [List.lookup_cons, e']
        exact lookup_filter h

theorem sub_free {scope : Scope} (S : Sub ns τ σ) : Sub ((freeIdx scope 0 ns).map (·.2)) (((freeIdx scope 0 ns).map (·.1)).map (tat τ)) (compLoc scope σ) := by
  intro j x p h1 h2
  have h2 := tat_some h2
  rw [List.getElem?_map] at h1
  rw [List.getElem?_map, List.getElem?_map] at h2
  obtain ⟨⟨i, y⟩, hj, e⟩ := Option.map_eq_some_iff.mp h1
  rw [hj] at h2
  simp at h2
  obtain rfl : y = x := e
  obtain ⟨hf, m, e, q⟩ := freeIdx_get ns 0 j i y hj
  obtain rfl : i = m := by omega
  unfold compLoc
  rw [lookup_filter hf]
  exact S i y p q h2

theorem zipL_push (sc : Scope) : ∀ (ts : List PySem.Expr) (xs : List Str) (ds : List Dat) (acc : Loc), tnames sc ts = some xs → ds.length = xs.length → zipL sc ts ds acc = some ((xs.zip (ds.map PV.dat)).reverse ++ acc)
  | [], xs, ds, acc, h, hl => by
    cases h
    have : ds = [] := by simpa using hl
    subst this; rfl
  | e :: ts, xs, ds, acc, h, hl => by
    unfold tnames at h
    split at h
    · rename_i h0; cases h0
    · rename_i y py r h0
      cases h0
      obtain ⟨h1, h2⟩ := grd_some h
      obtain ⟨ys, h3, rfl⟩ := Option.map_eq_some_iff.mp h2
      cases ds with
      | nil => simp at hl
      | cons d ds =>
        unfold zipL
        rw [if_pos (by simpa using h1), zipL_push sc ts ys ds _ h3 (by simpa using hl)]
        simp
    · cases h

theorem cTgt_ok {sc : Scope} {tgt : PySem.Expr} {s : Bool} {xs : List Str} {e : Dat} {ds : List Dat} {acc : Loc} (h : cTgt sc tgt = some (s, xs)) (hb : bindD s xs.length e = some ds) : ds.length = xs.length ∧ tBindL sc tgt (.dat e) acc = some ((xs.zip (ds.map PV.dat)).reverse ++ acc) := by
  unfold cTgt at h
  split at h
  · obtain ⟨h1, h2⟩ := grd_some h
    cases h2
    unfold bindD at hb
    rw [if_pos rfl] at hb
    cases hb
    refine ⟨rfl, ?_⟩
    rename_i x _
    show (if sc.names.lookup x = some .local then some ((x, PV.dat e) :: acc) else none) = _
    rw [if_pos (by simpa using h1)]
    rfl
  · obtain ⟨ys, h1, h2⟩ := Option.map_eq_some_iff.mp h
    cases h2
    unfold bindD at hb
    rw [if_neg Bool.false_ne_true] at hb
    split at hb
    · split at hb
      · rename_i us hl
        cases hb
        refine ⟨hl, ?_⟩
        unfold tBindL
        exact zipL_push _ _ _ _ _ h1 hl
      · cases hb
    · cases hb
  · cases h

theorem cIfs_ok (C : Cx g b d f.A f.env f.h₀) {c : PySem.Expr → Option X} {ifs : List PySem.Expr} {ts : XS} (hc : cIfs c ifs = some ts) {R : Bool → Sto → Prop} (hV : SX g f tl c (vX g Γ d b τ)) (h : vXif g Γ d b τ ts H R) : Tr g f RepB (testsTree ifs f.env) tl H R := by
  unfold cIfs at hc
  split at hc
  · cases hc
    simp only [vXif_nil, vXif_cons1] at h
    exact tr_retB h fun s Q q => wpAny_tests_nil q
  · rename_i t
    obtain ⟨a, ha, h4⟩ := bnd hc
    cases h4
    simp only [vXif_nil, vXif_cons1] at h
    exact fun s hs Q S k => wpAny_tests_one (cT_ok C 20 t a ha tl H R hV h s hs Q S k)
  · cases hc

/-- a compile step is sound -/
noncomputable def CE (g : Gl) (Γ : Gam) (d : Nat) (fns : List Str) (n : Nat) : Prop := ∀ (b : Bool) (sc : Scope) (ns : List Str) (σ : Loc) (τ : Tau) (f : Fx) (tl : Led), Cx g b d f.A f.env f.h₀ → f.env.scope = sc → LocRep g tl σ f.comb → Sub ns τ σ → SX g f tl (cE fns n sc ns) (vX g Γ d b τ)

theorem cComp_turn {fns : List Str} {n : Nat} (IH : CE g Γ d fns n) (S : Sub ns τ σ) {tgt elt : PySem.Expr} {ifs : List PySem.Expr} {scope : Scope} {s : Bool} {xs : List Str} {ts : XS} {el : X} {keep : Dat → Bool} {val : Dat → Dat} {items : List Dat}
    (h1 : cTgt (relabelS scope f.env.scope) tgt = some (s, xs)) (h2 : (xs ++ (freeIdx scope 0 ns).map (·.2)).Nodup) (h3 : cIfs (cE fns n (relabelS scope f.env.scope) (xs ++ (freeIdx scope 0 ns).map (·.2))) ifs = some ts)
    (h4 : cE fns n (relabelS scope f.env.scope) (xs ++ (freeIdx scope 0 ns).map (·.2)) elt = some el)
    (h : ∀ e ∈ items, ∃ ds, bindD s xs.length e = some ds ∧ (∀ H', vXif g Γ d false (tau2 τ ((freeIdx scope 0 ns).map (·.1)) ds) ts H' fun ok H2 => H2 = H' ∧ ok = keep e) ∧
        (keep e = true → ∀ H', vX g Γ d false (tau2 τ ((freeIdx scope 0 ns).map (·.1)) ds) el H' fun p H2 => H2 = H' ∧ p = .dat (val e))) : TurnOk g f d σ scope tgt elt ifs keep val items := by
  intro e he
  obtain ⟨ds, hb, q1, q2⟩ := h e he
  obtain ⟨hl, hbind⟩ := cTgt_ok (acc := compLoc scope σ) h1 hb
  refine ⟨_, hbind, fun fc tl' eA eS Cc Lc => ?_⟩
  have S2 : Sub (xs ++ (freeIdx scope 0 ns).map (·.2)) (tau2 τ ((freeIdx scope 0 ns).map (·.1)) ds) ((xs.zip (ds.map PV.dat)).reverse ++ compLoc scope σ) := by
    have := sub_push (xs := xs) (ps := ds.map PV.dat) (by simp [hl]) h2 (sub_free (scope := scope) S)
    rw [List.map_map] at this
    exact this
  have hV := IH false _ _ _ _ fc tl' Cc eS Lc S2
  refine ⟨fun H' => ?_, fun hk tl'' H' mm => ?_⟩
  · exact cIfs_ok Cc h3 hV (q1 H')
  · exact hV elt el h4 tl'' H' _ mm (q2 hk H')

theorem nameOf_eq {v : PySem.Expr} {x : Str} (h : nameOf v = some x) : ∃ p, v = .Name x p := by
  cases v <;> first | (cases h; exact ⟨_, rfl⟩) | cases h
theorem cConst_ok {c : Const} {k : Nat} {pos : Pos} {x : X} (hc : cConst c = some x) (h : vX g Γ d b τ x H R) : Tr g f (Rep g) (eval (.Constant c k pos) f.env) tl H R := by
  cases c <;> first | (cases hc; done) | (cases hc; simp only [vX_int, vX_str, vX_bool, vX_var, vX_bin, vX_neg, vX_cmp, vX_ife, vX_tup, vX_lst, vX_sub, vX_rev, vX_bi, vX_fn, vX_app, vX_ext, vX_pop, vX_comp] at h; exact vConst_ok h)
theorem cCmp_ok (C : Cx g b d f.A f.env f.h₀) {c : PySem.Expr → Option X} (hV : SX g f tl c (vX g Γ d b τ)) {l : PySem.Expr} {ops : List CmpOp} {rs : List PySem.Expr} {pos : Pos} {x : X} (hc : cCmp c l ops rs = some x) (h : vX g Γ d b τ x H R) :
    Tr g f (Rep g) (eval (.Compare l ops rs pos) f.env) tl H R := by
  cases ops with
  | nil => cases hc
  | cons op ops2 =>
    cases rs with
    | nil => cases hc
    | cons r rs2 =>
      cases ops2 with
      | cons _ _ => cases hc
      | nil =>
        cases rs2 with
        | cons _ _ => cases hc
        | nil =>
          obtain ⟨hm, h2⟩ := grd_some hc
          obtain ⟨a, ha, h4⟩ := bnd h2
          obtain ⟨b', hb, h6⟩ := bnd h4
          cases h6
          simp only [vX_int, vX_str, vX_bool, vX_var, vX_bin, vX_neg, vX_cmp, vX_ife, vX_tup, vX_lst, vX_sub, vX_rev, vX_bi, vX_fn, vX_app, vX_ext, vX_pop, vX_comp] at h
          exact tr_Compare (hV _ _ ha tl _ _ (fun _ q => q) h) (fun p H1 tl1 r m => hV _ _ hb tl1 _ _ m r) (fun p q H2 tl2 a b m ra rb r => (vCmp_ok (R := fun c H => R (.dat (.bool c)) H) C r ra rb).mono fun y H' hh => by obtain ⟨c, rfl, q⟩ := hh; exact q) (by simpa using hm)
theorem cSub_ok (C : Cx g b d f.A f.env f.h₀) (L : LocRep g tl σ f.comb) (S : Sub ns τ σ) {c : PySem.Expr → Option X} (hV : SX g f tl c (vX g Γ d b τ)) {v sl : PySem.Expr} {pos : Pos} {x : X} (hc : cSub c f.env.scope ns v sl = some x) (h : vX g Γ d b τ x H R) :
    Tr g f (Rep g) (eval (.Subscript v sl pos) f.env) tl H R := by
  obtain ⟨y, hy, hc2⟩ := bnd hc
  obtain ⟨py, rfl⟩ := nameOf_eq hy
  obtain ⟨i, hi, h4⟩ := bnd hc2
  split at h4
  · rename_i hr
    cases h4
    obtain ⟨k, p1, p2, p3, rfl⟩ := isRev_eq hr
    simp only [vX_int, vX_str, vX_bool, vX_var, vX_bin, vX_neg, vX_cmp, vX_ife, vX_tup, vX_lst, vX_sub, vX_rev, vX_bi, vX_fn, vX_app, vX_ext, vX_pop, vX_comp] at h
    exact tr_rev (o := 0) (ds := []) (cVar_ok C L S hi h) fun p H1 r => vRef_ok r |>.elim fun a q => ⟨a, q.2.elim fun ds q2 => ⟨ds, q.1, q2⟩⟩
  · obtain ⟨hp, h5⟩ := grd_some h4
    obtain ⟨a, ha, h6⟩ := bnd h5
    cases h6
    simp only [vX_int, vX_str, vX_bool, vX_var, vX_bin, vX_neg, vX_cmp, vX_ife, vX_tup, vX_lst, vX_sub, vX_rev, vX_bi, vX_fn, vX_app, vX_ext, vX_pop, vX_comp] at h
    intro s hs Q S' k
    refine Subscript_ (cVar_ok C L S hi h s hs _ S' fun p H1 v1 h1 tk1 tl1 hs1 r1 m1 S1 rv1 => ?_)
    refine hV _ _ ha tl1 _ _ m1 r1 _ hs1 _ S1 fun q H2 v2 h2 tk2 tl2 hs2 r2 m2 S2 rv2 => ?_
    refine vIdx_ok C hp r2 (rv1.mono m2) rv2 _ hs2 _ S2 fun y H3 v3 h3 tk3 tl3 hs3 r3 m3 S3 rv3 => ?_
    exact k y H3 v3 h3 tk3 tl3 hs3 r3 (fun z hz => m3 _ (m2 _ (m1 _ hz))) S3 rv3
theorem cCallN_ok {fns : List Str} (G : Gok g Γ) (hf : Γ.map (·.1) = fns) (C : Cx g b d f.A f.env f.h₀) {c : PySem.Expr → Option X} (hV : SX g f tl c (vX g Γ d b τ)) {y : Str} {as : List PySem.Expr} {py pos : Pos} {x : X} (hc : cCallN fns c f.env.scope y as = some x) (h : vX g Γ d b τ x H R) :
    Tr g f (Rep g) (eval (.Call (.Name y py) as [] pos) f.env) tl H R := by
  obtain ⟨hg, h2⟩ := grd_some hc
  simp only [Bool.and_eq_true] at hg
  obtain ⟨xs, hx, h4⟩ := bnd h2
  have hk : f.env.kindOf y = some .globalImplicit := beq_iff_eq.mp hg.1.1
  cases hb : biT.lookup y with
  | some k =>
    rw [hb] at h4
    cases h4
    simp only [vX_int, vX_str, vX_bool, vX_var, vX_bin, vX_neg, vX_cmp, vX_ife, vX_tup, vX_lst, vX_sub, vX_rev, vX_bi, vX_fn, vX_app, vX_ext, vX_pop, vX_comp] at h
    refine vFn_ok G C hk (by simpa using hg.1.2) hg.2 (by rw [hb]; rfl) ((cEs_ok _ _ hx tl H _ hV h).mono fun ps H' r => ?_)
    unfold vFn
    rw [hb]
    exact r
  | none =>
    rw [hb] at h4
    obtain ⟨i, hi, h6⟩ := bnd h4
    cases h6
    simp only [vX_int, vX_str, vX_bool, vX_var, vX_bin, vX_neg, vX_cmp, vX_ife, vX_tup, vX_lst, vX_sub, vX_rev, vX_bi, vX_fn, vX_app, vX_ext, vX_pop, vX_comp] at h
    obtain ⟨⟨k, S1⟩, hlk, y2, hy⟩ := idxS_lookup (Γ := Γ) (by rw [hf]; exact hi)
    refine vFn_ok G C hk (by simpa using hg.1.2) hg.2 (by rw [hlk]; simp) ((cEs_ok _ _ hx tl H _ hV h).mono fun ps H' r => ?_)
    unfold vFn
    rw [hb]
    dsimp only
    rw [hlk]
    unfold vDef at r
    rw [hy] at r
    exact r
theorem cCallA_ok (C : Cx g b d f.A f.env f.h₀) (L : LocRep g tl σ f.comb) (S : Sub ns τ σ) {c : PySem.Expr → Option X} (hV : SX g f tl c (vX g Γ d b τ)) {v : PySem.Expr} {m : Str} {as : List PySem.Expr} {ap pos : Pos} {x : X} (hc : cCallA c f.env.scope ns v m ap as pos = some x) (h : vX g Γ d b τ x H R) :
    Tr g f (Rep g) (eval (.Call (.Attribute v m ap) as [] pos) f.env) tl H R := by
  obtain ⟨y, hy, hc2⟩ := bnd hc
  obtain ⟨py, rfl⟩ := nameOf_eq hy
  cases as with
  | nil =>
    obtain ⟨hg, h2⟩ := grd_some hc2
    rw [Bool.and_eq_true] at hg
    obtain ⟨i, hi, h4⟩ := bnd h2
    cases h4
    have hm := of_decide_eq_true hg.2
    subst hm
    exact cPop_ok C L S hi hg.1 h
  | cons e as2 =>
    cases as2 with
    | cons _ _ => cases hc2
    | nil =>
      obtain ⟨hg, h2⟩ := grd_some hc2
      rw [Bool.and_eq_true] at hg
      obtain ⟨i, hi, h4⟩ := bnd h2
      obtain ⟨a, ha, h6⟩ := bnd h4
      by_cases hm : m = "append"
      · rw [if_pos hm] at h6
        subst hm
        cases h6
        exact cApp_ok C L S hV hi ha hg.1 hg.2 h
      · rw [if_neg hm] at h6
        by_cases hm2 : m = "extend"
        · rw [if_pos hm2] at h6
          subst hm2
          cases h6
          exact cExt_ok C L S hV hi ha hg.1 hg.2 h
        · rw [if_neg hm2] at h6
          cases h6
theorem cCall_ok {fns : List Str} (G : Gok g Γ) (hf : Γ.map (·.1) = fns) (C : Cx g b d f.A f.env f.h₀) (L : LocRep g tl σ f.comb) (S : Sub ns τ σ) {c : PySem.Expr → Option X} (hV : SX g f tl c (vX g Γ d b τ)) {fn : PySem.Expr} {as : List PySem.Expr} {ks : List Keyword} {pos : Pos} {x : X} (hc : cCall fns c f.env.scope ns fn as ks pos = some x) (h : vX g Γ d b τ x H R) :
    Tr g f (Rep g) (eval (.Call fn as ks pos) f.env) tl H R := by
  cases ks with
  | cons _ _ => cases hc
  | nil =>
    cases fn with
    | Name y py => exact cCallN_ok G hf C hV hc h
    | Attribute v m ap => exact cCallA_ok C L S hV hc h
    | _ => cases hc
theorem cComp_ok {fns : List Str} {n : Nat} (IH : CE g Γ d fns n) (C : Cx g b d f.A f.env f.h₀) (L : LocRep g tl σ f.comb) (S : Sub ns τ σ) {elt : PySem.Expr} {gens : List Comprehension} {scope : Scope} {pos : Pos} {x : X} (hc : cComp (cE fns n) f.env.scope ns elt gens scope = some x) (h : vX g Γ d b τ x H R) :
    Tr g f (Rep g) (eval (.ListComp elt gens scope pos) f.env) tl H R := by
  cases gens with
  | nil => cases hc
  | cons gn gens2 =>
    obtain ⟨tgt, iter, ifs, asy⟩ := gn
    cases gens2 with
    | cons _ _ => cases hc
    | nil =>
      obtain ⟨hg, h2⟩ := grd_some hc
      simp only [Bool.and_eq_true] at hg
      obtain ⟨⟨s, xs⟩, h1, h3⟩ := bnd h2
      obtain ⟨it, hit, h4⟩ := bnd h3
      obtain ⟨hnd, h5⟩ := grd_some h4
      obtain ⟨ts, hts, h6⟩ := bnd h5
      obtain ⟨el, hel, h7⟩ := bnd h6
      cases h7
      have ha := beq_iff_eq.mp hg.1.1
      subst ha
      simp only [vX_int, vX_str, vX_bool, vX_var, vX_bin, vX_neg, vX_cmp, vX_ife, vX_tup, vX_lst, vX_sub, vX_rev, vX_bi, vX_fn, vX_app, vX_ext, vX_pop, vX_comp] at h
      refine tr_Comp C hg.1.2 (IH b _ ns σ τ f tl C rfl L S _ _ hit tl _ _ (fun _ q => q) h) L (fun p H1 r => ?_) (plainIter_ok hg.2)
      obtain ⟨items, H2, keep, val, k1, k2, k3, k4⟩ := r
      exact ⟨items, H2, keep, val, k1, k2, cComp_turn IH S h1 (of_decide_eq_true hnd) hts hel k3, k4⟩

theorem cE_step {fns : List Str} (G : Gok g Γ) (hf : Γ.map (·.1) = fns) {n : Nat} (IH : CE g Γ d fns n) : CE g Γ d fns (n + 1) := by
  intro b sc ns σ τ f tl0 C hsc L0 S e x hc tl H R m h
  subst hsc
  have L := L0.mono m
  have hV : SX g f tl (cE fns n f.env.scope ns) (vX g Γ d b τ) := IH b _ ns σ τ f tl C rfl L S
  cases e with
  | Constant c k p => exact cConst_ok hc h
  | Name y p =>
    obtain ⟨i, hi, h4⟩ := bnd hc
    cases h4
    simp only [vX_int, vX_str, vX_bool, vX_var, vX_bin, vX_neg, vX_cmp, vX_ife, vX_tup, vX_lst, vX_sub, vX_rev, vX_bi, vX_fn, vX_app, vX_ext, vX_pop, vX_comp] at h
    exact cVar_ok C L S hi h
  | BinOp l op r p =>
    obtain ⟨a, ha, h4⟩ := bnd hc
    obtain ⟨b', hb, h6⟩ := bnd h4
    cases h6
    simp only [vX_int, vX_str, vX_bool, vX_var, vX_bin, vX_neg, vX_cmp, vX_ife, vX_tup, vX_lst, vX_sub, vX_rev, vX_bi, vX_fn, vX_app, vX_ext, vX_pop, vX_comp] at h
    exact tr_binop (hV _ _ ha tl _ _ (fun _ q => q) h) (fun p H1 tl1 r m => hV _ _ hb tl1 _ _ m r) (fun p q H2 tl2 a b m ra rb r => vBin_ok C r ra rb)
  | UnaryOp op y p =>
    obtain ⟨ho, h2⟩ := grd_some hc
    obtain rfl := of_decide_eq_true ho
    obtain ⟨a, ha, h4⟩ := bnd h2
    cases h4
    simp only [vX_int, vX_str, vX_bool, vX_var, vX_bin, vX_neg, vX_cmp, vX_ife, vX_tup, vX_lst, vX_sub, vX_rev, vX_bi, vX_fn, vX_app, vX_ext, vX_pop, vX_comp] at h
    intro s hs Q S k
    refine wpAny_UnaryOp (hV _ _ ha tl _ _ (fun _ q => q) h s hs _ S fun p H1 v h1 tk1 tl1 hs1 r1 m1 S1 rv => ?_)
    obtain ⟨i, rfl, r⟩ := vNg_ok r1
    obtain ⟨t, rfl⟩ := datIn_int rv
    exact tr_neg r _ hs1 _ S1 fun y H3 v3 h3 tk3 tl3 hs3 r3 m3 S3 rv3 => k y H3 v3 h3 tk3 tl3 hs3 r3 (fun z hz => m3 _ (m1 _ hz)) S3 rv3
  | Compare l ops rs p => exact cCmp_ok C hV hc h
  | IfExp t y z p =>
    obtain ⟨w, hw, h2⟩ := bnd hc
    obtain ⟨a, ha, h4⟩ := bnd h2
    obtain ⟨b', hb, h6⟩ := bnd h4
    cases h6
    simp only [vX_int, vX_str, vX_bool, vX_var, vX_bin, vX_neg, vX_cmp, vX_ife, vX_tup, vX_lst, vX_sub, vX_rev, vX_bi, vX_fn, vX_app, vX_ext, vX_pop, vX_comp] at h
    refine tr_IfExp (cT_ok C 20 _ _ hw tl H _ hV h) (fun H1 tl1 r m => ?_) (fun H1 tl1 r m => ?_)
    · rw [if_pos rfl] at r; exact hV _ _ ha tl1 _ _ m r
    · rw [if_neg Bool.false_ne_true] at r; exact hV _ _ hb tl1 _ _ m r
  | Tuple es k p =>
    obtain ⟨xs, hx, h2⟩ := bnd hc
    cases h2
    simp only [vX_int, vX_str, vX_bool, vX_var, vX_bin, vX_neg, vX_cmp, vX_ife, vX_tup, vX_lst, vX_sub, vX_rev, vX_bi, vX_fn, vX_app, vX_ext, vX_pop, vX_comp] at h
    exact tr_Tuple (cEs_ok _ _ hx tl H _ hV h) fun ps H1 r => vMk_ok r
  | List es p =>
    obtain ⟨xs, hx, h2⟩ := bnd hc
    cases h2
    simp only [vX_int, vX_str, vX_bool, vX_var, vX_bin, vX_neg, vX_cmp, vX_ife, vX_tup, vX_lst, vX_sub, vX_rev, vX_bi, vX_fn, vX_app, vX_ext, vX_pop, vX_comp] at h
    refine tr_List (cEs_ok _ _ hx tl H _ hV h) fun ps H1 r => ?_
    exact vMk_ok r
  | Subscript v sl p => exact cSub_ok C L S hV hc h
  | Call fn as ks p => exact cCall_ok G hf C L S hV hc h
  | ListComp elt gens scope p => exact cComp_ok IH C L S hc h
  | _ => cases hc

theorem cE_ok {fns : List Str} (G : Gok g Γ) (hf : Γ.map (·.1) = fns) : ∀ n, CE g Γ d fns n
  | 0 => fun _ _ _ _ _ _ _ _ _ _ _ _ _ hc => by cases hc
  | n + 1 => cE_step G hf (cE_ok G hf n)
end
end Mine
end

section
namespace Mine
open PySem.Calls

mutual
inductive Y where
  | ret (e : X) | ifs (t : X) (a b : YS) | asg (i : Nat) (e : X) | asgT (is : List Nat) (e : X) | asgS (is : List Nat) (e : X) | sto (v : Nat) (ix e : X) | exp (e : X)
  | for1 (i : Nat) (it : X) (b : YS) | forT (is : List Nat) (it : X) (b : YS) | whl (t : X) (b : YS) | bad
inductive YS where
  | nil | cons (y : Y) (ys : YS)
end

noncomputable abbrev KT := Tau → Sto → Prop
noncomputable def setT : Tau → List Nat → List Dat → Option Tau
  | τ, [], [] => some τ
  | τ, i :: is, e :: ds => setT (τ.set i (some (.dat e))) is ds
  | _, _, _ => none
noncomputable def setR : Tau → List Nat → List Dat → Option Tau
  | τ, [], [] => some τ
  | τ, i :: is, e :: ds => match setR τ is ds with
    | some τ' => some (τ'.set i (some (.dat e)))
    | none => none
  | _, _, _ => none
noncomputable def vTup (p : PV) (k : List Dat → Prop) : Prop := match p with
  | .dat (.tuple ds) => k ds
  | _ => False
noncomputable def vTupL (p : PV) (H : Sto) (k : List Dat → Prop) : Prop := match p with
  | .dat (.tuple ds) => k ds
  | .ref a => ∃ ds, (a, ds) ∈ H ∧ k ds
  | _ => False
noncomputable def vSet (o : Option Tau) (k : Tau → Prop) : Prop := match o with
  | some τ => k τ
  | none => False
noncomputable def bind1 (τ : Tau) (i : Nat) (e : Dat) : Option Tau := some (τ.set i (some (.dat e)))
noncomputable def bindN (τ : Tau) (is : List Nat) (e : Dat) : Option Tau := match e with
  | .tuple ds => setT τ is ds
  | _ => none

mutual
noncomputable def vY (g : Gl) (Γ : Gam) (d : Nat) (b : Bool) : Y → Tau → Sto → KT → Kont → Prop
  | .ret e, τ, H, Rn, Rr => vX g Γ d b τ e H Rr
  | .ifs t x y, τ, H, Rn, Rr => vXT g Γ d b τ t H fun c H1 => if c = true then vYs g Γ d b x τ H1 Rn Rr else vYs g Γ d b y τ H1 Rn Rr
  | .asg i e, τ, H, Rn, Rr => vX g Γ d b τ e H fun p H1 => Rn (τ.set i (some p)) H1
  | .asgT is e, τ, H, Rn, Rr => vX g Γ d b τ e H fun p H1 => vTupL p H1 fun ds => vSet (setT τ is ds) fun τ' => Rn τ' H1
  | .asgS is e, τ, H, Rn, Rr => vX g Γ d b τ e H fun p H1 => vTup p fun ds => ds.length = is.length ∧ vSet (setR τ is ds) fun τ' => Rn τ' H1
  | .sto v ix e, τ, H, Rn, Rr => vX g Γ d b τ e H fun p H1 => vDat p fun u => vVar τ v H1 fun q H2 => vRef q fun a => vX g Γ d b τ ix H2 fun r H3 => vNg r fun k =>
      ∃ pre ds post, H3 = pre ++ (a, ds) :: post ∧ 0 ≤ k ∧ k < ds.length ∧ ds.length ≤ 1000 ∧ Rn τ (pre ++ (a, ds.set k.toNat u) :: post)
  | .exp e, τ, H, Rn, Rr => vX g Γ d b τ e H fun p H1 => Rn τ H1
  | .for1 i it bd, τ, H, Rn, Rr => vX g Γ d b τ it H fun p H1 => ∃ (items : List Dat) (H2 : Sto) (Inv : List Dat → Tau → Sto → Prop), Src p H1 items H2 ∧ Inv [] τ H2 ∧
      (∀ pre e post τ1 H3, items = pre ++ e :: post → Inv pre τ1 H3 → vSet (bind1 τ1 i e) fun τ2 => vYs g Γ d b bd τ2 H3 (fun τ4 H4 => Inv (pre ++ [e]) τ4 H4) Rr) ∧ ∀ τ1 H3, Inv items τ1 H3 → Rn τ1 H3
  | .forT is it bd, τ, H, Rn, Rr => vX g Γ d b τ it H fun p H1 => ∃ (items : List Dat) (H2 : Sto) (Inv : List Dat → Tau → Sto → Prop), Src p H1 items H2 ∧ Inv [] τ H2 ∧
      (∀ pre e post τ1 H3, items = pre ++ e :: post → Inv pre τ1 H3 → vSet (bindN τ1 is e) fun τ2 => vYs g Γ d b bd τ2 H3 (fun τ4 H4 => Inv (pre ++ [e]) τ4 H4) Rr) ∧ ∀ τ1 H3, Inv items τ1 H3 → Rn τ1 H3
  | .whl t bd, τ, H, Rn, Rr => ∃ (Inv : Nat → Tau → Sto → Prop) (n₀ : Nat), Inv n₀ τ H ∧ ∀ n τ1 H1, Inv n τ1 H1 → vXT g Γ d b τ1 t H1 fun c H2 => if c = true then vYs g Γ d b bd τ1 H2 (fun τ2 H3 => ∃ m, m < n ∧ Inv m τ2 H3) Rr else Rn τ1 H2
  | .bad, _, _, _, _ => False
noncomputable def vYs (g : Gl) (Γ : Gam) (d : Nat) (b : Bool) : YS → Tau → Sto → KT → Kont → Prop
  | .nil, τ, H, Rn, Rr => Rn τ H
  | .cons y ys, τ, H, Rn, Rr => vY g Γ d b y τ H (fun τ1 H1 => vYs g Γ d b ys τ1 H1 Rn Rr) Rr
end

theorem vY_ret {g : Gl} {Γ : Gam} {d : Nat} {b : Bool} {τ : Tau} {H : Sto} {Rn : KT} {Rr : Kont} {e : X} : vY g Γ d b (.ret e) τ H Rn Rr = (vX g Γ d b τ e H Rr) := rfl
theorem vY_ifs {g : Gl} {Γ : Gam} {d : Nat} {b : Bool} {τ : Tau} {H : Sto} {Rn : KT} {Rr : Kont} {t : X} {x : YS} {y : YS} : vY g Γ d b (.ifs t x y) τ H Rn Rr = (vXT g Γ d b τ t H fun c H1 => if c = true then vYs g Γ d b x τ H1 Rn Rr else vYs g Γ d b y τ H1 Rn Rr) := rfl
theorem vY_asg {g : Gl} {Γ : Gam} {d : Nat} {b : Bool} {τ : Tau} {H : Sto} {Rn : KT} {Rr : Kont} {i : Nat} {e : X} : vY g Γ d b (.asg i e) τ H Rn Rr = (vX g Γ d b τ e H fun p H1 => Rn (τ.set i (some p)) H1) := rfl
theorem vY_asgT {g : Gl} {Γ : Gam} {d : Nat} {b : Bool} {τ : Tau} {H : Sto} {Rn : KT} {Rr : Kont} {is : List Nat} {e : X} : vY g Γ d b (.asgT is e) τ H Rn Rr = (vX g Γ d b τ e H fun p H1 => vTupL p H1 fun ds => vSet (setT τ is ds) fun τ' => Rn τ' H1) := rfl
theorem vY_asgS {g : Gl} {Γ : Gam} {d : Nat} {b : Bool} {τ : Tau} {H : Sto} {Rn : KT} {Rr : Kont} {is : List Nat} {e : X} : vY g Γ d b (.asgS is e) τ H Rn Rr = (vX g Γ d b τ e H fun p H1 => vTup p fun ds => ds.length = is.length ∧ vSet (setR τ is ds) fun τ' => Rn τ' H1) := rfl
theorem vY_sto {g : Gl} {Γ : Gam} {d : Nat} {b : Bool} {τ : Tau} {H : Sto} {Rn : KT} {Rr : Kont} {v : Nat} {ix : X} {e : X} : vY g Γ d b (.sto v ix e) τ H Rn Rr = (vX g Γ d b τ e H fun p H1 => vDat p fun u => vVar τ v H1 fun q H2 => vRef q fun a => vX g Γ d b τ ix H2 fun r H3 => vNg r fun k =>
      ∃ pre ds post, H3 = pre ++ (a, ds) :: post ∧ 0 ≤ k ∧ k < ds.length ∧ ds.length ≤ 1000 ∧ Rn τ (pre ++ (a, ds.set k.toNat u) :: post)) := rfl
theorem vY_exp {g : Gl} {Γ : Gam} {d : Nat} {b : Bool} {τ : Tau} {H : Sto} {Rn : KT} {Rr : Kont} {e : X} : vY g Γ d b (.exp e) τ H Rn Rr = (vX g Γ d b τ e H fun p H1 => Rn τ H1) := rfl
theorem vY_for1 {g : Gl} {Γ : Gam} {d : Nat} {b : Bool} {τ : Tau} {H : Sto} {Rn : KT} {Rr : Kont} {i : Nat} {it : X} {bd : YS} : vY g Γ d b (.for1 i it bd) τ H Rn Rr = (vX g Γ d b τ it H fun p H1 => ∃ (items : List Dat) (H2 : Sto) (Inv : List Dat → Tau → Sto → Prop), Src p H1 items H2 ∧ Inv [] τ H2 ∧
      (∀ pre e post τ1 H3, items = pre ++ e :: post → Inv pre τ1 H3 → vSet (bind1 τ1 i e) fun τ2 => vYs g Γ d b bd τ2 H3 (fun τ4 H4 => Inv (pre ++ [e]) τ4 H4) Rr) ∧ ∀ τ1 H3, Inv items τ1 H3 → Rn τ1 H3) := rfl
theorem vY_forT {g : Gl} {Γ : Gam} {d : Nat} {b : Bool} {τ : Tau} {H : Sto} {Rn : KT} {Rr : Kont} {is : List Nat} {it : X} {bd : YS} : vY g Γ d b (.forT is it bd) τ H Rn Rr = (vX g Γ d b τ it H fun p H1 => ∃ (items : List Dat) (H2 : Sto) (Inv : List Dat → Tau → Sto → Prop), Src p H1 items H2 ∧ Inv [] τ H2 ∧
      (∀ pre e post τ1 H3, items = pre ++ e :: post → Inv pre τ1 H3 → vSet (bindN τ1 is e) fun τ2 => vYs g Γ d b bd τ2 H3 (fun τ4 H4 => Inv (pre ++ [e]) τ4 H4) Rr) ∧ ∀ τ1 H3, Inv items τ1 H3 → Rn τ1 H3) := rfl
theorem vY_whl {g : Gl} {Γ : Gam} {d : Nat} {b : Bool} {τ : Tau} {H : Sto} {Rn : KT} {Rr : Kont} {t : X} {bd : YS} : vY g Γ d b (.whl t bd) τ H Rn Rr = (∃ (Inv : Nat → Tau → Sto → Prop) (n₀ : Nat), Inv n₀ τ H ∧ ∀ n τ1 H1, Inv n τ1 H1 → vXT g Γ d b τ1 t H1 fun c H2 => if c = true then vYs g Γ d b bd τ1 H2 (fun τ2 H3 => ∃ m, m < n ∧ Inv m τ2 H3) Rr else Rn τ1 H2) := rfl
theorem vY_bad {g : Gl} {Γ : Gam} {d : Nat} {b : Bool} {τ : Tau} {H : Sto} {Rn : KT} {Rr : Kont}  : vY g Γ d b .bad τ H Rn Rr = (False) := rfl
theorem vYs_nil {g : Gl} {Γ : Gam} {d : Nat} {b : Bool} {τ : Tau} {H : Sto} {Rn : KT} {Rr : Kont}  : vYs g Γ d b .nil τ H Rn Rr = (Rn τ H) := rfl
theorem vYs_cons {g : Gl} {Γ : Gam} {d : Nat} {b : Bool} {τ : Tau} {H : Sto} {Rn : KT} {Rr : Kont} {y : Y} {ys : YS} : vYs g Γ d b (.cons y ys) τ H Rn Rr = (vY g Γ d b y τ H (fun τ1 H1 => vYs g Γ d b ys τ1 H1 Rn Rr) Rr) := rfl

noncomputable def nIdx (sc : Scope) (ns : List Str) : List Str → Option (List Nat)
  | [] => some []
  | x :: r => grd (sc.names.lookup x == some .local) ((idxS ns x).bind fun i => (nIdx sc ns r).bind fun is => some (i :: is))
noncomputable def tIdx (sc : Scope) (ns : List Str) : List PySem.Expr → Option (List Nat)
  | [] => some []
  | .Name x _ :: r => grd (stor (sc.names.lookup x)) ((idxS ns x).bind fun i => (tIdx sc ns r).bind fun is => some (i :: is))
  | _ => none

noncomputable def compAsg (sc : Scope) (y : Str) (py : Pos) (e : PySem.Expr) : Bool := match e with
  | .ListComp _ _ scope p => compHere sc y py scope p
  | _ => !isComp e

noncomputable def cAs1 (c : PySem.Expr → Option X) (sc : Scope) (ns : List Str) (t e : PySem.Expr) : Option Y := match t with
  | .Name y py => grd (stor (sc.names.lookup y) && compAsg sc y py e) ((idxS ns y).bind fun i => (c e).bind fun x => some (.asg i x))
  | .Tuple ts _ _ => grd (!isComp e) ((c e).bind fun x => (swpN sc ts e).bind fun o => match o with
    | none => (tIdx sc ns ts).bind fun is => some (.asgT is x)
    | some names => (nIdx sc ns names).bind fun is => some (.asgS is x))
  | .Subscript v ix _ => grd (!isComp e) ((nameOf v).bind fun v => (c e).bind fun x => (cVar sc ns v).bind fun i => (c ix).bind fun w => some (.sto i w x))
  | _ => none
noncomputable def cAs (c : PySem.Expr → Option X) (sc : Scope) (ns : List Str) (ts : List PySem.Expr) (e : PySem.Expr) : Option Y := match ts with
  | [] => none
  | t :: ts2 => match ts2 with
    | [] => cAs1 c sc ns t e
    | _ :: _ => none
noncomputable def cFo1 (c : PySem.Expr → Option X) (sc : Scope) (ns : List Str) (rec : List Stmt → Option YS) (t it : PySem.Expr) (bd : List Stmt) : Option Y := match t with
  | .Name y _ => grd (plainIter it && stor (sc.names.lookup y)) ((idxS ns y).bind fun i => (c it).bind fun x => (rec bd).bind fun ys => some (.for1 i x ys))
  | .Tuple ts _ _ => grd (plainIter it) ((tIdx sc ns ts).bind fun is => (c it).bind fun x => (rec bd).bind fun ys => some (.forT is x ys))
  | _ => none
noncomputable def cFo (c : PySem.Expr → Option X) (sc : Scope) (ns : List Str) (rec : List Stmt → Option YS) (t it : PySem.Expr) (bd oe : List Stmt) : Option Y := match oe with
  | [] => cFo1 c sc ns rec t it bd
  | _ :: _ => none
noncomputable def cWh (c : PySem.Expr → Option X) (rec : List Stmt → Option YS) (t : PySem.Expr) (bd oe : List Stmt) : Option Y := match oe with
  | [] => (cT c 20 t).bind fun w => (rec bd).bind fun ys => some (.whl w ys)
  | _ :: _ => none
noncomputable def cRe (c : PySem.Expr → Option X) (e : Option PySem.Expr) : Option Y := match e with
  | some e => (c e).bind fun x => some (.ret x)
  | none => none
noncomputable def cSt (c : PySem.Expr → Option X) (sc : Scope) (ns : List Str) (rec : List Stmt → Option YS) (s : Stmt) : Option Y := match s with
  | .Return e _ => cRe c e
  | .If t bd oe _ => (cT c 20 t).bind fun w => (rec bd).bind fun x => (rec oe).bind fun y => some (.ifs w x y)
  | .Assign ts e _ => cAs c sc ns ts e
  | .Expr e _ => grd (!isComp e) ((c e).bind fun x => some (.exp x))
  | .For t it bd oe _ => cFo c sc ns rec t it bd oe
  | .While t bd oe _ => cWh c rec t bd oe
  | .Raise .. => some .bad
  | _ => none

noncomputable def cSs (fns : List Str) (sc : Scope) (ns : List Str) : Nat → List Stmt → Option YS
  | 0, _ => none
  | m + 1, ss => match ss with
    | [] => some .nil
    | s :: r => (cSt (cE fns 30 sc ns) sc ns (cSs fns sc ns m) s).bind fun y => (cSs fns sc ns m r).bind fun ys => some (.cons y ys)

theorem swpN_ok {ts : List PySem.Expr} {e : PySem.Expr} {env : Env} {kk : Nat} {tp : Pos} {o : Option (List Str)} (hk : env.scope.kind = .function) (h : swpN env.scope ts e = some o) : swappedStores [.Tuple ts kk tp] e env = pure o := by
  have hb : env.blockKind = .function := by
    unfold Env.blockKind
    rw [hk]; rfl
  unfold swpN at h
  split at h
  · rename_i vs kv pv
    unfold swappedStores
    dsimp only
    have e1 : (!(ts.length == 2 || ts.length == 3) || vs.length != ts.length || env.blockKind != .function) = (!(ts.length == 2 || ts.length == 3) || vs.length != ts.length) := by
      rw [hb]; simp
    rw [e1]
    split at h
    · rename_i c1
      cases h
      rw [if_pos c1]
    · rename_i c1
      rw [if_neg c1]
      split at h
      · rename_i c2
        cases h
        exact if_pos c2
      · rename_i c2
        refine Eq.trans (if_neg c2) ?_
        split at h
        · rename_i c3
          cases h
          exact if_pos c3
        · rename_i c3
          refine Eq.trans (if_neg c3) ?_
          split at h
          · rename_i c4
            cases h
            exact if_pos c4
          · rename_i c4
            refine Eq.trans (if_neg c4) ?_
            split at h
            · cases h
            · rename_i c5
              cases h
              exact if_neg c5
  · rename_i hn
    cases h
    unfold swappedStores
    split
    · rename_i h0
      split at h0
      · rename_i h1
        cases h1
        exact absurd rfl (hn _ _ _)
      · rename_i h1
        cases h1
      · cases h0
    · rfl

noncomputable def setO (o : Option Tau) (i : Nat) (e : Dat) : Option Tau := match o with
  | some τ' => some (τ'.set i (some (.dat e)))
  | none => none
theorem setT_snoc {i : Nat} {e : Dat} : ∀ (is : List Nat) (ds : List Dat) (τ : Tau), setT τ (is ++ [i]) (ds ++ [e]) = setO (setT τ is ds) i e
  | [], [], τ => rfl
  | [], [d], τ => rfl
  | [], d :: d2 :: ds, τ => rfl
  | [j], [], τ => rfl
  | j :: j2 :: is, [], τ => rfl
  | j :: is, d :: ds, τ => setT_snoc is ds (τ.set j (some (.dat d)))
theorem setR_eq : ∀ (is : List Nat) (ds : List Dat) (τ : Tau), setR τ is ds = setT τ is.reverse ds.reverse
  | [], [], τ => rfl
  | i :: is, e :: ds, τ => by
    rw [List.reverse_cons, List.reverse_cons, setT_snoc, ← setR_eq is ds τ]
    rfl
  | [], e :: ds, τ => by
    rw [List.reverse_cons, List.reverse_nil]
    cases ds.reverse <;> rfl
  | i :: is, [], τ => by
    rw [List.reverse_cons, List.reverse_nil]
    cases is.reverse <;> rfl
theorem TrS.mono {g : Gl} {f : Fx} {t : Sem Flow} {tl : Led} {σ : Loc} {H : Sto} {Rn Rn' : KN} {Rr : Kont} (h : TrS g f t tl σ H Rn Rr) (hr : ∀ σ' H', Rn σ' H' → Rn' σ' H') : TrS g f t tl σ H Rn' Rr := fun s hs Q S L kn kr =>
  h s hs Q S L (fun σ' H' mL' cm' cl' h' tk tl' hs' r m c S' L' => kn σ' H' mL' cm' cl' h' tk tl' hs' (hr σ' H' r) m c S' L') kr

theorem sub_set {ns : List Str} {τ : Tau} {σ : Loc} {i : Nat} {x : Str} {p : PV} (hn : ns.Nodup) (S : Sub ns τ σ) (hi : ns[i]? = some x) : Sub ns (τ.set i (some p)) ((x, p) :: σ) := by
  intro j y q hj hq
  have hq := tat_some hq
  rw [List.lookup_cons]
  by_cases e : j = i
  · subst e
    rw [hi] at hj
    cases hj
    have hlt : j < (τ.set j (some p)).length := (List.getElem?_eq_some_iff.mp hq).1
    rw [List.getElem?_set_self (by simpa using hlt)] at hq
    cases hq
    simp
  · rw [List.getElem?_set_ne (fun q => e q.symm)] at hq
    have hxy : (y == x) = false := by
      simp only [beq_eq_false_iff_ne, ne_eq]
      rintro rfl
      obtain ⟨l1, e1⟩ := List.getElem?_eq_some_iff.mp hi
      obtain ⟨l2, e2⟩ := List.getElem?_eq_some_iff.mp hj
      exact e ((List.getElem_inj hn).mp (e2.trans e1.symm))
    rw [hxy]
    exact S j y q hj (tat_of hq)

theorem sub_tIdx {sc : Scope} {ns : List Str} (hn : ns.Nodup) : ∀ (ts : List PySem.Expr) (is : List Nat) (ds : List Dat) (τ τ' : Tau) (σ : Loc), tIdx sc ns ts = some is → setT τ is ds = some τ' → Sub ns τ σ → ∃ σ', zipB sc ts ds σ = some σ' ∧ Sub ns τ' σ'
  | [], is, ds, τ, τ', σ, h, hs, S => by
    cases h
    cases ds with
    | nil => cases hs; exact ⟨σ, rfl, S⟩
    | cons _ _ => cases hs
  | e :: ts, is, ds, τ, τ', σ, h, hs, S => by
    unfold tIdx at h
    split at h
    · rename_i h0; cases h0
    · rename_i x px r h0
      cases h0
      obtain ⟨h1, h2⟩ := grd_some h
      obtain ⟨i, hi, h3⟩ := bnd h2
      obtain ⟨is', hj, h4⟩ := bnd h3
      cases h4
      cases ds with
      | nil => cases hs
      | cons d ds =>
        obtain ⟨σ', e1, e2⟩ := sub_tIdx hn ts is' ds _ τ' ((x, .dat d) :: σ) hj hs (sub_set hn S (idxS_get hi))
        refine ⟨σ', ?_, e2⟩
        unfold zipB
        rw [if_pos h1]
        exact e1
    · cases h

/-- stores from behind -/
noncomputable def okN (sc : Scope) (ns : List Str) : List Str → List Nat → Prop
  | [], [] => True
  | x :: xs, i :: is => (sc.names.lookup x = some .local ∧ ns[i]? = some x) ∧ okN sc ns xs is
  | _, _ => False
theorem okN_app {sc : Scope} {ns : List Str} : ∀ {xs ys : List Str} {is js : List Nat}, okN sc ns xs is → okN sc ns ys js → okN sc ns (xs ++ ys) (is ++ js)
  | [], _, [], _, _, h => h
  | _ :: _, _, _ :: _, _, h, h2 => ⟨h.1, okN_app h.2 h2⟩
  | [], _, _ :: _, _, h, _ => h.elim
  | _ :: _, _, [], _, h, _ => h.elim
theorem okN_rev {sc : Scope} {ns : List Str} : ∀ {xs : List Str} {is : List Nat}, okN sc ns xs is → okN sc ns xs.reverse is.reverse
  | [], [], h => h
  | x :: xs, i :: is, h => by
    rw [List.reverse_cons, List.reverse_cons]
    exact okN_app (okN_rev h.2) ⟨h.1, trivial⟩
  | [], _ :: _, h => h.elim
  | _ :: _, [], h => h.elim
theorem okN_len {sc : Scope} {ns : List Str} : ∀ {xs : List Str} {is : List Nat}, okN sc ns xs is → xs.length = is.length
  | [], [], h => rfl
  | x :: xs, i :: is, h => by rw [List.length_cons, List.length_cons, okN_len h.2]
  | [], _ :: _, h => h.elim
  | _ :: _, [], h => h.elim

theorem sub_nIdx {sc : Scope} {ns : List Str} (hn : ns.Nodup) : ∀ (xs : List Str) (is : List Nat) (ds : List Dat) (τ τ' : Tau) (σ : Loc), okN sc ns xs is → setT τ is ds = some τ' → Sub ns τ σ → ∃ σ', swB sc xs ds σ = some σ' ∧ Sub ns τ' σ'
  | [], [], ds, τ, τ', σ, h, hs, S => by
    cases ds with
    | nil => cases hs; exact ⟨σ, rfl, S⟩
    | cons _ _ => cases hs
  | [], _ :: _, _, _, _, _, h, _, _ => h.elim
  | _ :: _, [], _, _, _, _, h, _, _ => h.elim
  | x :: xs, i :: is, ds, τ, τ', σ, h, hs, S => by
    obtain ⟨⟨h1, hi⟩, hr⟩ := h
    cases ds with
    | nil => cases hs
    | cons d ds =>
      obtain ⟨σ', e1, e2⟩ := sub_nIdx hn xs is ds _ τ' ((x, .dat d) :: σ) hr hs (sub_set hn S hi)
      refine ⟨σ', ?_, e2⟩
      unfold swB
      rw [if_pos h1]
      exact e1
theorem nIdx_all {sc : Scope} {ns : List Str} : ∀ (xs : List Str) (is : List Nat), nIdx sc ns xs = some is → okN sc ns xs is
  | [], is, h => by cases h; exact trivial
  | x :: r, is, h => by
    obtain ⟨h1, h2⟩ := grd_some h
    obtain ⟨i, hi, h3⟩ := bnd h2
    obtain ⟨is', hj, h4⟩ := bnd h3
    cases h4
    exact ⟨⟨by simpa using h1, idxS_get hi⟩, nIdx_all r is' hj⟩
section
variable {g : Gl} {Γ : Gam} {d : Nat} {b : Bool} {ns : List Str} {fns : List Str}

noncomputable def SN (ns : List Str) (Rn : KT) : KN := fun σ' H' => ∃ τ', Sub ns τ' σ' ∧ Rn τ' H'
noncomputable def CS (g : Gl) (Γ : Gam) (d : Nat) (b : Bool) (sc : Scope) (ns : List Str) (rec : List Stmt → Option YS) : Prop := ∀ ss ys, rec ss = some ys → ∀ (σ : Loc) (τ : Tau) (f : Fx) (tl : Led) (H : Sto) (Rn : KT) (Rr : Kont), Cx g b d f.A f.env f.h₀ → f.env.scope = sc → Sub ns τ σ → vYs g Γ d b ys τ H Rn Rr → TrS g f (execs ss f.env) tl σ H (SN ns Rn) Rr

theorem vTup_ok {p : PV} {k : List Dat → Prop} (h : vTup p k) : ∃ ds, p = .dat (.tuple ds) ∧ k ds := by
  unfold vTup at h
  split at h
  · exact ⟨_, rfl, h⟩
  · exact h.elim
theorem vSet_ok {o : Option Tau} {k : Tau → Prop} (h : vSet o k) : ∃ τ, o = some τ ∧ k τ := by
  unfold vSet at h
  split at h
  · exact ⟨_, rfl, h⟩
  · exact h.elim

theorem vTupL_ok {p : PV} {H : Sto} {k : List Dat → Prop} (h : vTupL p H k) : ∃ ds, (p = .dat (.tuple ds) ∨ ∃ a, p = .ref a ∧ (a, ds) ∈ H) ∧ k ds := by
  unfold vTupL at h
  split at h
  · exact ⟨_, .inl rfl, h⟩
  · obtain ⟨ds, h1, h2⟩ := h
    exact ⟨ds, .inr ⟨_, rfl, h1⟩, h2⟩
  · exact h.elim

theorem trs_AssignTL {f : Fx} {tl : Led} {H : Sto} {σ : Loc} {Rn : KN} {Rr : Kont} (C : Cx g b d f.A f.env f.h₀) {ts : List PySem.Expr} {kk : Nat} {tp pos : Pos} {e : PySem.Expr} {R1 : PV → Sto → Prop} (h : Tr g f (Rep g) (eval e f.env) tl H R1)
    (hn : ∀ p H1, R1 p H1 → ∃ ds σ', (p = .dat (.tuple ds) ∨ ∃ a, p = .ref a ∧ (a, ds) ∈ H1) ∧ zipB f.env.scope ts ds σ = some σ' ∧ Rn σ' H1)
    (hs : swapsWithSole [.Tuple ts kk tp] e pos.line f.env = pure false) (hw : swappedStores [.Tuple ts kk tp] e f.env = pure none) : TrS g f (exec (.Assign [.Tuple ts kk tp] e pos) f.env) tl σ H Rn Rr := fun s hss Q S L kn kr => by
  refine Assign_Tuple (h s hss _ S fun p H1 v h1 tk tl1 hs1 r m S1 rv => ?_) hs hw
  obtain ⟨ds, σ', hp, hb, hr⟩ := hn p H1 r
  rcases hp with rfl | ⟨a, rfl, hm⟩
  · exact st_target C (p := .dat (.tuple ds)) hb S1 (L.mono m) rv fun mL' cm' cl' h' tk' hc S' L' => kn _ H1 mL' cm' cl' h' tk' tl1 hs1 hr m hc S' L'
  · cases rv
    obtain ⟨vs, n, m2, da, il⟩ := S1.isList hm
    obtain ⟨z1, z2⟩ := zip_shape _ f.env _ _ _ _ hb
    rw [PyProof.Rows.assign_Tuple]
    refine wpAny_bind (wpAny_standAt ?_)
    unfold unpack
    rw [show (assignEach ts f.env).length = vs.toArray.size by rw [z1, List.size_toArray, da.length], z2]
    refine wpAny_bind (wpAny_holding (kun_itemsOf C.hh il fun h' he => ?_))
    have S' : f.St h' tl1 H1 hs1 := S1.keeps fun b o e => he b o (Nat.ne_of_lt (Heap.lt_size e)) e
    exact st_assigns g d b f.h₀ f.A f.env C ts vs ds σ σ' f { s with heap := h', toks := tk } tl1 H1 hs1 _ rfl rfl rfl hb da S' (L.mono m) fun mL' cm' cl' h2 tk' hc S2 L2 => kn _ H1 mL' cm' cl' h2 tk' tl1 hs1 hr m hc S2 L2

theorem cAsg_ok (G : Gok g Γ) (hf : Γ.map (·.1) = fns) (hn : ns.Nodup) {n : Nat} {f : Fx} {tl : Led} {σ : Loc} {τ : Tau} {H : Sto} {Rn : KT} {Rr : Kont} (C : Cx g b d f.A f.env f.h₀) (S : Sub ns τ σ) {y : Str} {py pos : Pos} {e : PySem.Expr} {i : Nat} {x : X}
    (h1 : stor (f.env.scope.names.lookup y) = true) (h2 : compAsg f.env.scope y py e = true) (hi : idxS ns y = some i) (hx : cE fns n f.env.scope ns e = some x) (h : vX g Γ d b τ x H fun p H1 => Rn (τ.set i (some p)) H1) :
    TrS g f (exec (.Assign [.Name y py] e pos) f.env) tl σ H (SN ns Rn) Rr := by
  intro s hs Q S' L kn kr
  have hset : ∀ p : PV, Sub ns (τ.set i (some p)) ((y, p) :: σ) := fun p => sub_set hn S (idxS_get hi)
  have plain : isComp e = false → wpAny g.M f.A (exec (.Assign [.Name y py] e pos) f.env) Q (fun _ _ => False) s := fun hh => by
    refine trs_Assign C h1 (cE_ok G hf n b _ ns σ τ f tl C rfl L S e x hx tl H _ (fun _ q => q) h) (fun p H1 r => ?_) (swaps_no hh) s hs Q S' L kn kr
    exact ⟨_, hset p, r⟩
  cases e with
  | ListComp elt gens scope p =>
    cases n with
    | zero => cases hx
    | succ n =>
      cases gens with
      | nil => cases hx
      | cons gn gens2 =>
        obtain ⟨tgt, iter, ifs, asy⟩ := gn
        cases gens2 with
        | cons _ _ => cases hx
        | nil =>
          obtain ⟨hg, h2'⟩ := grd_some hx
          simp only [Bool.and_eq_true] at hg
          obtain ⟨⟨s', xs⟩, h1', h3⟩ := bnd h2'
          obtain ⟨it, hit, h4⟩ := bnd h3
          obtain ⟨hnd, h5⟩ := grd_some h4
          obtain ⟨ts, hts, h6⟩ := bnd h5
          obtain ⟨el, hel, h7⟩ := bnd h6
          cases h7
          have ha := beq_iff_eq.mp hg.1.1
          subst ha
          simp only [vX_int, vX_str, vX_bool, vX_var, vX_bin, vX_neg, vX_cmp, vX_ife, vX_tup, vX_lst, vX_sub, vX_rev, vX_bi, vX_fn, vX_app, vX_ext, vX_pop, vX_comp] at h
          have hV := cE_ok G hf n b _ ns σ τ f tl C rfl L S
          refine trs_AssignComp C hg.1.2 (hV _ _ hit tl _ _ (fun _ q => q) h) L h1 (fun p H1 r => ?_) (plainIter_ok hg.2) (swaps_yes C.hk h2) s hs Q S' L kn kr
          obtain ⟨items, H2, keep, val, k1, k2, k3, k4⟩ := r
          exact ⟨items, H2, keep, val, k1, k2, cComp_turn (cE_ok G hf n) S h1' (of_decide_eq_true hnd) hts hel k3, fun D => ⟨_, hset _, k4 D⟩⟩
  | SetComp _ _ _ _ => cases h2
  | DictComp _ _ _ _ _ => cases h2
  | _ => exact plain rfl

section
variable {f : Fx} {tl : Led} {σ : Loc} {τ : Tau} {H : Sto} {Rn : KT} {Rr : Kont}

theorem cAsT_ok (G : Gok g Γ) (hf : Γ.map (·.1) = fns) (hn : ns.Nodup) (C : Cx g b d f.A f.env f.h₀) (S : Sub ns τ σ) {ts : List PySem.Expr} {kk : Nat} {tp pos : Pos} {e : PySem.Expr} {y : Y} (hc : cAs1 (cE fns 30 f.env.scope ns) f.env.scope ns (.Tuple ts kk tp) e = some y) (h : vY g Γ d b y τ H Rn Rr) :
    TrS g f (exec (.Assign [.Tuple ts kk tp] e pos) f.env) tl σ H (SN ns Rn) Rr := by
  obtain ⟨hg, h2⟩ := grd_some hc
  have hg' := by simpa using hg
  obtain ⟨x, hx, h4⟩ := bnd h2
  obtain ⟨o, ho, h6⟩ := bnd h4
  intro s hs Q S' L kn kr
  cases o with
  | none =>
    obtain ⟨is, hi, h8⟩ := bnd h6
    cases h8
    simp only [vY_ret, vY_ifs, vY_asg, vY_asgT, vY_asgS, vY_sto, vY_exp, vY_for1, vY_forT, vY_whl, vY_bad] at h
    refine trs_AssignTL C (cE_ok G hf 30 b _ ns σ τ f tl C rfl L S _ x hx tl H _ (fun _ q => q) h) (fun p H1 r => ?_) (swapsSole_no hg') (swpN_ok C.hk ho) s hs Q S' L kn kr
    obtain ⟨ds, hp, r⟩ := vTupL_ok r
    obtain ⟨τ', e, r⟩ := vSet_ok r
    obtain ⟨σ', e1, e2⟩ := sub_tIdx hn _ _ _ _ _ σ hi e S
    exact ⟨ds, σ', hp, e1, τ', e2, r⟩
  | some names =>
    obtain ⟨is, hi, h8⟩ := bnd h6
    cases h8
    simp only [vY_ret, vY_ifs, vY_asg, vY_asgT, vY_asgS, vY_sto, vY_exp, vY_for1, vY_forT, vY_whl, vY_bad] at h
    refine trs_AssignS C (cE_ok G hf 30 b _ ns σ τ f tl C rfl L S _ x hx tl H _ (fun _ q => q) h) (fun p H1 r => ?_) (swapsSole_no hg') (swpN_ok C.hk ho) s hs Q S' L kn kr
    obtain ⟨ds, rfl, hl, r⟩ := vTup_ok r
    obtain ⟨τ', e, r⟩ := vSet_ok r
    rw [setR_eq] at e
    have ok := nIdx_all _ _ hi
    obtain ⟨σ', e1, e2⟩ := sub_nIdx hn _ _ _ _ _ σ (okN_rev ok) e S
    exact ⟨ds, σ', rfl, by rw [hl, okN_len ok], e1, τ', e2, r⟩

theorem cAsI_ok (G : Gok g Γ) (hf : Γ.map (·.1) = fns) (C : Cx g b d f.A f.env f.h₀) (S : Sub ns τ σ) {v ix : PySem.Expr} {tp pos : Pos} {e : PySem.Expr} {y : Y} (hc : cAs1 (cE fns 30 f.env.scope ns) f.env.scope ns (.Subscript v ix tp) e = some y) (h : vY g Γ d b y τ H Rn Rr) :
    TrS g f (exec (.Assign [.Subscript v ix tp] e pos) f.env) tl σ H (SN ns Rn) Rr := by
  obtain ⟨hg, h2⟩ := grd_some hc
  have hg' := by simpa using hg
  obtain ⟨z, hz, h3⟩ := bnd h2
  obtain ⟨pz, rfl⟩ := nameOf_eq hz
  obtain ⟨x, hx, h4⟩ := bnd h3
  obtain ⟨i, hi, h6⟩ := bnd h4
  obtain ⟨w, hw, h8⟩ := bnd h6
  cases h8
  simp only [vY_ret, vY_ifs, vY_asg, vY_asgT, vY_asgS, vY_sto, vY_exp, vY_for1, vY_forT, vY_whl, vY_bad] at h
  intro s hs Q S' L kn kr
  refine trs_Store (cE_ok G hf 30 b _ ns σ τ f tl C rfl L S _ x hx tl H _ (fun _ q => q) h) (R2 := fun p q H2 => vDat p fun u => vRef q fun a => vX g Γ d b τ w H2 fun r H3 => vNg r fun k =>
      ∃ pre ds post, H3 = pre ++ (a, ds) :: post ∧ 0 ≤ k ∧ k < ds.length ∧ ds.length ≤ 1000 ∧ Rn τ (pre ++ (a, ds.set k.toNat u) :: post))
    (R3 := fun p q r H3 => vDat p fun u => vRef q fun a => vNg r fun k => ∃ pre ds post, H3 = pre ++ (a, ds) :: post ∧ 0 ≤ k ∧ k < ds.length ∧ ds.length ≤ 1000 ∧ Rn τ (pre ++ (a, ds.set k.toNat u) :: post))
    (fun p H1 tl1 r m => ?_) (fun p q H2 tl2 r m => ?_) (fun p q r H3 hh => ?_) (swaps_no hg') s hs Q S' L kn kr
  · obtain ⟨u, rfl, r⟩ := vDat_ok r
    refine cVar_ok C (L.mono m) S hi ?_
    unfold vVar at r ⊢
    split at r
    · exact r
    · exact r.elim
  · obtain ⟨u, rfl, r⟩ := vDat_ok r
    obtain ⟨a, rfl, r⟩ := vRef_ok r
    exact cE_ok G hf 30 b _ ns σ τ f tl2 C rfl (L.mono m) S _ w hw tl2 H2 _ (fun _ q => q) r
  · obtain ⟨u, rfl, hh⟩ := vDat_ok hh
    obtain ⟨a, rfl, hh⟩ := vRef_ok hh
    obtain ⟨k, rfl, pre, ds, post, k1, k2, k3, k4, k5⟩ := vNg_ok hh
    exact ⟨u, a, pre, post, ds, k, rfl, rfl, rfl, k1, k2, k3, k4, τ, S, k5⟩

theorem cFo_ok (G : Gok g Γ) (hf : Γ.map (·.1) = fns) (hn : ns.Nodup) {rec : List Stmt → Option YS} (IH : CS g Γ d b f.env.scope ns rec) (C : Cx g b d f.A f.env f.h₀) (S : Sub ns τ σ) {t it : PySem.Expr} {bd oe : List Stmt} {pos : Pos} {y : Y} (hc : cFo (cE fns 30 f.env.scope ns) f.env.scope ns rec t it bd oe = some y) (h : vY g Γ d b y τ H Rn Rr) :
    TrS g f (exec (.For t it bd oe pos) f.env) tl σ H (SN ns Rn) Rr := by
  cases oe with
  | cons _ _ => cases hc
  | nil =>
    cases t with
    | Name y py =>
      obtain ⟨hg, h2⟩ := grd_some hc
      rw [Bool.and_eq_true] at hg
      obtain ⟨i, hi, h4⟩ := bnd h2
      obtain ⟨x, hx, h6⟩ := bnd h4
      obtain ⟨ys, hy, h8⟩ := bnd h6
      cases h8
      simp only [vY_ret, vY_ifs, vY_asg, vY_asgT, vY_asgS, vY_sto, vY_exp, vY_for1, vY_forT, vY_whl, vY_bad] at h
      intro s hs Q S' L kn kr
      refine trs_For C (cE_ok G hf 30 b _ ns σ τ f tl C rfl L S _ x hx tl H _ (fun _ q => q) h) (fun p H1 r => ?_) (plainIter_ok hg.1) s hs Q S' L kn kr
      obtain ⟨items, H2, Inv, k1, k2, k3, k4⟩ := r
      refine ⟨items, H2, fun pre => SN ns (Inv pre), k1, ⟨τ, S, k2⟩, fun pre e post σ1 H3 he hI => ?_, fun σ1 H3 hI => ?_⟩
      · obtain ⟨τ1, S1, hI⟩ := hI
        have hb := k3 pre e post τ1 H3 he hI
        refine ⟨_, if_pos hg.2, fun fz mL cm cl tl3 => ?_⟩
        exact IH _ _ hy _ _ ((f.frz fz).loc mL cm cl) tl3 H3 _ Rr C rfl (sub_set hn S1 (idxS_get hi)) hb
      · obtain ⟨τ1, S1, hI⟩ := hI
        exact ⟨τ1, S1, k4 τ1 H3 hI⟩
    | Tuple ts kk tp =>
      obtain ⟨hg, h2⟩ := grd_some hc
      obtain ⟨is, hi, h4⟩ := bnd h2
      obtain ⟨x, hx, h6⟩ := bnd h4
      obtain ⟨ys, hy, h8⟩ := bnd h6
      cases h8
      simp only [vY_ret, vY_ifs, vY_asg, vY_asgT, vY_asgS, vY_sto, vY_exp, vY_for1, vY_forT, vY_whl, vY_bad] at h
      intro s hs Q S' L kn kr
      refine trs_For C (cE_ok G hf 30 b _ ns σ τ f tl C rfl L S _ x hx tl H _ (fun _ q => q) h) (fun p H1 r => ?_) (plainIter_ok hg) s hs Q S' L kn kr
      obtain ⟨items, H2, Inv, k1, k2, k3, k4⟩ := r
      refine ⟨items, H2, fun pre => SN ns (Inv pre), k1, ⟨τ, S, k2⟩, fun pre e post σ1 H3 he hI => ?_, fun σ1 H3 hI => ?_⟩
      · obtain ⟨τ1, S1, hI⟩ := hI
        obtain ⟨τ2, hb, hv⟩ := vSet_ok (k3 pre e post τ1 H3 he hI)
        cases e with
        | tuple ds =>
          obtain ⟨σ', e1, e2⟩ := sub_tIdx hn _ _ _ _ _ σ1 hi hb S1
          refine ⟨σ', e1, fun fz mL cm cl tl3 => ?_⟩
          exact IH _ _ hy _ _ ((f.frz fz).loc mL cm cl) tl3 H3 _ Rr C rfl e2 hv
        | _ => cases hb
      · obtain ⟨τ1, S1, hI⟩ := hI
        exact ⟨τ1, S1, k4 τ1 H3 hI⟩
    | _ => cases hc

theorem cWh_ok (G : Gok g Γ) (hf : Γ.map (·.1) = fns) (hn : ns.Nodup) {rec : List Stmt → Option YS} (IH : CS g Γ d b f.env.scope ns rec) (C : Cx g b d f.A f.env f.h₀) (S : Sub ns τ σ) {t : PySem.Expr} {bd oe : List Stmt} {pos : Pos} {y : Y} (hc : cWh (cE fns 30 f.env.scope ns) rec t bd oe = some y) (h : vY g Γ d b y τ H Rn Rr) :
    TrS g f (exec (.While t bd oe pos) f.env) tl σ H (SN ns Rn) Rr := by
  cases oe with
  | cons _ _ => cases hc
  | nil =>
    obtain ⟨w, hw, h2⟩ := bnd hc
    obtain ⟨ys, hy, h4⟩ := bnd h2
    cases h4
    simp only [vY_ret, vY_ifs, vY_asg, vY_asgT, vY_asgS, vY_sto, vY_exp, vY_for1, vY_forT, vY_whl, vY_bad] at h
    intro s hs Q S' L kn kr
    obtain ⟨Inv, n₀, k1, k2⟩ := h
    refine trs_While C (fun n => SN ns (Inv n)) n₀ ⟨τ, S, k1⟩ (fun n σ1 c H2 => ∃ τ1, Sub ns τ1 σ1 ∧ if c = true then vYs g Γ d b ys τ1 H2 (fun τ2 H3 => ∃ m, m < n ∧ Inv m τ2 H3) Rr else Rn τ1 H2)
      (fun n σ1 H1 tl1 mL cm cl hI m L1 => ?_) (fun n σ1 H1 tl1 mL cm cl hh m => ?_) (fun n σ1 H1 hh => ?_) s hs Q S' L kn kr
    · obtain ⟨τ1, S1, hI⟩ := hI
      exact (cT_ok (f := f.loc mL cm cl) C 20 _ w hw tl1 H1 _ (cE_ok G hf 30 b _ ns σ1 τ1 (f.loc mL cm cl) tl1 C rfl L1 S1) (k2 n τ1 H1 hI)).mono fun c H' r => ⟨τ1, S1, r⟩
    · obtain ⟨τ1, S1, hh⟩ := hh
      rw [if_pos rfl] at hh
      refine (IH _ _ hy _ _ (f.loc mL cm cl) tl1 H1 _ Rr C rfl S1 hh).mono fun σ2 H2 q => ?_
      obtain ⟨τ2, S2, m', hm, q⟩ := q
      exact ⟨m', hm, τ2, S2, q⟩
    · obtain ⟨τ1, S1, hh⟩ := hh
      rw [if_neg Bool.false_ne_true] at hh
      exact ⟨τ1, S1, hh⟩
end

theorem cSt_ok (G : Gok g Γ) (hf : Γ.map (·.1) = fns) (hn : ns.Nodup) {sc : Scope} {rec : List Stmt → Option YS} (IH : CS g Γ d b sc ns rec) {st : Stmt} {y : Y} (hc : cSt (cE fns 30 sc ns) sc ns rec st = some y) (σ : Loc) (τ : Tau) (f : Fx) (tl : Led) (H : Sto) (Rn : KT) (Rr : Kont)
    (C : Cx g b d f.A f.env f.h₀) (hsc : f.env.scope = sc) (S : Sub ns τ σ) (h : vY g Γ d b y τ H Rn Rr) : TrS g f (exec st f.env) tl σ H (SN ns Rn) Rr := by
  subst hsc
  cases st with
  | Return e p =>
    cases e with
    | none => cases hc
    | some e =>
      obtain ⟨x, hx, h2⟩ := bnd hc
      cases h2
      simp only [vY_ret, vY_ifs, vY_asg, vY_asgT, vY_asgS, vY_sto, vY_exp, vY_for1, vY_forT, vY_whl, vY_bad] at h
      intro s hs Q S' L kn kr
      exact trs_Return (cE_ok G hf 30 b _ ns σ τ f tl C rfl L S _ x hx tl H _ (fun _ q => q) h) s hs Q S' L kn kr
  | If t bd oe p =>
    obtain ⟨w, hw, h2⟩ := bnd hc
    obtain ⟨x, hx, h4⟩ := bnd h2
    obtain ⟨z, hz, h6⟩ := bnd h4
    cases h6
    simp only [vY_ret, vY_ifs, vY_asg, vY_asgT, vY_asgS, vY_sto, vY_exp, vY_for1, vY_forT, vY_whl, vY_bad] at h
    intro s hs Q S' L kn kr
    refine trs_If (cT_ok C 20 _ w hw tl H _ (cE_ok G hf 30 b _ ns σ τ f tl C rfl L S) h) (fun c H1 tl1 r m => ?_) s hs Q S' L kn kr
    cases c with
    | true =>
      rw [if_pos rfl] at r ⊢
      exact IH _ _ hx σ τ f tl1 H1 Rn Rr C rfl S r
    | false =>
      rw [if_neg Bool.false_ne_true] at r ⊢
      exact IH _ _ hz σ τ f tl1 H1 Rn Rr C rfl S r
  | Assign ts e p =>
    cases ts with
    | nil => cases hc
    | cons t ts2 =>
      cases ts2 with
      | cons _ _ => cases hc
      | nil =>
        cases t with
        | Name y py =>
          obtain ⟨hg, h2⟩ := grd_some hc
          rw [Bool.and_eq_true] at hg
          obtain ⟨i, hi, h4⟩ := bnd h2
          obtain ⟨x, hx, h6⟩ := bnd h4
          cases h6
          simp only [vY_ret, vY_ifs, vY_asg, vY_asgT, vY_asgS, vY_sto, vY_exp, vY_for1, vY_forT, vY_whl, vY_bad] at h
          exact cAsg_ok G hf hn C S hg.1 hg.2 hi hx h
        | Tuple ts kk tp => exact cAsT_ok G hf hn C S hc h
        | Subscript v ix tp => exact cAsI_ok G hf C S hc h
        | _ => cases hc
  | Expr e p =>
    obtain ⟨hg, h2⟩ := grd_some hc
    obtain ⟨x, hx, h4⟩ := bnd h2
    cases h4
    simp only [vY_ret, vY_ifs, vY_asg, vY_asgT, vY_asgS, vY_sto, vY_exp, vY_for1, vY_forT, vY_whl, vY_bad] at h
    intro s hs Q S' L kn kr
    have hint : interactive f.env = false := by
      unfold interactive
      rw [C.hk]; rfl
    exact trs_Expr (cE_ok G hf 30 b _ ns σ τ f tl C rfl L S _ x hx tl H _ (fun _ q => q) h) (fun p H1 r => ⟨τ, S, r⟩) hint (swaps_no (by simpa using hg)) s hs Q S' L kn kr
  | For t it bd oe p => exact cFo_ok G hf hn IH C S hc h
  | While t bd oe p => exact cWh_ok G hf hn IH C S hc h
  | Raise _ _ _ =>
    cases hc
    simp only [vY_ret, vY_ifs, vY_asg, vY_asgT, vY_asgS, vY_sto, vY_exp, vY_for1, vY_forT, vY_whl, vY_bad] at h
  | _ => cases hc

theorem cSs_ok (G : Gok g Γ) (hf : Γ.map (·.1) = fns) (hn : ns.Nodup) {sc : Scope} : ∀ m, CS g Γ d b sc ns (cSs fns sc ns m)
  | 0 => fun _ _ hc => by cases hc
  | m + 1 => by
    intro ss ys hc σ τ f tl H Rn Rr C hsc S h
    unfold cSs at hc
    split at hc
    · cases hc
      simp only [vYs_nil, vYs_cons] at h
      exact trs_nil ⟨τ, S, h⟩
    · obtain ⟨y, hy, h2⟩ := bnd hc
      obtain ⟨ys', hys, h4⟩ := bnd h2
      cases h4
      simp only [vYs_nil, vYs_cons] at h
      refine trs_cons (cSt_ok G hf hn (cSs_ok G hf hn m) hy σ τ f tl H _ Rr C hsc S h) fun σ1 H1 tl1 mL cm cl r mm => ?_
      obtain ⟨τ1, S1, r⟩ := r
      exact cSs_ok G hf hn m _ _ hys σ1 τ1 (f.loc mL cm cl) tl1 H1 Rn Rr C hsc S1 r
end
end Mine
end

section
namespace Mine
open PySem.Calls

noncomputable def Drop (R : Kont) : Kont := fun p H' => ∃ H2, List.Sublist H2 H' ∧ R p H2

theorem trs_drop {g : Gl} {f : Fx} {t : Sem Flow} {tl : Led} {σ : Loc} {H : Sto} {Rn : KN} {Rr : Kont} (h : TrS g f t tl σ H Rn (Drop Rr)) : TrS g f t tl σ H Rn Rr := fun s hs Q S L kn kr =>
  h s hs Q S L kn fun p H' mL' cm' cl' v h' tk tl' hs' r m c S' rv => by
    obtain ⟨H2, sub, r⟩ := r
    obtain ⟨hs2, S2, _⟩ := St.dropH S' (H' := H2) (fun q hq => sub.subset hq) (List.Pairwise.sublist (sub.map _) (St.nodupH S'))
    exact kr p H2 mL' cm' cl' v h' tk tl' hs2 r m c S2 rv

section
variable {g : Gl} {Γ : Gam}

theorem fnOk_c {x : Str} {k : Nat} {S : Spec} {fa : Addr} {oc : Value} {od : Option Addr} {osl : Array (Option Value)} {name qual : Str} {params : Arguments} {body : List Stmt} {sc : Scope} {dV kV doc pm cdv ct : Value} {an : Option Addr} {fns : List Str} {m : Nat} {lit : YS}
    (G : Gok g Γ) (hf : Γ.map (·.1) = fns) (xs ls : List Str) (hn : nsIn g.K mainGlobals x = some (some (.ref fa))) (ho : g.K.lookup fa = some ⟨oc, od, .func (fnOf name qual params body sc dV kV doc pm an cdv ct), osl⟩) (hcd : codeIn g.K cdv qual = true)
    (hbind : ∀ vs : List Value, vs.length = xs.length → bindArgs (fnOf name qual params body sc dV kV doc pm an cdv ct) ⟨vs, []⟩ = pure (xs.zip vs))
    (hxs : ∀ y ∈ xs, sc.names.lookup y = some .local ∨ sc.names.lookup y = some .cell) (hsc : scopeOk sc = true) (hnd : ((cellsFrom 0 sc.names []).map (·.1)).Nodup)
    (hco : sc.isCoroutine = false) (hgen : sc.isGenerator = false) (hk : sc.kind = .function)
    (hns : (xs ++ ls).Nodup) (hc : cSs fns sc (xs ++ ls) m body = some lit)
    (hlen : ∀ ps H R, S ps H R → ps.length = xs.length)
    (hv : ∀ (ps : List PV) (H : Sto) (R : Kont), S ps H R → vYs g Γ k true lit (ps.map some ++ List.replicate ls.length none) H (fun _ _ => False) (Drop R)) : FnOk g x k S := by
  refine fnOk_of xs hn ho hcd hbind hxs hsc hnd hco hgen hk hlen fun f tl H ps R C hs hS => trs_drop ?_
  have S0 : Sub (xs ++ ls) (ps.map some ++ List.replicate ls.length none) ((xs.zip ps).reverse ++ []) := by
    refine sub_push (hlen ps H R hS).symm hns fun i y p _ h => ?_
    have := tat_some h
    rw [List.getElem?_replicate] at this
    split at this <;> simp at this
  rw [List.append_nil] at S0
  exact (cSs_ok G hf hns m _ _ hc _ _ f tl H _ _ C hs S0 (hv ps H R hS)).mono fun σ' H' q => by obtain ⟨_, _, q⟩ := q; exact q
end
end Mine
end

section
set_option maxRecDepth 20000
namespace Mine
noncomputable def nshare (t b : Int) : Int := if t < 0 then -((2 * (if t < 0 then -t else t) + b) / (2 * b)) else (2 * (if t < 0 then -t else t) + b) / (2 * b)
noncomputable def e8 (h st t : Int) : Pt :=
  (nshare (h * (70 * st * (70 * st) - 29 * t * (29 * t))) (70 * st * (70 * st) + 29 * t * (29 * t)), nshare (h * 2 * (70 * st) * (29 * t)) (70 * st * (70 * st) + 29 * t * (29 * t)))
noncomputable def eighthL (h st : Int) : List Pt := (List.range (st + 1 - 0).toNat).map fun i : Nat => e8 h st (0 + (i : Int))
noncomputable def swp (p : Pt) : Pt := (p.2, p.1)
noncomputable def rot1 (p : Pt) : Pt := (-p.2, p.1)
noncomputable def ringQ (l : List Pt) : List Pt := l ++ l.reverse.map swp
noncomputable def itA (q : List Pt) : Nat → List Pt × List Pt
  | 0 => ([], q)
  | n + 1 => ((itA q n).1 ++ (itA q n).2, (itA q n).2.map rot1)
noncomputable def ded1 (acc : List Pt) (p : Pt) : List Pt := if acc.getLast? = some p then acc else acc ++ [p]
noncomputable def ded (l : List Pt) : List Pt := l.foldl ded1 []
noncomputable def trim : Nat → List Pt → List Pt
  | 0, l => l
  | n + 1, l => if 1 < l.length ∧ l.getLast? = l.head? then trim n l.dropLast else l
noncomputable def dedL (h st : Int) : List Pt := ded (itA (ringQ (eighthL h st)) 4).1
noncomputable def ringL (h st : Int) : List Pt := trim (dedL h st).length (dedL h st)

noncomputable def l8 (h st t : Int) : Pt :=
  ((2 * h * (70 * st * (70 * st) - 29 * t * (29 * t)) + (29 * t * (29 * t) + 70 * st * (70 * st))) / (2 * (29 * t * (29 * t) + 70 * st * (70 * st))), (2 * h * 2 * (29 * t) * (70 * st) + (29 * t * (29 * t) + 70 * st * (70 * st))) / (2 * (29 * t * (29 * t) + 70 * st * (70 * st))))
noncomputable def addU (acc : List Pt) (p : Pt) : List Pt := if p ∈ acc then acc else acc ++ [p]
noncomputable def add4 (acc : List Pt) (p : Pt) : List Pt := [(p.1, p.2), (-p.1, p.2), (p.1, -p.2), (-p.1, -p.2)].foldl addU acc
noncomputable def add8 (acc : List Pt) (p : Pt) : List Pt := [(p.1, p.2), (p.2, p.1)].foldl add4 acc
noncomputable def foundL (h st : Int) : List Pt := ((List.range (st + 1 - 0).toNat).map fun i : Nat => l8 h st (0 + (i : Int))).foldl add8 []

noncomputable def sortQ (l : List Pt) : Option (List Pt) := match runT (ltAt l) (kas_sort l.length) with
  | some p => if (p.toList.all fun i => decide (i < l.length)) = true then some (p.toList.map fun i => l.getD i (0, 0)) else none
  | none => none
theorem sortQ_ok {l r : List Pt} (h : sortQ l = some r) : sortOk l r := by
  unfold sortQ at h
  split at h
  · rename_i p hp
    split at h
    · rename_i ha
      cases h
      exact ⟨p, hp, fun i hi => of_decide_eq_true (List.all_eq_true.mp ha i hi), rfl⟩
    · cases h
  · cases h
noncomputable def ringAt (l : List Pt) (h : Int) (i : Nat) : Bool :=
  match idx ((i : Int) - 1) (l.map pt), l[i]? with
  | some (.tuple [.int a, .int b]), some q => decide (0 < a * q.2 - b * q.1) && decide ((h - 1) * (h - 1) ≤ q.1 * q.1 + q.2 * q.2) && decide (q.1 * q.1 + q.2 * q.2 ≤ (h + 1) * (h + 1))
  | _, _ => false
noncomputable def goodDisc (h st : Int) : Bool :=
  decide (2 ≤ (ringL h st).length) && decide ((ringL h st).length < 64) && decide (2 ≤ (foundL h st).length) && decide ((foundL h st).length < 64) &&
  (match sortQ (ringL h st), sortQ (foundL h st) with
  | some r, some r' => r == r'
  | _, _ => false) && (List.range (ringL h st).length).all (ringAt (ringL h st) h)
noncomputable def allH : List Int := [1, 2, 3, 4, 5, 6, 7, 8, 9]
noncomputable def allS : List Int := [1, 2, 3, 4]

end Mine
end

section
set_option maxRecDepth 20000
namespace Mine
set_option maxRecDepth 100000 in
theorem d11 : goodDisc 1 1 = true := by decide +kernel
set_option maxRecDepth 100000 in
theorem d12 : goodDisc 1 2 = true := by decide +kernel
set_option maxRecDepth 100000 in
theorem d13 : goodDisc 1 3 = true := by decide +kernel
set_option maxRecDepth 100000 in
theorem d14 : goodDisc 1 4 = true := by decide +kernel
set_option maxRecDepth 100000 in
theorem d21 : goodDisc 2 1 = true := by decide +kernel
set_option maxRecDepth 100000 in
theorem d22 : goodDisc 2 2 = true := by decide +kernel
set_option maxRecDepth 100000 in
theorem d23 : goodDisc 2 3 = true := by decide +kernel
set_option maxRecDepth 100000 in
theorem d24 : goodDisc 2 4 = true := by decide +kernel
set_option maxRecDepth 100000 in
theorem d31 : goodDisc 3 1 = true := by decide +kernel
set_option maxRecDepth 100000 in
theorem d32 : goodDisc 3 2 = true := by decide +kernel
set_option maxRecDepth 100000 in
theorem d33 : goodDisc 3 3 = true := by decide +kernel
set_option maxRecDepth 100000 in
theorem d34 : goodDisc 3 4 = true := by decide +kernel
set_option maxRecDepth 100000 in
theorem d41 : goodDisc 4 1 = true := by decide +kernel
set_option maxRecDepth 100000 in
theorem d42 : goodDisc 4 2 = true := by decide +kernel
set_option maxRecDepth 100000 in
theorem d43 : goodDisc 4 3 = true := by decide +kernel
set_option maxRecDepth 100000 in
theorem d44 : goodDisc 4 4 = true := by decide +kernel
set_option maxRecDepth 100000 in
theorem d51 : goodDisc 5 1 = true := by decide +kernel
set_option maxRecDepth 100000 in
theorem d52 : goodDisc 5 2 = true := by decide +kernel
set_option maxRecDepth 100000 in
theorem d53 : goodDisc 5 3 = true := by decide +kernel
set_option maxRecDepth 100000 in
theorem d54 : goodDisc 5 4 = true := by decide +kernel
set_option maxRecDepth 100000 in
theorem d61 : goodDisc 6 1 = true := by decide +kernel
set_option maxRecDepth 100000 in
theorem d62 : goodDisc 6 2 = true := by decide +kernel
set_option maxRecDepth 100000 in
theorem d63 : goodDisc 6 3 = true := by decide +kernel
set_option maxRecDepth 100000 in
theorem d64 : goodDisc 6 4 = true := by decide +kernel
set_option maxRecDepth 100000 in
theorem d71 : goodDisc 7 1 = true := by decide +kernel
set_option maxRecDepth 100000 in
theorem d72 : goodDisc 7 2 = true := by decide +kernel
set_option maxRecDepth 100000 in
theorem d73 : goodDisc 7 3 = true := by decide +kernel
set_option maxRecDepth 100000 in
theorem d74 : goodDisc 7 4 = true := by decide +kernel
set_option maxRecDepth 100000 in
theorem d81 : goodDisc 8 1 = true := by decide +kernel
set_option maxRecDepth 100000 in
theorem d82 : goodDisc 8 2 = true := by decide +kernel
set_option maxRecDepth 100000 in
theorem d83 : goodDisc 8 3 = true := by decide +kernel
set_option maxRecDepth 100000 in
theorem d84 : goodDisc 8 4 = true := by decide +kernel
set_option maxRecDepth 100000 in
theorem d91 : goodDisc 9 1 = true := by decide +kernel
set_option maxRecDepth 100000 in
theorem d92 : goodDisc 9 2 = true := by decide +kernel
set_option maxRecDepth 100000 in
theorem d93 : goodDisc 9 3 = true := by decide +kernel
set_option maxRecDepth 100000 in
theorem d94 : goodDisc 9 4 = true := by decide +kernel
theorem goodDisc_of {h st : Int} (h1 : 1 ≤ h) (h2 : h ≤ 9) (s1 : 1 ≤ st) (s2 : st ≤ 4) : goodDisc h st = true := by
  have a : h = 1 ∨ h = 2 ∨ h = 3 ∨ h = 4 ∨ h = 5 ∨ h = 6 ∨ h = 7 ∨ h = 8 ∨ h = 9 := by omega
  have b : st = 1 ∨ st = 2 ∨ st = 3 ∨ st = 4 := by omega
  rcases a with rfl | rfl | rfl | rfl | rfl | rfl | rfl | rfl | rfl
  · rcases b with rfl | rfl | rfl | rfl
    · exact d11
    · exact d12
    · exact d13
    · exact d14
  · rcases b with rfl | rfl | rfl | rfl
    · exact d21
    · exact d22
    · exact d23
    · exact d24
  · rcases b with rfl | rfl | rfl | rfl
    · exact d31
    · exact d32
    · exact d33
    · exact d34
  · rcases b with rfl | rfl | rfl | rfl
    · exact d41
    · exact d42
    · exact d43
    · exact d44
  · rcases b with rfl | rfl | rfl | rfl
    · exact d51
    · exact d52
    · exact d53
    · exact d54
  · rcases b with rfl | rfl | rfl | rfl
    · exact d61
    · exact d62
    · exact d63
    · exact d64
  · rcases b with rfl | rfl | rfl | rfl
    · exact d71
    · exact d72
    · exact d73
    · exact d74
  · rcases b with rfl | rfl | rfl | rfl
    · exact d81
    · exact d82
    · exact d83
    · exact d84
  · rcases b with rfl | rfl | rfl | rfl
    · exact d91
    · exact d92
    · exact d93
    · exact d94

end Mine
end

section
namespace Mine
-- root_floor [n, found, lower]
noncomputable def Lroot_floor_1 : X := (.cmp .LtE (.bin .Mult (.var 1) (.var 1)) (.var 0))
noncomputable def Lroot_floor_2 : YS := (.cons (.asg 1 (.bin .Mult (.var 1) (.int 2))) .nil)
noncomputable def Lroot_floor_3 : X := (.cmp .Lt (.var 2) (.var 1))
noncomputable def Lroot_floor_4 : YS := (.cons (.asg 1 (.var 2)) (.cons (.asg 2 (.bin .FloorDiv (.bin .Add (.var 1) (.bin .FloorDiv (.var 0) (.var 1))) (.int 2))) .nil))
noncomputable def Lroot_floor_5 : YS := (.cons (.ret (.var 1)) .nil)
noncomputable def Lroot_floor_6 : YS := (.cons (.asg 2 (.bin .FloorDiv (.bin .Add (.var 1) (.bin .FloorDiv (.var 0) (.var 1))) (.int 2))) (.cons (.whl Lroot_floor_3 Lroot_floor_4) Lroot_floor_5))
noncomputable def Lroot_floor_7 : YS := (.cons (.asg 1 (.int 1)) (.cons (.whl Lroot_floor_1 Lroot_floor_2) Lroot_floor_6))
noncomputable def Lroot_floor_8 : YS := (.cons (.ifs (.cmp .Eq (.var 0) (.int 0)) (.cons (.ret (.int 0)) .nil) .nil) Lroot_floor_7)
noncomputable def Lroot_floor : YS := (.cons (.ifs (.cmp .Lt (.var 0) (.int 0)) (.cons .bad .nil) .nil) Lroot_floor_8)
-- nearest_root_share [share, square, size, found]
noncomputable def Lnearest_root_share : YS := (.cons (.asg 2 (.bi .abs (.cons (.var 0) .nil))) (.cons (.asg 3 (.bin .FloorDiv (.bin .Add (.fn 0 (.cons (.bin .FloorDiv (.bin .Mult (.bin .Mult (.int 4) (.var 2)) (.var 2)) (.var 1)) .nil)) (.int 1)) (.int 2))) (.cons (.ret (.ife (.cmp .Lt (.var 0) (.int 0)) (.neg (.var 3)) (.var 3))) .nil)))
-- nearest_share [top, bottom, found]
noncomputable def Lnearest_share : YS := (.cons (.asg 2 (.bin .FloorDiv (.bin .Add (.bin .Mult (.int 2) (.bi .abs (.cons (.var 0) .nil))) (.var 1)) (.bin .Mult (.int 2) (.var 1)))) (.cons (.ret (.ife (.cmp .Lt (.var 0) (.int 0)) (.neg (.var 2)) (.var 2))) .nil))
-- way_of [one, other]
noncomputable def Lway_of : YS := (.cons (.ret (.tup (.cons (.bin .Sub (.sub 1 (.int 0)) (.sub 0 (.int 0))) (.cons (.bin .Sub (.sub 1 (.int 1)) (.sub 0 (.int 1))) .nil)))) .nil)
-- moved_by [spot, vector]
noncomputable def Lmoved_by : YS := (.cons (.ret (.tup (.cons (.bin .Add (.sub 0 (.int 0)) (.sub 1 (.int 0))) (.cons (.bin .Add (.sub 0 (.int 1)) (.sub 1 (.int 1))) .nil)))) .nil)
-- turned_about [vector]
noncomputable def Lturned_about : YS := (.cons (.ret (.tup (.cons (.neg (.sub 0 (.int 0))) (.cons (.neg (.sub 0 (.int 1))) .nil)))) .nil)
-- normal_of [one, other, half, x, y, square]
noncomputable def Lnormal_of : YS := (.cons (.asgT [3, 4] (.fn 3 (.cons (.var 0) (.cons (.var 1) .nil)))) (.cons (.asg 5 (.bin .Add (.bin .Mult (.var 3) (.var 3)) (.bin .Mult (.var 4) (.var 4)))) (.cons (.ret (.tup (.cons (.fn 1 (.cons (.bin .Mult (.var 4) (.var 2)) (.cons (.var 5) .nil))) (.cons (.fn 1 (.cons (.bin .Mult (.neg (.var 3)) (.var 2)) (.cons (.var 5) .nil))) .nil)))) .nil)))
-- along_of [normal]
noncomputable def Lalong_of : YS := (.cons (.ret (.tup (.cons (.neg (.sub 0 (.int 1))) (.cons (.sub 0 (.int 0)) .nil)))) .nil)
-- eighth [half, steps, found, step, top, bottom, square, x, y]
noncomputable def Leighth_1 : YS := (.cons (.asgS [4, 5] (.tup (.cons (.bin .Mult (.int 29) (.var 3)) (.cons (.bin .Mult (.int 70) (.var 1)) .nil)))) (.cons (.asg 6 (.bin .Add (.bin .Mult (.var 5) (.var 5)) (.bin .Mult (.var 4) (.var 4)))) (.cons (.asg 7 (.fn 2 (.cons (.bin .Mult (.var 0) (.bin .Sub (.bin .Mult (.var 5) (.var 5)) (.bin .Mult (.var 4) (.var 4)))) (.cons (.var 6) .nil)))) (.cons (.asg 8 (.fn 2 (.cons (.bin .Mult (.bin .Mult (.bin .Mult (.var 0) (.int 2)) (.var 5)) (.var 4)) (.cons (.var 6) .nil)))) (.cons (.exp (.app 2 (.tup (.cons (.var 7) (.cons (.var 8) .nil))))) .nil)))))
noncomputable def Leighth_2 : YS := (.cons (.ret (.var 2)) .nil)
noncomputable def Leighth : YS := (.cons (.asg 2 (.lst .nil)) (.cons (.for1 3 (.bi .range (.cons (.bin .Add (.var 1) (.int 1)) .nil)) Leighth_1) Leighth_2))
-- disc_about [centre, half, steps, first, x, y, quarter, around, turn, found, spot]
noncomputable def Ldisc_about_1 : YS := (.cons (.exp (.ext 7 (.var 6))) (.cons (.asg 6 (.comp false 2 [] (.var 6) .nil (.tup (.cons (.neg (.var 1)) (.cons (.var 0) .nil))))) .nil))
noncomputable def Ldisc_about_2 : YS := (.cons (.asg 10 (.tup (.cons (.bin .Add (.sub 0 (.int 0)) (.var 4)) (.cons (.bin .Add (.sub 0 (.int 1)) (.var 5)) .nil)))) (.cons (.ifs (.or (.cmp .Eq (.var 9) (.lst .nil)) (.cmp .NotEq (.var 10) (.sub 9 (.neg (.int 1))))) (.cons (.exp (.app 9 (.var 10))) .nil) .nil) .nil))
noncomputable def Ldisc_about_3 : X := (.and (.cmp .Gt (.bi .len (.cons (.var 9) .nil)) (.int 1)) (.cmp .Eq (.sub 9 (.neg (.int 1))) (.sub 9 (.int 0))))
noncomputable def Ldisc_about_4 : YS := (.cons (.exp (.pop 9)) .nil)
noncomputable def Ldisc_about_5 : YS := (.cons (.ret (.bi .tuple (.cons (.var 9) .nil))) .nil)
noncomputable def Ldisc_about_6 : YS := (.cons (.whl Ldisc_about_3 Ldisc_about_4) Ldisc_about_5)
noncomputable def Ldisc_about_7 : YS := (.cons (.asg 9 (.lst .nil)) (.cons (.forT [4, 5] (.var 7) Ldisc_about_2) Ldisc_about_6))
noncomputable def Ldisc_about : YS := (.cons (.asg 3 (.fn 8 (.cons (.var 1) (.cons (.var 2) .nil)))) (.cons (.asg 6 (.bin .Add (.var 3) (.comp false 2 [] (.rev 3) .nil (.tup (.cons (.var 1) (.cons (.var 0) .nil)))))) (.cons (.asg 7 (.lst .nil)) (.cons (.for1 8 (.bi .range (.cons (.int 4) .nil)) Ldisc_about_1) Ldisc_about_7))))
-- square_about [spot, half, x, y]
noncomputable def Lsquare_about : YS := (.cons (.asgT [2, 3] (.var 0)) (.cons (.ret (.tup (.cons (.tup (.cons (.bin .Sub (.var 2) (.var 1)) (.cons (.bin .Sub (.var 3) (.var 1)) .nil))) (.cons (.tup (.cons (.bin .Add (.var 2) (.var 1)) (.cons (.bin .Sub (.var 3) (.var 1)) .nil))) (.cons (.tup (.cons (.bin .Add (.var 2) (.var 1)) (.cons (.bin .Add (.var 3) (.var 1)) .nil))) (.cons (.tup (.cons (.bin .Sub (.var 2) (.var 1)) (.cons (.bin .Add (.var 3) (.var 1)) .nil))) .nil)))))) .nil))
-- cap_spots [kind, inner, end, half, steps, normal, back, along, left, right]
noncomputable def Lcap_spots_1 : YS := (.cons (.asg 5 (.fn 6 (.cons (.var 1) (.cons (.var 2) (.cons (.var 3) .nil))))) (.cons (.asg 6 (.fn 5 (.cons (.var 5) .nil))) (.cons (.asg 7 (.fn 7 (.cons (.var 5) .nil))) (.cons (.asgS [8, 9] (.tup (.cons (.fn 4 (.cons (.var 2) (.cons (.var 5) .nil))) (.cons (.fn 4 (.cons (.var 2) (.cons (.var 6) .nil))) .nil)))) (.cons (.ret (.tup (.cons (.var 8) (.cons (.fn 4 (.cons (.var 8) (.cons (.var 7) .nil))) (.cons (.fn 4 (.cons (.var 9) (.cons (.var 7) .nil))) (.cons (.var 9) .nil)))))) .nil)))))
noncomputable def Lcap_spots_2 : YS := (.cons (.ifs (.cmp .NotEq (.var 0) (.str "square")) (.cons (.ret (.tup .nil)) .nil) .nil) Lcap_spots_1)
noncomputable def Lcap_spots : YS := (.cons (.ifs (.cmp .Eq (.var 0) (.str "round")) (.cons (.ret (.fn 9 (.cons (.var 2) (.cons (.var 3) (.cons (.var 4) .nil))))) .nil) .nil) Lcap_spots_2)
-- dot_spots [kind, spot, half, steps]
noncomputable def Ldot_spots_1 : YS := (.cons (.ret (.ife (.cmp .Eq (.var 0) (.str "square")) (.fn 10 (.cons (.var 1) (.cons (.var 2) .nil))) (.tup .nil))) .nil)
noncomputable def Ldot_spots : YS := (.cons (.ifs (.cmp .Eq (.var 0) (.str "round")) (.cons (.ret (.fn 9 (.cons (.var 1) (.cons (.var 2) (.cons (.var 3) .nil))))) .nil) .nil) Ldot_spots_1)
-- _law_pool [script, k, cell, big, blend]
noncomputable def Lw_pool : YS := (.cons (.asg 2 (.ife (.cmp .Lt (.var 1) (.bi .len (.cons (.var 0) .nil))) (.sub 0 (.var 1)) (.int 0))) (.cons (.asg 3 (.bi .max (.cons (.bi .int (.cons (.var 2) .nil)) (.cons (.bi .int (.cons (.bin .Sub (.neg (.int 1)) (.var 2)) .nil)) .nil)))) (.cons (.asg 4 (.bin .Mod (.bi .int (.cons (.bin .Mult (.bin .Add (.bin .Add (.bin .Add (.bin .Mod (.bi .int (.cons (.var 3) .nil)) (.int 2147483629)) (.bin .Mult (.bin .Mult (.int 7919) (.var 1)) (.var 1))) (.bin .Mult (.int 31) (.var 1))) (.int 17)) (.int 48271)) .nil)) (.int 2147483647))) (.cons (.ret (.lst (.cons (.bin .Mult (.var 3) (.bi .int (.cons (.cmp .GtE (.var 3) (.bin .Pow (.int 10) (.int 18))) .nil))) (.cons (.var 4) .nil)))) .nil))))
-- _law_take [source, top, way_now]
noncomputable def Lw_take_1 : YS := (.cons (.sto 0 (.int 1) (.bin .Mod (.bi .int (.cons (.bin .Add (.bin .Mult (.sub 0 (.int 1)) (.int 39373)) (.int 7)) .nil)) (.int 2147483647))) (.cons (.ret (.bin .Mod (.bi .int (.cons (.bin .FloorDiv (.bin .Mod (.bi .int (.cons (.bin .Mult (.sub 0 (.int 1)) (.sub 0 (.int 1))) .nil)) (.int 2147483629)) (.int 32)) .nil)) (.var 1))) .nil))
noncomputable def Lw_take : YS := (.cons (.ifs (.cmp .Gt (.sub 0 (.int 0)) (.int 0)) (.cons (.asg 2 (.bin .Mod (.bi .int (.cons (.sub 0 (.int 0)) .nil)) (.var 1))) (.cons (.sto 0 (.int 0) (.bin .FloorDiv (.sub 0 (.int 0)) (.var 1))) (.cons (.ret (.var 2)) .nil))) .nil) Lw_take_1)
-- _law_one [source, things]
noncomputable def Lw_one : YS := (.cons (.ret (.sub 1 (.fn 14 (.cons (.var 0) (.cons (.bi .len (.cons (.var 1) .nil)) .nil))))) .nil)
-- _law_normal [one, other, half, x, y, found, piece_k, size]
noncomputable def Lw_normal_1 : YS := (.cons (.asg 7 (.bi .len (.cons (.comp true 1 [3, 4, 6] (.bi .range (.cons (.int 1) (.cons (.bin .Add (.var 2) (.int 2)) .nil))) (.cons (.cmp .LtE (.bin .Mult (.bin .Pow (.bin .Sub (.bin .Mult (.int 2) (.var 0)) (.int 1)) (.int 2)) (.bin .Add (.bin .Mult (.var 1) (.var 1)) (.bin .Mult (.var 2) (.var 2)))) (.bin .Mult (.bin .Mult (.int 4) (.var 3)) (.var 3))) .nil) (.var 0)) .nil))) (.cons (.exp (.app 5 (.ife (.cmp .Gt (.var 6) (.int 0)) (.var 7) (.neg (.var 7))))) .nil))
noncomputable def Lw_normal_2 : YS := (.cons (.ret (.var 5)) .nil)
noncomputable def Lw_normal : YS := (.cons (.asgT [3, 4] (.tup (.cons (.bin .Sub (.sub 1 (.int 0)) (.sub 0 (.int 0))) (.cons (.bin .Sub (.sub 1 (.int 1)) (.sub 0 (.int 1))) .nil)))) (.cons (.asg 5 (.lst .nil)) (.cons (.for1 6 (.lst (.cons (.bin .Mult (.var 4) (.var 2)) (.cons (.bin .Mult (.neg (.var 3)) (.var 2)) .nil))) Lw_normal_1) Lw_normal_2)))
-- _law_disc [half, steps, found, step, top, bottom, whole, x, y, a, b, one]
noncomputable def Lw_disc_1 : YS := (.cons (.ifs (.cmp .NotIn (.var 11) (.var 2)) (.cons (.exp (.app 2 (.var 11))) .nil) .nil) .nil)
noncomputable def Lw_disc_2 : YS := (.cons (.for1 11 (.lst (.cons (.tup (.cons (.var 9) (.cons (.var 10) .nil))) (.cons (.tup (.cons (.neg (.var 9)) (.cons (.var 10) .nil))) (.cons (.tup (.cons (.var 9) (.cons (.neg (.var 10)) .nil))) (.cons (.tup (.cons (.neg (.var 9)) (.cons (.neg (.var 10)) .nil))) .nil))))) Lw_disc_1) .nil)
noncomputable def Lw_disc_3 : YS := (.cons (.asgS [4, 5] (.tup (.cons (.bin .Mult (.int 29) (.var 3)) (.cons (.bin .Mult (.int 70) (.var 1)) .nil)))) (.cons (.asg 6 (.bin .Add (.bin .Mult (.var 4) (.var 4)) (.bin .Mult (.var 5) (.var 5)))) (.cons (.asg 7 (.bin .FloorDiv (.bin .Add (.bin .Mult (.bin .Mult (.int 2) (.var 0)) (.bin .Sub (.bin .Mult (.var 5) (.var 5)) (.bin .Mult (.var 4) (.var 4)))) (.var 6)) (.bin .Mult (.int 2) (.var 6)))) (.cons (.asg 8 (.bin .FloorDiv (.bin .Add (.bin .Mult (.bin .Mult (.bin .Mult (.bin .Mult (.int 2) (.var 0)) (.int 2)) (.var 4)) (.var 5)) (.var 6)) (.bin .Mult (.int 2) (.var 6)))) (.cons (.forT [9, 10] (.lst (.cons (.tup (.cons (.var 7) (.cons (.var 8) .nil))) (.cons (.tup (.cons (.var 8) (.cons (.var 7) .nil))) .nil))) Lw_disc_2) .nil)))))
noncomputable def Lw_disc_4 : YS := (.cons (.ret (.bi .sorted (.cons (.var 2) .nil))) .nil)
noncomputable def Lw_disc : YS := (.cons (.asg 2 (.lst .nil)) (.cons (.for1 3 (.bi .range (.cons (.bin .Add (.var 1) (.int 1)) .nil)) Lw_disc_3) Lw_disc_4))
-- _law_disc_right [told, end, half, steps, away, place_k, one, other]
noncomputable def Lw_disc_right_1 : YS := (.cons (.ifs (.not (.chain .LtE .LtE (.bin .Pow (.bin .Sub (.var 2) (.int 1)) (.int 2)) (.bin .Add (.bin .Pow (.sub 7 (.int 0)) (.int 2)) (.bin .Pow (.sub 7 (.int 1)) (.int 2))) (.bin .Pow (.bin .Add (.var 2) (.int 1)) (.int 2)))) (.cons (.ret (.bool false)) .nil) .nil) .nil)
noncomputable def Lw_disc_right_2 : YS := (.cons (.asgS [6, 7] (.tup (.cons (.sub 4 (.bin .Sub (.var 5) (.int 1))) (.cons (.sub 4 (.var 5)) .nil)))) (.cons (.ifs (.cmp .LtE (.bin .Sub (.bin .Mult (.sub 6 (.int 0)) (.sub 7 (.int 1))) (.bin .Mult (.sub 6 (.int 1)) (.sub 7 (.int 0)))) (.int 0)) (.cons (.ret (.bool false)) .nil) .nil) Lw_disc_right_1))
noncomputable def Lw_disc_right_3 : YS := (.cons (.ret (.bool true)) .nil)
noncomputable def Lw_disc_right_4 : YS := (.cons (.for1 5 (.bi .range (.cons (.bi .len (.cons (.var 4) .nil)) .nil)) Lw_disc_right_2) Lw_disc_right_3)
noncomputable def Lw_disc_right : YS := (.cons (.asg 4 (.comp false 2 [1] (.var 0) .nil (.tup (.cons (.bin .Sub (.var 0) (.sub 2 (.int 0))) (.cons (.bin .Sub (.var 1) (.sub 2 (.int 1))) .nil))))) (.cons (.ifs (.cmp .NotEq (.bi .sorted (.cons (.var 4) .nil)) (.fn 17 (.cons (.var 2) (.cons (.var 3) .nil)))) (.cons (.ret (.bool false)) .nil) .nil) Lw_disc_right_4))
-- _law_square [end_in, end, half, x, y, left, right]
noncomputable def Lw_square_1 : YS := (.cons (.ret (.tup (.cons (.var 5) (.cons (.tup (.cons (.bin .Sub (.sub 5 (.int 0)) (.var 4)) (.cons (.bin .Add (.sub 5 (.int 1)) (.var 3)) .nil))) (.cons (.tup (.cons (.bin .Sub (.sub 6 (.int 0)) (.var 4)) (.cons (.bin .Add (.sub 6 (.int 1)) (.var 3)) .nil))) (.cons (.var 6) .nil)))))) .nil)
noncomputable def Lw_square_2 : YS := (.cons (.asgS [5, 6] (.tup (.cons (.tup (.cons (.bin .Add (.sub 1 (.int 0)) (.var 3)) (.cons (.bin .Add (.sub 1 (.int 1)) (.var 4)) .nil))) (.cons (.tup (.cons (.bin .Sub (.sub 1 (.int 0)) (.var 3)) (.cons (.bin .Sub (.sub 1 (.int 1)) (.var 4)) .nil))) .nil)))) Lw_square_1)
noncomputable def Lw_square : YS := (.cons (.asgT [3, 4] (.fn 16 (.cons (.var 0) (.cons (.var 1) (.cons (.var 2) .nil))))) Lw_square_2)
-- law [script, k, source, turn, end_in, way_now, x, y, end, half, steps, left, low, told]
noncomputable def Llaw_1 : YS := (.cons (.ifs (.cmp .NotEq (.fn 12 (.cons (.str "square") (.cons (.var 4) (.cons (.var 9) (.cons (.var 10) .nil))))) (.var 13)) (.cons (.ret (.bool false)) .nil) .nil) .nil)
noncomputable def Llaw_2 : YS := (.cons (.asg 13 (.tup (.cons (.tup (.cons (.var 11) (.cons (.var 12) .nil))) (.cons (.tup (.cons (.bin .Add (.var 11) (.bin .Mult (.int 2) (.var 9))) (.cons (.var 12) .nil))) (.cons (.tup (.cons (.bin .Add (.var 11) (.bin .Mult (.int 2) (.var 9))) (.cons (.bin .Add (.var 12) (.bin .Mult (.int 2) (.var 9))) .nil))) (.cons (.tup (.cons (.var 11) (.cons (.bin .Add (.var 12) (.bin .Mult (.int 2) (.var 9))) .nil))) .nil)))))) Llaw_1)
noncomputable def Llaw_3 : YS := (.cons (.asgS [11, 12] (.tup (.cons (.bin .Sub (.sub 4 (.int 0)) (.var 9)) (.cons (.bin .Sub (.sub 4 (.int 1)) (.var 9)) .nil)))) Llaw_2)
noncomputable def Llaw_4 : YS := (.cons (.ifs (.not (.fn 18 (.cons (.fn 12 (.cons (.str "round") (.cons (.var 4) (.cons (.var 9) (.cons (.var 10) .nil))))) (.cons (.var 4) (.cons (.var 9) (.cons (.var 10) .nil)))))) (.cons (.ret (.bool false)) .nil) .nil) Llaw_3)
noncomputable def Llaw_5 : YS := (.cons (.ifs (.not (.fn 18 (.cons (.fn 11 (.cons (.str "round") (.cons (.var 4) (.cons (.var 8) (.cons (.var 9) (.cons (.var 10) .nil)))))) (.cons (.var 8) (.cons (.var 9) (.cons (.var 10) .nil)))))) (.cons (.ret (.bool false)) .nil) .nil) Llaw_4)
noncomputable def Llaw_6 : YS := (.cons (.ifs (.cmp .NotEq (.fn 11 (.cons (.str "square") (.cons (.var 4) (.cons (.var 8) (.cons (.var 9) (.cons (.var 10) .nil)))))) (.fn 19 (.cons (.var 4) (.cons (.var 8) (.cons (.var 9) .nil))))) (.cons (.ret (.bool false)) .nil) .nil) Llaw_5)
noncomputable def Llaw_7 : YS := (.cons (.ifs (.or (.cmp .NotEq (.fn 11 (.cons (.str "butt") (.cons (.var 4) (.cons (.var 8) (.cons (.var 9) (.cons (.var 10) .nil)))))) (.tup .nil)) (.cmp .NotEq (.fn 12 (.cons (.str "butt") (.cons (.var 8) (.cons (.var 9) (.cons (.var 10) .nil))))) (.tup .nil))) (.cons (.ret (.bool false)) .nil) .nil) Llaw_6)
noncomputable def Llaw_8 : YS := (.cons (.asgS [8, 9, 10] (.tup (.cons (.tup (.cons (.bin .Add (.sub 4 (.int 0)) (.var 6)) (.cons (.bin .Add (.sub 4 (.int 1)) (.var 7)) .nil))) (.cons (.bin .Add (.int 1) (.fn 14 (.cons (.var 2) (.cons (.int 9) .nil)))) (.cons (.bin .Add (.int 1) (.fn 14 (.cons (.var 2) (.cons (.int 4) .nil)))) .nil))))) Llaw_7)
noncomputable def Llaw_9 : YS := (.cons (.asgT [6, 7] (.fn 15 (.cons (.var 2) (.cons (.lst (.cons (.tup (.cons (.int 7) (.cons (.int 0) .nil))) (.cons (.tup (.cons (.int 0) (.cons (.neg (.int 5)) .nil))) (.cons (.tup (.cons (.neg (.int 3)) (.cons (.int 4) .nil))) (.cons (.tup (.cons (.int 6) (.cons (.int 8) .nil))) (.cons (.var 5) (.cons (.var 5) .nil))))))) .nil)))) Llaw_8)
noncomputable def Llaw_10 : YS := (.cons (.asg 5 (.tup (.cons (.bin .Add (.int 1) (.fn 14 (.cons (.var 2) (.cons (.int 9) .nil)))) (.cons (.bin .Sub (.fn 14 (.cons (.var 2) (.cons (.int 19) .nil))) (.int 9)) .nil)))) Llaw_9)
noncomputable def Llaw_11 : YS := (.cons (.asg 4 (.tup (.cons (.bin .Sub (.fn 14 (.cons (.var 2) (.cons (.int 40) .nil))) (.int 20)) (.cons (.bin .Sub (.fn 14 (.cons (.var 2) (.cons (.int 40) .nil))) (.int 20)) .nil)))) Llaw_10)
noncomputable def Llaw_12 : YS := (.cons (.for1 3 (.bi .range (.cons (.int 3) .nil)) Llaw_11) .nil)
noncomputable def Llaw_13 : YS := (.cons (.asg 2 (.fn 13 (.cons (.var 0) (.cons (.var 1) .nil)))) Llaw_12)
noncomputable def Llaw_14 : YS := (.cons (.ret (.cmp .Eq (.fn 11 (.cons (.str "square") (.cons (.tup (.cons (.int 0) (.cons (.int 0) .nil))) (.cons (.tup (.cons (.int 9) (.cons (.int 0) .nil))) (.cons (.int 2) (.cons (.int 1) .nil)))))) (.tup (.cons (.tup (.cons (.int 9) (.cons (.neg (.int 2)) .nil))) (.cons (.tup (.cons (.int 11) (.cons (.neg (.int 2)) .nil))) (.cons (.tup (.cons (.int 11) (.cons (.int 2) .nil))) (.cons (.tup (.cons (.int 9) (.cons (.int 2) .nil))) .nil))))))) .nil)
noncomputable def Llaw : YS := (.cons (.for1 1 (.bi .range (.cons (.bi .max (.cons (.int 1) (.cons (.bi .min (.cons (.bi .len (.cons (.var 0) .nil)) (.cons (.int 2) .nil))) .nil))) .nil)) Llaw_13) Llaw_14)
end Mine
end

section
set_option maxRecDepth 20000
namespace Mine
noncomputable def S_root : Spec := fun ps H R => ∃ n, ps = [.dat (.int n)] ∧ (0 ≤ n ∧ n < 2 ^ 60) ∧ ∀ r, 0 ≤ r → r * r ≤ n → n < (r + 1) * (r + 1) → R (.dat (.int r)) H
theorem S_root_eq {H : Sto} {R : Kont} {n} : S_root [.dat (.int n)] H R = ((0 ≤ n ∧ n < 2 ^ 60) ∧ ∀ r, 0 ≤ r → r * r ≤ n → n < (r + 1) * (r + 1) → R (.dat (.int r)) H) := propext ⟨fun q => by
  obtain ⟨_, e, h⟩ := q
  cases e
  exact h, fun h => ⟨_, rfl, h⟩⟩

theorem drop_same {R : Kont} {p : PV} {H : Sto} (h : R p H) : Drop R p H := ⟨H, .refl H, h⟩

theorem newton {n f : Int} (hn : 1 ≤ n) (hf : 1 ≤ f) : n < ((f + n / f) / 2 + 1) * ((f + n / f) / 2 + 1) ∧ 1 ≤ (f + n / f) / 2 := by
  have h1 : n < f * (n / f + 1) := by
    have := Int.lt_mul_ediv_self_add (x := n) (k := f) (by omega)
    rw [Int.mul_add]; omega
  have q0 : 0 ≤ n / f := Int.ediv_nonneg (by omega) (by omega)
  generalize hq : n / f = q at *
  have hl : f + q + 1 ≤ 2 * ((f + q) / 2 + 1) := by omega
  have hl0 : 1 ≤ (f + q) / 2 := by
    by_cases e : f = 1
    · subst e
      have : n / 1 = n := Int.ediv_one n
      omega
    · omega
  generalize hL : (f + q) / 2 = l at *
  refine ⟨?_, hl0⟩
  have a1 : (f + q + 1) * (f + q + 1) ≤ (2 * (l + 1)) * (2 * (l + 1)) := Int.mul_le_mul hl hl (by omega) (by omega)
  have a2 : 4 * (f * (q + 1)) ≤ (f + q + 1) * (f + q + 1) := by
    have : 0 ≤ (f - (q + 1)) * (f - (q + 1)) := by
      rcases Int.le_total 0 (f - (q + 1)) with h | h
      · exact Int.mul_nonneg h h
      · exact Int.mul_nonneg_of_nonpos_of_nonpos h h
    have e : (f + q + 1) * (f + q + 1) = 4 * (f * (q + 1)) + (f - (q + 1)) * (f - (q + 1)) := by
      simp only [Int.mul_add, Int.add_mul, Int.sub_mul, Int.mul_sub, Int.mul_one, Int.one_mul, Int.mul_comm q f]
      omega
    omega
  have a3 : (2 * (l + 1)) * (2 * (l + 1)) = 4 * ((l + 1) * (l + 1)) := by
    simp only [Int.mul_add, Int.add_mul, Int.mul_one, Int.one_mul, Int.mul_assoc, Int.mul_left_comm l 2]
    omega
  omega

theorem small_of_sq {f n : Int} (hf : 1 ≤ f) (h : f * f ≤ n) : f ≤ n := by
  have := Int.mul_le_mul hf (Int.le_refl f) (by omega) (by omega)
  omega

theorem v_root {g : Gl} {Γ : Gam} {k : Nat} (ps : List PV) (H : Sto) (R : Kont) (h : S_root ps H R) : vYs g Γ k true Lroot_floor (ps.map some ++ List.replicate 2 none) H (fun _ _ => False) (Drop R) := by
  obtain ⟨n, rfl, ⟨n0, n1⟩, h⟩ := h
  unfold Lroot_floor
  dsimp only [vYs_nil, vYs_cons, vY_ret, vY_ifs, vY_asg, vY_asgT, vY_asgS, vY_sto, vY_exp, vY_for1, vY_forT, vY_whl, vY_bad, vX_int, vX_str, vX_bool, vX_var, vX_bin, vX_neg, vX_cmp, vX_ife, vX_tup, vX_lst, vX_sub, vX_rev, vX_bi, vX_fn, vX_app, vX_ext, vX_pop, vX_comp, vXs_nil, vXs_cons, vXT_cmp, vXT_chain, vXT_not, vXT_or, vXT_and, vXT_fn, vXif_nil, vXif_cons1, vVar, tat, List.map, List.replicate, List.cons_append, List.nil_append, List.append, List.getElem?_cons_zero, List.getElem?_cons_succ, List.set_cons_zero, List.set_cons_succ, vBin, vCmp, vIdx, vBi, vLen, vRange, vAbs, vMax, vMin, vInt, vMk, datsOf, vNg, vRef, vBo, vDat, vTup, vTupL, vSet, setT, setR, bind1, bindN, Option.map_some, List.length_cons, List.length_nil]
  rw [if_neg (by simp; omega)]
  unfold Lroot_floor_8
  dsimp only [vYs_nil, vYs_cons, vY_ret, vY_ifs, vY_asg, vY_asgT, vY_asgS, vY_sto, vY_exp, vY_for1, vY_forT, vY_whl, vY_bad, vX_int, vX_str, vX_bool, vX_var, vX_bin, vX_neg, vX_cmp, vX_ife, vX_tup, vX_lst, vX_sub, vX_rev, vX_bi, vX_fn, vX_app, vX_ext, vX_pop, vX_comp, vXs_nil, vXs_cons, vXT_cmp, vXT_chain, vXT_not, vXT_or, vXT_and, vXT_fn, vXif_nil, vXif_cons1, vVar, tat, List.map, List.replicate, List.cons_append, List.nil_append, List.append, List.getElem?_cons_zero, List.getElem?_cons_succ, List.set_cons_zero, List.set_cons_succ, vBin, vCmp, vIdx, vBi, vLen, vRange, vAbs, vMax, vMin, vInt, vMk, datsOf, vNg, vRef, vBo, vDat, vTup, vTupL, vSet, setT, setR, bind1, bindN, Option.map_some, List.length_cons, List.length_nil]
  by_cases hz : n = 0
  · subst hz
    simp only [BEq.rfl, if_true]
    exact drop_same (h 0 (by omega) (by omega) (by omega))
  rw [if_neg (by simpa using hz)]
  unfold Lroot_floor_7
  dsimp only [vYs_nil, vYs_cons, vY_ret, vY_ifs, vY_asg, vY_asgT, vY_asgS, vY_sto, vY_exp, vY_for1, vY_forT, vY_whl, vY_bad, vX_int, vX_str, vX_bool, vX_var, vX_bin, vX_neg, vX_cmp, vX_ife, vX_tup, vX_lst, vX_sub, vX_rev, vX_bi, vX_fn, vX_app, vX_ext, vX_pop, vX_comp, vXs_nil, vXs_cons, vXT_cmp, vXT_chain, vXT_not, vXT_or, vXT_and, vXT_fn, vXif_nil, vXif_cons1, vVar, tat, List.map, List.replicate, List.cons_append, List.nil_append, List.append, List.getElem?_cons_zero, List.getElem?_cons_succ, List.set_cons_zero, List.set_cons_succ, vBin, vCmp, vIdx, vBi, vLen, vRange, vAbs, vMax, vMin, vInt, vMk, datsOf, vNg, vRef, vBo, vDat, vTup, vTupL, vSet, setT, setR, bind1, bindN, Option.map_some, List.length_cons, List.length_nil]
  refine ⟨fun m τ H1 => H1 = H ∧ ∃ f : Int, τ = [some (.dat (.int n)), some (.dat (.int f)), none] ∧ 1 ≤ f ∧ f < 2 ^ 32 ∧ f ≤ 2 * n ∧ m = (2 * n + 2 - f).toNat, (2 * n + 1).toNat, ⟨rfl, 1, rfl, by omega, by omega, by omega, by congr 1; omega⟩, ?_⟩
  rintro m τ1 H1 ⟨rfl, f, rfl, f1, f2, f3, rfl⟩
  unfold Lroot_floor_1 Lroot_floor_2
  dsimp only [vYs_nil, vYs_cons, vY_ret, vY_ifs, vY_asg, vY_asgT, vY_asgS, vY_sto, vY_exp, vY_for1, vY_forT, vY_whl, vY_bad, vX_int, vX_str, vX_bool, vX_var, vX_bin, vX_neg, vX_cmp, vX_ife, vX_tup, vX_lst, vX_sub, vX_rev, vX_bi, vX_fn, vX_app, vX_ext, vX_pop, vX_comp, vXs_nil, vXs_cons, vXT_cmp, vXT_chain, vXT_not, vXT_or, vXT_and, vXT_fn, vXif_nil, vXif_cons1, vVar, tat, List.map, List.replicate, List.cons_append, List.nil_append, List.append, List.getElem?_cons_zero, List.getElem?_cons_succ, List.set_cons_zero, List.set_cons_succ, vBin, vCmp, vIdx, vBi, vLen, vRange, vAbs, vMax, vMin, vInt, vMk, datsOf, vNg, vRef, vBo, vDat, vTup, vTupL, vSet, setT, setR, bind1, bindN, Option.map_some, List.length_cons, List.length_nil]
  refine ⟨.inl (by omega), ?_⟩
  by_cases hle : f * f ≤ n
  · rw [if_pos (by simpa using hle)]
    have l1 := small_of_sq f1 hle
    refine ⟨.inl (by omega), (2 * n + 2 - f * 2).toNat, by omega, (by trivial), f * 2, rfl, by omega, ?_, by omega, rfl⟩
    have : f < 2 ^ 31 := by
      refine Int.not_le.mp fun q => ?_
      have := Int.mul_le_mul q q (by omega) (by omega)
      omega
    omega
  · rw [if_neg (by simpa using hle)]
    unfold Lroot_floor_6
    dsimp only [vYs_nil, vYs_cons, vY_ret, vY_ifs, vY_asg, vY_asgT, vY_asgS, vY_sto, vY_exp, vY_for1, vY_forT, vY_whl, vY_bad, vX_int, vX_str, vX_bool, vX_var, vX_bin, vX_neg, vX_cmp, vX_ife, vX_tup, vX_lst, vX_sub, vX_rev, vX_bi, vX_fn, vX_app, vX_ext, vX_pop, vX_comp, vXs_nil, vXs_cons, vXT_cmp, vXT_chain, vXT_not, vXT_or, vXT_and, vXT_fn, vXif_nil, vXif_cons1, vVar, tat, List.map, List.replicate, List.cons_append, List.nil_append, List.append, List.getElem?_cons_zero, List.getElem?_cons_succ, List.set_cons_zero, List.set_cons_succ, vBin, vCmp, vIdx, vBi, vLen, vRange, vAbs, vMax, vMin, vInt, vMk, datsOf, vNg, vRef, vBo, vDat, vTup, vTupL, vSet, setT, setR, bind1, bindN, Option.map_some, List.length_cons, List.length_nil]
    refine ⟨by omega, by omega, ?_⟩
    refine ⟨fun m τ H2 => H2 = H1 ∧ ∃ f : Int, τ = [some (.dat (.int n)), some (.dat (.int f)), some (.dat (.int ((f + n / f) / 2)))] ∧ 1 ≤ f ∧ n < (f + 1) * (f + 1) ∧ m = f.toNat, f.toNat, ⟨rfl, f, rfl, f1, ?_, rfl⟩, ?_⟩
    · have : f * f ≤ (f + 1) * (f + 1) := Int.mul_le_mul (by omega) (by omega) (by omega) (by omega)
      omega
    rintro m τ1 H2 ⟨rfl, f, rfl, f1, f2, rfl⟩
    unfold Lroot_floor_3 Lroot_floor_4 Lroot_floor_5
    dsimp only [vYs_nil, vYs_cons, vY_ret, vY_ifs, vY_asg, vY_asgT, vY_asgS, vY_sto, vY_exp, vY_for1, vY_forT, vY_whl, vY_bad, vX_int, vX_str, vX_bool, vX_var, vX_bin, vX_neg, vX_cmp, vX_ife, vX_tup, vX_lst, vX_sub, vX_rev, vX_bi, vX_fn, vX_app, vX_ext, vX_pop, vX_comp, vXs_nil, vXs_cons, vXT_cmp, vXT_chain, vXT_not, vXT_or, vXT_and, vXT_fn, vXif_nil, vXif_cons1, vVar, tat, List.map, List.replicate, List.cons_append, List.nil_append, List.append, List.getElem?_cons_zero, List.getElem?_cons_succ, List.set_cons_zero, List.set_cons_succ, vBin, vCmp, vIdx, vBi, vLen, vRange, vAbs, vMax, vMin, vInt, vMk, datsOf, vNg, vRef, vBo, vDat, vTup, vTupL, vSet, setT, setR, bind1, bindN, Option.map_some, List.length_cons, List.length_nil]
    obtain ⟨w1, w2⟩ := newton (n := n) (f := f) (by omega) f1
    by_cases hlt : (f + n / f) / 2 < f
    · rw [if_pos (by simpa using hlt)]
      refine ⟨by omega, by omega, _, ?_, (by trivial), (f + n / f) / 2, rfl, w2, w1, rfl⟩
      omega
    · rw [if_neg (by simpa using hlt)]
      refine drop_same (h f (by omega) ?_ f2)
      have hq : f ≤ n / f := by omega
      have := Int.mul_le_mul_of_nonneg_left hq (show 0 ≤ f by omega)
      have := Int.mul_ediv_self_le (x := n) (k := f) (by omega)
      omega

/-- the nearest whole number to s / root of q, by its sign -/
noncomputable def NR (s q f : Int) : Prop := ∃ m : Int, 0 ≤ m ∧ (m = 0 ∨ (2 * m - 1) * (2 * m - 1) * q ≤ 4 * s * s) ∧ 4 * s * s < (2 * m + 1) * (2 * m + 1) * q ∧ f = if s < 0 then -m else m

noncomputable def S_nrs : Spec := fun ps H R => ∃ s q, ps = [.dat (.int s), .dat (.int q)] ∧ ((-(2 ^ 20) ≤ s ∧ s < 2 ^ 20) ∧ 0 < q) ∧ ∀ f, NR s q f → R (.dat (.int f)) H
theorem S_nrs_eq {H : Sto} {R : Kont} {s q} : S_nrs [.dat (.int s), .dat (.int q)] H R = (((-(2 ^ 20) ≤ s ∧ s < 2 ^ 20) ∧ 0 < q) ∧ ∀ f, NR s q f → R (.dat (.int f)) H) := propext ⟨fun q => by
  obtain ⟨_, _, e, h⟩ := q
  cases e
  exact h, fun h => ⟨_, _, rfl, h⟩⟩

theorem sq_mono {a b : Int} (h0 : 0 ≤ a) (h : a ≤ b) : a * a ≤ b * b := Int.mul_le_mul h h h0 (by omega)
theorem root_half {N q r : Int} (hq : 0 < q) (h0 : 0 ≤ N) (r0 : 0 ≤ r) (h1 : r * r ≤ N / q) (h2 : N / q < (r + 1) * (r + 1)) :
    ((r + 1) / 2 = 0 ∨ (2 * ((r + 1) / 2) - 1) * (2 * ((r + 1) / 2) - 1) * q ≤ N) ∧ N < (2 * ((r + 1) / 2) + 1) * (2 * ((r + 1) / 2) + 1) * q := by
  have hm : 2 * ((r + 1) / 2) - 1 ≤ r ∧ r + 1 ≤ 2 * ((r + 1) / 2) + 1 := by omega
  constructor
  · by_cases e : (r + 1) / 2 = 0
    · exact .inl e
    · refine .inr ?_
      have a := sq_mono (a := 2 * ((r + 1) / 2) - 1) (by omega) hm.1
      have b := Int.mul_le_mul_of_nonneg_right (Int.le_trans a h1) (show 0 ≤ q by omega)
      have c := Int.ediv_mul_le N (show q ≠ 0 by omega)
      omega
  · have a := sq_mono (a := r + 1) (by omega) hm.2
    have b : N / q + 1 ≤ (2 * ((r + 1) / 2) + 1) * (2 * ((r + 1) / 2) + 1) := by omega
    have c := Int.mul_le_mul_of_nonneg_right b (show 0 ≤ q by omega)
    have d := Int.lt_ediv_add_one_mul_self N hq
    omega

theorem v_nrs {g : Gl} {Γ : Gam} {k : Nat} (hk : 0 < k) (x0 : Str) (h0 : Γ[0]? = some (x0, 0, S_root)) (ps : List PV) (H : Sto) (R : Kont) (h : S_nrs ps H R) : vYs g Γ k true Lnearest_root_share (ps.map some ++ List.replicate 2 none) H (fun _ _ => False) (Drop R) := by
  obtain ⟨s, q, rfl, ⟨⟨s0, s1⟩, q0⟩, h⟩ := h
  unfold Lnearest_root_share
  dsimp only [vYs_nil, vYs_cons, vY_ret, vY_ifs, vY_asg, vY_asgT, vY_asgS, vY_sto, vY_exp, vY_for1, vY_forT, vY_whl, vY_bad, vX_int, vX_str, vX_bool, vX_var, vX_bin, vX_neg, vX_cmp, vX_ife, vX_tup, vX_lst, vX_sub, vX_rev, vX_bi, vX_fn, vX_app, vX_ext, vX_pop, vX_comp, vXs_nil, vXs_cons, vXT_cmp, vXT_chain, vXT_not, vXT_or, vXT_and, vXT_fn, vXif_nil, vXif_cons1, vVar, tat, List.map, List.replicate, List.cons_append, List.nil_append, List.append, List.getElem?_cons_zero, List.getElem?_cons_succ, List.set_cons_zero, List.set_cons_succ, vBin, vCmp, vIdx, vBi, vLen, vRange, vAbs, vMax, vMin, vInt, vMk, datsOf, vNg, vRef, vBo, vDat, vTup, vTupL, vSet, setT, setR, bind1, bindN, Option.map_some, List.length_cons, List.length_nil]
  generalize ha : (if s < 0 then -s else s) = a
  have ha0 : 0 ≤ a ∧ a ≤ 2 ^ 20 := by split at ha <;> omega
  refine ⟨.inl (by decide), .inr (by omega), q0, ?_⟩
  have haa : 4 * a * a = 4 * s * s := by
    split at ha
    · subst ha; rw [Int.mul_neg, Int.mul_neg, Int.neg_mul, Int.neg_neg]
    · rw [ha]
  have hN : 0 ≤ 4 * a * a ∧ 4 * a * a ≤ 2 ^ 42 := by
    constructor
    · exact Int.mul_nonneg (by omega) (by omega)
    · have : 4 * a * a ≤ 2 ^ 22 * 2 ^ 20 := Int.mul_le_mul (by omega) (by omega) (by omega) (by omega)
      omega
  unfold vDef
  rw [h0]
  simp only [S_root_eq]
  have d0 : 0 ≤ 4 * a * a / q := Int.ediv_nonneg hN.1 (by omega)
  have d1 : 4 * a * a / q ≤ 4 * a * a := Int.ediv_le_self _ hN.1
  refine ⟨⟨(by trivial), hk⟩, ⟨d0, by omega⟩, fun r r0 r1 r2 => ⟨by omega, ?_⟩⟩
  obtain ⟨w1, w2⟩ := root_half q0 hN.1 r0 r1 r2
  rw [haa] at w1 w2
  have hm0 : 0 ≤ (r + 1) / 2 := by omega
  by_cases hs : s < 0
  · rw [if_pos (by simpa using hs)]
    exact drop_same (h _ ⟨(r + 1) / 2, hm0, w1, w2, by rw [if_pos hs]⟩)
  · rw [if_neg (by simpa using hs)]
    exact drop_same (h _ ⟨(r + 1) / 2, hm0, w1, w2, by rw [if_neg hs]⟩)

end Mine
end

section
set_option maxRecDepth 20000
namespace Mine
theorem mulB {a b A B : Int} (a0 : -A ≤ a) (a1 : a ≤ A) (b0 : -B ≤ b) (b1 : b ≤ B) : -(A * B) ≤ a * b ∧ a * b ≤ A * B := by
  have h : (a * b).natAbs ≤ A.toNat * B.toNat := by
    rw [Int.natAbs_mul]
    exact Nat.mul_le_mul (by omega) (by omega)
  have e : ((A.toNat * B.toNat : Nat) : Int) = A * B := by
    rw [Int.natCast_mul, Int.toNat_of_nonneg (by omega), Int.toNat_of_nonneg (by omega)]
  omega

noncomputable def S_ns : Spec := fun ps H R => ∃ t b, ps = [.dat (.int t), .dat (.int b)] ∧ 0 < b ∧ R (.dat (.int (nshare t b))) H
theorem S_ns_eq {H : Sto} {R : Kont} {t b} : S_ns [.dat (.int t), .dat (.int b)] H R = (0 < b ∧ R (.dat (.int (nshare t b))) H) := propext ⟨fun q => by
  obtain ⟨_, _, e, h⟩ := q
  cases e
  exact h, fun h => ⟨_, _, rfl, h⟩⟩
theorem v_ns {g : Gl} {Γ : Gam} {k : Nat} (ps : List PV) (H : Sto) (R : Kont) (h : S_ns ps H R) : vYs g Γ k true Lnearest_share (ps.map some ++ List.replicate 1 none) H (fun _ _ => False) (Drop R) := by
  obtain ⟨t, b, rfl, b0, h⟩ := h
  unfold Lnearest_share
  dsimp only [vYs_nil, vYs_cons, vY_ret, vY_ifs, vY_asg, vY_asgT, vY_asgS, vY_sto, vY_exp, vY_for1, vY_forT, vY_whl, vY_bad, vX_int, vX_str, vX_bool, vX_var, vX_bin, vX_neg, vX_cmp, vX_ife, vX_tup, vX_lst, vX_sub, vX_rev, vX_bi, vX_fn, vX_app, vX_ext, vX_pop, vX_comp, vXs_nil, vXs_cons, vXT_cmp, vXT_chain, vXT_not, vXT_or, vXT_and, vXT_fn, vXif_nil, vXif_cons1, vVar, tat, List.map, List.replicate, List.cons_append, List.nil_append, List.append, List.getElem?_cons_zero, List.getElem?_cons_succ, List.set_cons_zero, List.set_cons_succ, vBin, vCmp, vIdx, vBi, vLen, vRange, vAbs, vMax, vMin, vInt, vMk, datsOf, vNg, vRef, vBo, vDat, vTup, vTupL, vSet, setT, setR, bind1, bindN, Option.map_some, List.length_cons, List.length_nil]
  refine ⟨.inl (by decide), .inl (by decide), by omega, ?_⟩
  unfold nshare at h
  by_cases ht : t < 0
  · rw [if_pos (by simpa using ht)]
    rw [if_pos ht] at h
    exact drop_same h
  · rw [if_neg (by simpa using ht)]
    rw [if_neg ht] at h
    exact drop_same h

noncomputable def S_way : Spec := fun ps H R => ∃ x0 y0 x1 y1, ps = [.dat (.tuple [.int x0, .int y0]), .dat (.tuple [.int x1, .int y1])] ∧ R (.dat (.tuple [.int (x1 - x0), .int (y1 - y0)])) H
theorem S_way_eq {H : Sto} {R : Kont} {x0 y0 x1 y1} : S_way [.dat (.tuple [.int x0, .int y0]), .dat (.tuple [.int x1, .int y1])] H R = (R (.dat (.tuple [.int (x1 - x0), .int (y1 - y0)])) H) := propext ⟨fun q => by
  obtain ⟨_, _, _, _, e, h⟩ := q
  cases e
  exact h, fun h => ⟨_, _, _, _, rfl, h⟩⟩
theorem idx0 {a b : Dat} : idx 0 [a, b] = some a := rfl
theorem idx1 {a b : Dat} : idx 1 [a, b] = some b := rfl
theorem v_way {g : Gl} {Γ : Gam} {k : Nat} (ps : List PV) (H : Sto) (R : Kont) (h : S_way ps H R) : vYs g Γ k true Lway_of (ps.map some ++ List.replicate 0 none) H (fun _ _ => False) (Drop R) := by
  obtain ⟨x0, y0, x1, y1, rfl, h⟩ := h
  unfold Lway_of
  dsimp only [vYs_nil, vYs_cons, vY_ret, vY_ifs, vY_asg, vY_asgT, vY_asgS, vY_sto, vY_exp, vY_for1, vY_forT, vY_whl, vY_bad, vX_int, vX_str, vX_bool, vX_var, vX_bin, vX_neg, vX_cmp, vX_ife, vX_tup, vX_lst, vX_sub, vX_rev, vX_bi, vX_fn, vX_app, vX_ext, vX_pop, vX_comp, vXs_nil, vXs_cons, vXT_cmp, vXT_chain, vXT_not, vXT_or, vXT_and, vXT_fn, vXif_nil, vXif_cons1, vVar, tat, List.map, List.replicate, List.cons_append, List.nil_append, List.append, List.getElem?_cons_zero, List.getElem?_cons_succ, List.set_cons_zero, List.set_cons_succ, vBin, vCmp, vIdx, vBi, vLen, vRange, vAbs, vMax, vMin, vInt, vMk, datsOf, vNg, vRef, vBo, vDat, vTup, vTupL, vSet, setT, setR, bind1, bindN, Option.map_some, List.length_cons, List.length_nil]
  refine ⟨by decide, _, idx0, by decide, _, idx0, by decide, _, idx1, by decide, _, idx1, by decide, drop_same h⟩

noncomputable def S_mov : Spec := fun ps H R => ∃ x0 y0 x1 y1, ps = [.dat (.tuple [.int x0, .int y0]), .dat (.tuple [.int x1, .int y1])] ∧ R (.dat (.tuple [.int (x0 + x1), .int (y0 + y1)])) H
theorem S_mov_eq {H : Sto} {R : Kont} {x0 y0 x1 y1} : S_mov [.dat (.tuple [.int x0, .int y0]), .dat (.tuple [.int x1, .int y1])] H R = (R (.dat (.tuple [.int (x0 + x1), .int (y0 + y1)])) H) := propext ⟨fun q => by
  obtain ⟨_, _, _, _, e, h⟩ := q
  cases e
  exact h, fun h => ⟨_, _, _, _, rfl, h⟩⟩
theorem v_mov {g : Gl} {Γ : Gam} {k : Nat} (ps : List PV) (H : Sto) (R : Kont) (h : S_mov ps H R) : vYs g Γ k true Lmoved_by (ps.map some ++ List.replicate 0 none) H (fun _ _ => False) (Drop R) := by
  obtain ⟨x0, y0, x1, y1, rfl, h⟩ := h
  unfold Lmoved_by
  dsimp only [vYs_nil, vYs_cons, vY_ret, vY_ifs, vY_asg, vY_asgT, vY_asgS, vY_sto, vY_exp, vY_for1, vY_forT, vY_whl, vY_bad, vX_int, vX_str, vX_bool, vX_var, vX_bin, vX_neg, vX_cmp, vX_ife, vX_tup, vX_lst, vX_sub, vX_rev, vX_bi, vX_fn, vX_app, vX_ext, vX_pop, vX_comp, vXs_nil, vXs_cons, vXT_cmp, vXT_chain, vXT_not, vXT_or, vXT_and, vXT_fn, vXif_nil, vXif_cons1, vVar, tat, List.map, List.replicate, List.cons_append, List.nil_append, List.append, List.getElem?_cons_zero, List.getElem?_cons_succ, List.set_cons_zero, List.set_cons_succ, vBin, vCmp, vIdx, vBi, vLen, vRange, vAbs, vMax, vMin, vInt, vMk, datsOf, vNg, vRef, vBo, vDat, vTup, vTupL, vSet, setT, setR, bind1, bindN, Option.map_some, List.length_cons, List.length_nil]
  refine ⟨by decide, _, idx0, by decide, _, idx0, by decide, _, idx1, by decide, _, idx1, by decide, drop_same h⟩

noncomputable def S_tur : Spec := fun ps H R => ∃ x0 y0, ps = [.dat (.tuple [.int x0, .int y0])] ∧ R (.dat (.tuple [.int (-x0), .int (-y0)])) H
theorem S_tur_eq {H : Sto} {R : Kont} {x0 y0} : S_tur [.dat (.tuple [.int x0, .int y0])] H R = (R (.dat (.tuple [.int (-x0), .int (-y0)])) H) := propext ⟨fun q => by
  obtain ⟨_, _, e, h⟩ := q
  cases e
  exact h, fun h => ⟨_, _, rfl, h⟩⟩
theorem v_tur {g : Gl} {Γ : Gam} {k : Nat} (ps : List PV) (H : Sto) (R : Kont) (h : S_tur ps H R) : vYs g Γ k true Lturned_about (ps.map some ++ List.replicate 0 none) H (fun _ _ => False) (Drop R) := by
  obtain ⟨x0, y0, rfl, h⟩ := h
  unfold Lturned_about
  dsimp only [vYs_nil, vYs_cons, vY_ret, vY_ifs, vY_asg, vY_asgT, vY_asgS, vY_sto, vY_exp, vY_for1, vY_forT, vY_whl, vY_bad, vX_int, vX_str, vX_bool, vX_var, vX_bin, vX_neg, vX_cmp, vX_ife, vX_tup, vX_lst, vX_sub, vX_rev, vX_bi, vX_fn, vX_app, vX_ext, vX_pop, vX_comp, vXs_nil, vXs_cons, vXT_cmp, vXT_chain, vXT_not, vXT_or, vXT_and, vXT_fn, vXif_nil, vXif_cons1, vVar, tat, List.map, List.replicate, List.cons_append, List.nil_append, List.append, List.getElem?_cons_zero, List.getElem?_cons_succ, List.set_cons_zero, List.set_cons_succ, vBin, vCmp, vIdx, vBi, vLen, vRange, vAbs, vMax, vMin, vInt, vMk, datsOf, vNg, vRef, vBo, vDat, vTup, vTupL, vSet, setT, setR, bind1, bindN, Option.map_some, List.length_cons, List.length_nil]
  refine ⟨by decide, _, idx0, by decide, _, idx1, by decide, drop_same h⟩

noncomputable def S_alo : Spec := fun ps H R => ∃ x0 y0, ps = [.dat (.tuple [.int x0, .int y0])] ∧ R (.dat (.tuple [.int (-y0), .int x0])) H
theorem S_alo_eq {H : Sto} {R : Kont} {x0 y0} : S_alo [.dat (.tuple [.int x0, .int y0])] H R = (R (.dat (.tuple [.int (-y0), .int x0])) H) := propext ⟨fun q => by
  obtain ⟨_, _, e, h⟩ := q
  cases e
  exact h, fun h => ⟨_, _, rfl, h⟩⟩
theorem v_alo {g : Gl} {Γ : Gam} {k : Nat} (ps : List PV) (H : Sto) (R : Kont) (h : S_alo ps H R) : vYs g Γ k true Lalong_of (ps.map some ++ List.replicate 0 none) H (fun _ _ => False) (Drop R) := by
  obtain ⟨x0, y0, rfl, h⟩ := h
  unfold Lalong_of
  dsimp only [vYs_nil, vYs_cons, vY_ret, vY_ifs, vY_asg, vY_asgT, vY_asgS, vY_sto, vY_exp, vY_for1, vY_forT, vY_whl, vY_bad, vX_int, vX_str, vX_bool, vX_var, vX_bin, vX_neg, vX_cmp, vX_ife, vX_tup, vX_lst, vX_sub, vX_rev, vX_bi, vX_fn, vX_app, vX_ext, vX_pop, vX_comp, vXs_nil, vXs_cons, vXT_cmp, vXT_chain, vXT_not, vXT_or, vXT_and, vXT_fn, vXif_nil, vXif_cons1, vVar, tat, List.map, List.replicate, List.cons_append, List.nil_append, List.append, List.getElem?_cons_zero, List.getElem?_cons_succ, List.set_cons_zero, List.set_cons_succ, vBin, vCmp, vIdx, vBi, vLen, vRange, vAbs, vMax, vMin, vInt, vMk, datsOf, vNg, vRef, vBo, vDat, vTup, vTupL, vSet, setT, setR, bind1, bindN, Option.map_some, List.length_cons, List.length_nil]
  refine ⟨by decide, _, idx1, by decide, _, idx0, by decide, drop_same h⟩

noncomputable def S_sqa : Spec := fun ps H R => ∃ x y h, ps = [.dat (.tuple [.int x, .int y]), .dat (.int h)] ∧ R (.dat (.tuple [.tuple [.int (x - h), .int (y - h)], .tuple [.int (x + h), .int (y - h)], .tuple [.int (x + h), .int (y + h)], .tuple [.int (x - h), .int (y + h)]])) H
theorem S_sqa_eq {H : Sto} {R : Kont} {x y h} : S_sqa [.dat (.tuple [.int x, .int y]), .dat (.int h)] H R = (R (.dat (.tuple [.tuple [.int (x - h), .int (y - h)], .tuple [.int (x + h), .int (y - h)], .tuple [.int (x + h), .int (y + h)], .tuple [.int (x - h), .int (y + h)]])) H) := propext ⟨fun q => by
  obtain ⟨_, _, _, e, h⟩ := q
  cases e
  exact h, fun h => ⟨_, _, _, rfl, h⟩⟩
theorem v_sqa {g : Gl} {Γ : Gam} {k : Nat} (ps : List PV) (H : Sto) (R : Kont) (h : S_sqa ps H R) : vYs g Γ k true Lsquare_about (ps.map some ++ List.replicate 2 none) H (fun _ _ => False) (Drop R) := by
  obtain ⟨x, y, w, rfl, h⟩ := h
  unfold Lsquare_about
  dsimp only [vYs_nil, vYs_cons, vY_ret, vY_ifs, vY_asg, vY_asgT, vY_asgS, vY_sto, vY_exp, vY_for1, vY_forT, vY_whl, vY_bad, vX_int, vX_str, vX_bool, vX_var, vX_bin, vX_neg, vX_cmp, vX_ife, vX_tup, vX_lst, vX_sub, vX_rev, vX_bi, vX_fn, vX_app, vX_ext, vX_pop, vX_comp, vXs_nil, vXs_cons, vXT_cmp, vXT_chain, vXT_not, vXT_or, vXT_and, vXT_fn, vXif_nil, vXif_cons1, vVar, tat, List.map, List.replicate, List.cons_append, List.nil_append, List.append, List.getElem?_cons_zero, List.getElem?_cons_succ, List.set_cons_zero, List.set_cons_succ, vBin, vCmp, vIdx, vBi, vLen, vRange, vAbs, vMax, vMin, vInt, vMk, datsOf, vNg, vRef, vBo, vDat, vTup, vTupL, vSet, setT, setR, bind1, bindN, Option.map_some, List.length_cons, List.length_nil]
  refine ⟨by decide, by decide, by decide, by decide, by decide, drop_same h⟩

noncomputable def S_nor : Spec := fun ps H R => ∃ x0 y0 x1 y1 h, ps = [.dat (.tuple [.int x0, .int y0]), .dat (.tuple [.int x1, .int y1]), .dat (.int h)] ∧ ((-(2 ^ 9) ≤ x1 - x0 ∧ x1 - x0 ≤ 2 ^ 9) ∧ (-(2 ^ 9) ≤ y1 - y0 ∧ y1 - y0 ≤ 2 ^ 9) ∧ (-(2 ^ 9) ≤ h ∧ h ≤ 2 ^ 9) ∧ 0 < (x1 - x0) * (x1 - x0) + (y1 - y0) * (y1 - y0)) ∧
      ∀ u v, NR ((y1 - y0) * h) ((x1 - x0) * (x1 - x0) + (y1 - y0) * (y1 - y0)) u → NR (-(x1 - x0) * h) ((x1 - x0) * (x1 - x0) + (y1 - y0) * (y1 - y0)) v → R (.dat (.tuple [.int u, .int v])) H
theorem S_nor_eq {H : Sto} {R : Kont} {x0 y0 x1 y1 h} : S_nor [.dat (.tuple [.int x0, .int y0]), .dat (.tuple [.int x1, .int y1]), .dat (.int h)] H R = (((-(2 ^ 9) ≤ x1 - x0 ∧ x1 - x0 ≤ 2 ^ 9) ∧ (-(2 ^ 9) ≤ y1 - y0 ∧ y1 - y0 ≤ 2 ^ 9) ∧ (-(2 ^ 9) ≤ h ∧ h ≤ 2 ^ 9) ∧ 0 < (x1 - x0) * (x1 - x0) + (y1 - y0) * (y1 - y0)) ∧
      ∀ u v, NR ((y1 - y0) * h) ((x1 - x0) * (x1 - x0) + (y1 - y0) * (y1 - y0)) u → NR (-(x1 - x0) * h) ((x1 - x0) * (x1 - x0) + (y1 - y0) * (y1 - y0)) v → R (.dat (.tuple [.int u, .int v])) H) := propext ⟨fun q => by
  obtain ⟨_, _, _, _, _, e, h⟩ := q
  cases e
  exact h, fun h => ⟨_, _, _, _, _, rfl, h⟩⟩
theorem v_nor {g : Gl} {Γ : Gam} {k : Nat} (hk : 1 < k) (x1 x3 : Str) (h1 : Γ[1]? = some (x1, 1, S_nrs)) (h3 : Γ[3]? = some (x3, 0, S_way)) (ps : List PV) (H : Sto) (R : Kont) (h : S_nor ps H R) : vYs g Γ k true Lnormal_of (ps.map some ++ List.replicate 3 none) H (fun _ _ => False) (Drop R) := by
  obtain ⟨x0, y0, x1, y1, w, rfl, ⟨⟨bx0, bx1⟩, ⟨by0, by1⟩, ⟨bh0, bh1⟩, hq⟩, h⟩ := h
  unfold Lnormal_of
  dsimp only [vYs_nil, vYs_cons, vY_ret, vY_ifs, vY_asg, vY_asgT, vY_asgS, vY_sto, vY_exp, vY_for1, vY_forT, vY_whl, vY_bad, vX_int, vX_str, vX_bool, vX_var, vX_bin, vX_neg, vX_cmp, vX_ife, vX_tup, vX_lst, vX_sub, vX_rev, vX_bi, vX_fn, vX_app, vX_ext, vX_pop, vX_comp, vXs_nil, vXs_cons, vXT_cmp, vXT_chain, vXT_not, vXT_or, vXT_and, vXT_fn, vXif_nil, vXif_cons1, vVar, tat, List.map, List.replicate, List.cons_append, List.nil_append, List.append, List.getElem?_cons_zero, List.getElem?_cons_succ, List.set_cons_zero, List.set_cons_succ, vBin, vCmp, vIdx, vBi, vLen, vRange, vAbs, vMax, vMin, vInt, vMk, datsOf, vNg, vRef, vBo, vDat, vTup, vTupL, vSet, setT, setR, bind1, bindN, Option.map_some, List.length_cons, List.length_nil]
  repeat (first | simp only [vDef, h1, h3, S_way_eq, S_nrs_eq] | dsimp only [vYs_nil, vYs_cons, vY_ret, vY_ifs, vY_asg, vY_asgT, vY_asgS, vY_sto, vY_exp, vY_for1, vY_forT, vY_whl, vY_bad, vX_int, vX_str, vX_bool, vX_var, vX_bin, vX_neg, vX_cmp, vX_ife, vX_tup, vX_lst, vX_sub, vX_rev, vX_bi, vX_fn, vX_app, vX_ext, vX_pop, vX_comp, vXs_nil, vXs_cons, vXT_cmp, vXT_chain, vXT_not, vXT_or, vXT_and, vXT_fn, vXif_nil, vXif_cons1, vVar, tat, List.map, List.replicate, List.cons_append, List.nil_append, List.append, List.getElem?_cons_zero, List.getElem?_cons_succ, List.set_cons_zero, List.set_cons_succ, vBin, vCmp, vIdx, vBi, vLen, vRange, vAbs, vMax, vMin, vInt, vMk, datsOf, vNg, vRef, vBo, vDat, vTup, vTupL, vSet, setT, setR, bind1, bindN, Option.map_some, List.length_cons, List.length_nil])
  generalize hx : x1 - x0 = x at *
  generalize hy : y1 - y0 = y at *
  have b1 := mulB by0 by1 bh0 bh1
  have b2 := mulB (a := -x) (b := w) (A := 2 ^ 9) (B := 2 ^ 9) (by omega) (by omega) bh0 bh1
  refine ⟨⟨(by trivial), by omega⟩, .inl (by omega), .inl (by omega), .inl (by omega), ⟨(by trivial), hk⟩, ⟨⟨by omega, by omega⟩, hq⟩, fun u hu => ⟨.inl (by omega), ⟨(by trivial), hk⟩, ⟨⟨by omega, by omega⟩, hq⟩, fun v hv => ⟨by simp, drop_same (h u v hu hv)⟩⟩⟩

end Mine
end

section
set_option maxRecDepth 20000
namespace Mine
theorem sqpos {st t : Int} (s1 : 1 ≤ st) : 0 < 70 * st * (70 * st) + 29 * t * (29 * t) := by
  have a : (1 : Int) * 1 ≤ 70 * st * (70 * st) := Int.mul_le_mul (by omega) (by omega) (by omega) (by omega)
  have b : 0 ≤ 29 * t * (29 * t) := by
    rcases Int.le_total 0 (29 * t) with h | h
    · exact Int.mul_nonneg h h
    · exact Int.mul_nonneg_of_nonpos_of_nonpos h h
  omega

theorem rngD_at {a b : Int} {pre post : List Dat} {e : Dat} (h : rngD a b = pre ++ e :: post) : ∃ i : Nat, i = pre.length ∧ e = .int (a + (i : Int)) ∧ (i : Int) < b - a := by
  have hl := congrArg List.length h
  rw [rngD_length] at hl
  have hx : (rngD a b)[pre.length]? = some e := by
    rw [h, List.getElem?_append_right (Nat.le_refl _)]; simp
  unfold rngD at hx
  rw [List.getElem?_map] at hx
  rw [List.length_append, List.length_cons] at hl
  rw [List.getElem?_range (by omega)] at hx
  exact ⟨_, rfl, (by simpa using hx.symm), by omega⟩

noncomputable def S_eig : Spec := fun ps H R => ∃ h st, ps = [.dat (.int h), .dat (.int st)] ∧ ((1 ≤ h ∧ h ≤ 9) ∧ (1 ≤ st ∧ st ≤ 4)) ∧ ∀ a, R (.ref a) ((a, (eighthL h st).map pt) :: H)
theorem S_eig_eq {H : Sto} {R : Kont} {h st} : S_eig [.dat (.int h), .dat (.int st)] H R = (((1 ≤ h ∧ h ≤ 9) ∧ (1 ≤ st ∧ st ≤ 4)) ∧ ∀ a, R (.ref a) ((a, (eighthL h st).map pt) :: H)) := propext ⟨fun q => by
  obtain ⟨_, _, e, h⟩ := q
  cases e
  exact h, fun h => ⟨_, _, rfl, h⟩⟩
noncomputable def onI (fn : Int → Dat) : Dat → Dat
  | .int t => fn t
  | e => e
theorem map_rng {fn : Int → Pt} {b : Int} : (rngD 0 b).map (onI fun t => pt (fn t)) = ((List.range (b - 0).toNat).map fun i : Nat => fn (0 + (i : Int))).map pt := by
  unfold rngD
  rw [List.map_map, List.map_map]; rfl

theorem v_eig {g : Gl} {Γ : Gam} {k : Nat} (hk : 0 < k) (x2 : Str) (h2 : Γ[2]? = some (x2, 0, S_ns)) (ps : List PV) (H : Sto) (R : Kont) (h : S_eig ps H R) : vYs g Γ k true Leighth (ps.map some ++ List.replicate 7 none) H (fun _ _ => False) (Drop R) := by
  obtain ⟨w, st, rfl, ⟨⟨w0, w1⟩, s0, s1⟩, h⟩ := h
  unfold Leighth
  dsimp only [vYs_nil, vYs_cons, vY_ret, vY_ifs, vY_asg, vY_asgT, vY_asgS, vY_sto, vY_exp, vY_for1, vY_forT, vY_whl, vY_bad, vX_int, vX_str, vX_bool, vX_var, vX_bin, vX_neg, vX_cmp, vX_ife, vX_tup, vX_lst, vX_sub, vX_rev, vX_bi, vX_fn, vX_app, vX_ext, vX_pop, vX_comp, vXs_nil, vXs_cons, vXT_cmp, vXT_chain, vXT_not, vXT_or, vXT_and, vXT_fn, vXif_nil, vXif_cons1, vVar, tat, List.map, List.replicate, List.cons_append, List.nil_append, List.append, List.getElem?_cons_zero, List.getElem?_cons_succ, List.set_cons_zero, List.set_cons_succ, vBin, vCmp, vIdx, vBi, vLen, vRange, vAbs, vMax, vMin, vInt, vMk, datsOf, vNg, vRef, vBo, vDat, vTup, vTupL, vSet, setT, setR, bind1, bindN, Option.map_some, List.length_cons, List.length_nil]
  refine ⟨by decide, fun a => ?_⟩
  refine ⟨rngD 0 (st + 1), (a, []) :: H, fun pre τ H3 => H3 = (a, pre.map (onI fun t => pt (e8 w st t))) :: H ∧ ∃ o3 o4 o5 o6 o7 o8, τ = [some (.dat (.int w)), some (.dat (.int st)), some (.ref a), o3, o4, o5, o6, o7, o8], ⟨⟨by omega, by omega, by omega, by omega⟩, rfl, rfl⟩, ⟨rfl, _, _, _, _, _, _, rfl⟩, ?_, ?_⟩
  · rintro pre e post τ1 H3 he ⟨rfl, o3, o4, o5, o6, o7, o8, rfl⟩
    obtain ⟨i, hi, rfl, hlt⟩ := rngD_at he
    unfold Leighth_1
    dsimp only [vYs_nil, vYs_cons, vY_ret, vY_ifs, vY_asg, vY_asgT, vY_asgS, vY_sto, vY_exp, vY_for1, vY_forT, vY_whl, vY_bad, vX_int, vX_str, vX_bool, vX_var, vX_bin, vX_neg, vX_cmp, vX_ife, vX_tup, vX_lst, vX_sub, vX_rev, vX_bi, vX_fn, vX_app, vX_ext, vX_pop, vX_comp, vXs_nil, vXs_cons, vXT_cmp, vXT_chain, vXT_not, vXT_or, vXT_and, vXT_fn, vXif_nil, vXif_cons1, vVar, tat, List.map, List.replicate, List.cons_append, List.nil_append, List.append, List.getElem?_cons_zero, List.getElem?_cons_succ, List.set_cons_zero, List.set_cons_succ, vBin, vCmp, vIdx, vBi, vLen, vRange, vAbs, vMax, vMin, vInt, vMk, datsOf, vNg, vRef, vBo, vDat, vTup, vTupL, vSet, setT, setR, bind1, bindN, Option.map_some, List.length_cons, List.length_nil]
    repeat (first | simp only [vDef, h2, S_ns_eq] | dsimp only [vYs_nil, vYs_cons, vY_ret, vY_ifs, vY_asg, vY_asgT, vY_asgS, vY_sto, vY_exp, vY_for1, vY_forT, vY_whl, vY_bad, vX_int, vX_str, vX_bool, vX_var, vX_bin, vX_neg, vX_cmp, vX_ife, vX_tup, vX_lst, vX_sub, vX_rev, vX_bi, vX_fn, vX_app, vX_ext, vX_pop, vX_comp, vXs_nil, vXs_cons, vXT_cmp, vXT_chain, vXT_not, vXT_or, vXT_and, vXT_fn, vXif_nil, vXif_cons1, vVar, tat, List.map, List.replicate, List.cons_append, List.nil_append, List.append, List.getElem?_cons_zero, List.getElem?_cons_succ, List.set_cons_zero, List.set_cons_succ, vBin, vCmp, vIdx, vBi, vLen, vRange, vAbs, vMax, vMin, vInt, vMk, datsOf, vNg, vRef, vBo, vDat, vTup, vTupL, vSet, setT, setR, bind1, bindN, Option.map_some, List.length_cons, List.length_nil])
    have hp : pre.length ≤ 10 := by omega
    refine ⟨.inl (by decide), .inl (by decide), by simp, by simp, .inl (by omega), .inl (by omega), .inl (by omega), .inl (by omega), .inl (by omega), ⟨(by trivial), hk⟩, sqpos s0, .inl (by omega), .inr (by omega), .inr (by omega), ⟨(by trivial), hk⟩, sqpos s0, ⟨_, .head _⟩, by simp, ?_⟩
    refine ⟨[], _, H, rfl, by simp; omega, ?_, _, _, _, _, _, _, rfl⟩
    rw [List.map_append]
    rfl
  · rintro τ1 H3 ⟨rfl, o3, o4, o5, o6, o7, o8, rfl⟩
    unfold Leighth_2
    dsimp only [vYs_nil, vYs_cons, vY_ret, vY_ifs, vY_asg, vY_asgT, vY_asgS, vY_sto, vY_exp, vY_for1, vY_forT, vY_whl, vY_bad, vX_int, vX_str, vX_bool, vX_var, vX_bin, vX_neg, vX_cmp, vX_ife, vX_tup, vX_lst, vX_sub, vX_rev, vX_bi, vX_fn, vX_app, vX_ext, vX_pop, vX_comp, vXs_nil, vXs_cons, vXT_cmp, vXT_chain, vXT_not, vXT_or, vXT_and, vXT_fn, vXif_nil, vXif_cons1, vVar, tat, List.map, List.replicate, List.cons_append, List.nil_append, List.append, List.getElem?_cons_zero, List.getElem?_cons_succ, List.set_cons_zero, List.set_cons_succ, vBin, vCmp, vIdx, vBi, vLen, vRange, vAbs, vMax, vMin, vInt, vMk, datsOf, vNg, vRef, vBo, vDat, vTup, vTupL, vSet, setT, setR, bind1, bindN, Option.map_some, List.length_cons, List.length_nil]
    rw [map_rng]
    exact drop_same (h a)

end Mine
end

section
set_option maxRecDepth 20000
namespace Mine
theorem seqI {k : Int} {n i : Nat} (h : (if k < 0 then k + n else k) = (i : Int)) (hl : i < n) : seqIndex? k n = some i := by
  show (if (decide (0 ≤ (if k < 0 then k + n else k)) && decide ((if k < 0 then k + n else k) < n)) = true then some (if k < 0 then k + n else k).toNat else none) = some i
  rw [h, if_pos (by simp; omega)]
  simp
theorem idx_of {k : Int} {ds : List Dat} {i : Nat} {e : Dat} (h : (if k < 0 then k + ds.length else k) = (i : Int)) (he : ds[i]? = some e) : idx k ds = some e := by
  have hl := (List.getElem?_eq_some_iff.mp he).1
  unfold idx
  rw [seqI h hl]
  exact he
theorem idx_nn {ds : List Dat} {i : Nat} {e : Dat} (h : ds[i]? = some e) : idx (i : Int) ds = some e := idx_of (by rw [if_neg (by omega)]) h
theorem idx_last {ds : List Dat} {e : Dat} : idx (-1) (ds ++ [e]) = some e :=
  idx_of (i := ds.length) (by rw [if_pos (by omega), List.length_append]; simp; omega) (by simp)
theorem idx_head {ds : List Dat} {e : Dat} : idx 0 (e :: ds) = some e := idx_of (i := 0) (by simp) rfl

noncomputable def onP (f : Pt → Pt) : Dat → Dat
  | .tuple [.int a, .int b] => pt (f (a, b))
  | e => e
noncomputable def yes : Dat → Bool := fun _ => true
theorem pick_pts (f : Pt → Pt) : ∀ l : List Pt, (l.map pt).filterMap (pickD yes (onP f)) = (l.map f).map pt
  | [] => rfl
  | p :: l => by
    rw [List.map_cons, List.filterMap_cons, List.map_cons, List.map_cons, ← pick_pts f l]
    rfl
noncomputable def sp (cx cy : Int) (p : Pt) : Dat := pt (cx + p.1, cy + p.2)
theorem sp_inj {cx cy : Int} {p q : Pt} (h : sp cx cy p = sp cx cy q) : p = q := by
  have h' := pt_inj h
  have a := congrArg Prod.fst h'
  have b := congrArg Prod.snd h'
  dsimp at a b
  exact Prod.ext (by omega) (by omega)
theorem ded_snoc (l : List Pt) (p : Pt) : ded (l ++ [p]) = ded1 (ded l) p := by
  unfold ded
  rw [List.foldl_append]; rfl
theorem ded1_len (a : List Pt) (p : Pt) : (ded1 a p).length ≤ a.length + 1 := by
  unfold ded1
  split
  · omega
  · simp
theorem fold_len : ∀ (l a : List Pt), (l.foldl ded1 a).length ≤ a.length + l.length
  | [], a => by simp
  | p :: l, a => by
    rw [List.foldl_cons]
    have := fold_len l (ded1 a p)
    have := ded1_len a p
    rw [List.length_cons]; omega
theorem ded_len (l : List Pt) : (ded l).length ≤ l.length := by
  have := fold_len l []
  simpa [ded] using this
theorem itA_len (q : List Pt) : ∀ n, (itA q n).1.length = n * q.length ∧ (itA q n).2.length = q.length
  | 0 => by simp [itA]
  | n + 1 => by
    have := itA_len q n
    simp [itA, this.1, this.2, Nat.succ_mul]
theorem eig_len (h st : Int) : (eighthL h st).length = (st + 1 - 0).toNat := by simp [eighthL]
theorem ringQ_len (l : List Pt) : (ringQ l).length = 2 * l.length := by simp [ringQ]; omega

noncomputable def discD (cx cy h st : Int) : List Dat := (ringL h st).map (sp cx cy)
noncomputable def S_dis : Spec := fun ps H R => ∃ cx cy h st, ps = [.dat (.tuple [.int cx, .int cy]), .dat (.int h), .dat (.int st)] ∧ ((1 ≤ h ∧ h ≤ 9) ∧ (1 ≤ st ∧ st ≤ 4)) ∧ R (.dat (.tuple (discD cx cy h st))) H
theorem S_dis_eq {H : Sto} {R : Kont} {cx cy h st} : S_dis [.dat (.tuple [.int cx, .int cy]), .dat (.int h), .dat (.int st)] H R = (((1 ≤ h ∧ h ≤ 9) ∧ (1 ≤ st ∧ st ≤ 4)) ∧ R (.dat (.tuple (discD cx cy h st))) H) := propext ⟨fun q => by
  obtain ⟨_, _, _, _, e, h⟩ := q
  cases e
  exact h, fun h => ⟨_, _, _, _, rfl, h⟩⟩

section
variable {g : Gl} {Γ : Gam} {k : Nat} {H : Sto} {R : Kont} {cx cy w st : Int} {a0 a1 c f : Addr} {D0 : Addr × List Dat} {F : List Dat}

noncomputable abbrev tauD (cx cy w st : Int) (a0 a1 c f : Addr) (o4 o5 o8 o10 : Option PV) : Tau := [some (.dat (.tuple [.int cx, .int cy])), some (.dat (.int w)), some (.dat (.int st)), some (.ref a0), o4, o5, some (.ref c), some (.ref a1), o8, some (.ref f), o10]

theorem v_dis6 (o4 o5 o8 o10 : Option PV) (G T2 : Sto) (hT : List.Sublist H T2) (hlen : (dedL w st).length ≤ 1000) (h : R (.dat (.tuple (discD cx cy w st))) H) :
    vYs g Γ k true Ldisc_about_6 (tauD cx cy w st a0 a1 c f o4 o5 o8 o10) (G ++ (f, (dedL w st).map (sp cx cy)) :: T2) (fun _ _ => False) (Drop R) := by
  unfold Ldisc_about_6
  dsimp only [vYs_nil, vYs_cons, vY_ret, vY_ifs, vY_asg, vY_asgT, vY_asgS, vY_sto, vY_exp, vY_for1, vY_forT, vY_whl, vY_bad, vX_int, vX_str, vX_bool, vX_var, vX_bin, vX_neg, vX_cmp, vX_ife, vX_tup, vX_lst, vX_sub, vX_rev, vX_bi, vX_fn, vX_app, vX_ext, vX_pop, vX_comp, vXs_nil, vXs_cons, vXT_cmp, vXT_chain, vXT_not, vXT_or, vXT_and, vXT_fn, vXif_nil, vXif_cons1, vVar, tat, List.map, List.replicate, List.cons_append, List.nil_append, List.append, List.getElem?_cons_zero, List.getElem?_cons_succ, List.set_cons_zero, List.set_cons_succ, vBin, vCmp, vIdx, vBi, vLen, vRange, vAbs, vMax, vMin, vInt, vMk, datsOf, vNg, vRef, vBo, vDat, vTup, vTupL, vSet, setT, setR, bind1, bindN, Option.map_some, List.length_cons, List.length_nil]
  refine ⟨fun m τ H3 => ∃ l, H3 = G ++ (f, l.map (sp cx cy)) :: T2 ∧ τ = tauD cx cy w st a0 a1 c f o4 o5 o8 o10 ∧ trim m l = ringL w st ∧ l.length ≤ m ∧ l.length ≤ 1000, (dedL w st).length, ⟨_, rfl, rfl, rfl, Nat.le_refl _, hlen⟩, ?_⟩
  rintro m τ1 H3 ⟨l, rfl, rfl, ht, hm, hl⟩
  unfold Ldisc_about_3 Ldisc_about_4 Ldisc_about_5
  dsimp only [vYs_nil, vYs_cons, vY_ret, vY_ifs, vY_asg, vY_asgT, vY_asgS, vY_sto, vY_exp, vY_for1, vY_forT, vY_whl, vY_bad, vX_int, vX_str, vX_bool, vX_var, vX_bin, vX_neg, vX_cmp, vX_ife, vX_tup, vX_lst, vX_sub, vX_rev, vX_bi, vX_fn, vX_app, vX_ext, vX_pop, vX_comp, vXs_nil, vXs_cons, vXT_cmp, vXT_chain, vXT_not, vXT_or, vXT_and, vXT_fn, vXif_nil, vXif_cons1, vVar, tat, List.map, List.replicate, List.cons_append, List.nil_append, List.append, List.getElem?_cons_zero, List.getElem?_cons_succ, List.set_cons_zero, List.set_cons_succ, vBin, vCmp, vIdx, vBi, vLen, vRange, vAbs, vMax, vMin, vInt, vMk, datsOf, vNg, vRef, vBo, vDat, vTup, vTupL, vSet, setT, setR, bind1, bindN, Option.map_some, List.length_cons, List.length_nil]
  have hmem : (f, l.map (sp cx cy)) ∈ G ++ (f, l.map (sp cx cy)) :: T2 := List.mem_append_right _ (.head _)
  have fin : trim m l = l → ∃ ds, (f, ds) ∈ G ++ (f, l.map (sp cx cy)) :: T2 ∧ ds.length ≤ 1000 ∧ Drop R (.dat (.tuple ds)) (G ++ (f, l.map (sp cx cy)) :: T2) := fun e => by
    refine ⟨_, hmem, by simpa using hl, H, ?_, ?_⟩
    · exact List.sublist_append_of_sublist_right (List.Sublist.cons _ hT)
    · rw [e] at ht
      subst ht
      exact h
  refine ⟨_, hmem, by simp; omega, ?_⟩
  rw [List.length_map]
  by_cases h1 : 1 < l.length
  · rw [if_pos (by simp; omega)]
    obtain ⟨p, r, rfl⟩ : ∃ p r, l = p :: r := by
      cases l with
      | nil => simp at h1
      | cons p r => exact ⟨p, r, rfl⟩
    obtain ⟨r', z, hz⟩ : ∃ r' z, p :: r = r' ++ [z] := ⟨(p :: r).dropLast, (p :: r).getLast (by simp), (List.dropLast_concat_getLast (by simp)).symm⟩
    have hi1 : idx (-1) ((p :: r).map (sp cx cy)) = some (sp cx cy z) := by
      rw [hz, List.map_append]; exact idx_last
    have hi0 : idx 0 ((p :: r).map (sp cx cy)) = some (sp cx cy p) := idx_head
    refine ⟨by decide, _, _, hmem, hi1, by decide, _, _, hmem, hi0, ?_⟩
    simp only [sp, pt]
    refine ⟨⟨rfl, rfl⟩, fun cc hcc => ?_⟩
    have hcz : cc = true ↔ z = p := by
      rw [hcc]
      constructor
      · intro e
        exact sp_inj (cx := cx) (cy := cy) (by unfold sp pt; rw [e])
      · rintro rfl; rfl
    have hlast : (p :: r).getLast? = some z := by rw [hz]; simp
    have hdrop : (p :: r).dropLast = r' := by rw [hz]; simp
    cases cc with
    | true =>
      rw [if_pos rfl]
      have e := hcz.mp rfl
      subst e
      cases m with
      | zero => simp at hm
      | succ m =>
        have hst : trim (m + 1) (z :: r) = trim m r' := by
          show (if 1 < (z :: r).length ∧ (z :: r).getLast? = (z :: r).head? then trim m (z :: r).dropLast else z :: r) = _
          rw [if_pos ⟨h1, by rw [hlast]; rfl⟩, hdrop]
        have hlr : r'.length + 1 = (z :: r).length := by rw [hz]; simp
        refine ⟨G, r'.map (sp cx cy), sp cx cy z, T2, ?_, by rw [List.length_map]; omega, m, by omega, r', rfl, (by trivial), ?_, by omega, by omega⟩
        · rw [show (r'.map (sp cx cy) ++ [sp cx cy z]) = (r' ++ [z]).map (sp cx cy) by rw [List.map_append]; rfl, ← hz]
        · rw [← hst]; exact ht
    | false =>
      rw [if_neg Bool.false_ne_true]
      refine fin ?_
      cases m with
      | zero => rfl
      | succ m =>
        show (if 1 < (p :: r).length ∧ (p :: r).getLast? = (p :: r).head? then trim m (p :: r).dropLast else p :: r) = _
        rw [if_neg]
        rintro ⟨_, q⟩
        rw [hlast] at q
        have := hcz.mpr (Option.some.inj q)
        cases this
  · rw [if_neg (by simp; omega)]
    rw [if_neg Bool.false_ne_true]
    refine fin ?_
    cases m with
    | zero => rfl
    | succ m =>
      show (if 1 < l.length ∧ l.getLast? = l.head? then trim m l.dropLast else l) = _
      rw [if_neg (fun q => h1 q.1)]
end

end Mine
end

section
set_option maxRecDepth 20000
namespace Mine
section
variable {g : Gl} {Γ : Gam} {k : Nat} {H : Sto} {R : Kont} {cx cy w st : Int} {a0 a1 c f : Addr} {D0 : Addr × List Dat} {F : List Dat}

theorem mem_pts {L : List Pt} {pre post : List Dat} {e : Dat} (h : L.map pt = pre ++ e :: post) : ∃ p, e = pt p ∧ ∃ l r, pre = l.map pt ∧ L = l ++ p :: r := by
  obtain ⟨l, r, h1, h2, h3⟩ := List.map_eq_append_iff.mp h
  cases r with
  | nil => cases h3
  | cons p r =>
    rw [List.map_cons] at h3
    obtain ⟨e1, e2⟩ := List.cons.inj h3
    exact ⟨p, e1.symm, l, r, h2.symm, h1⟩

theorem v_dis2 {l : List Pt} {p : Pt} {G T2 : Sto} {a1 : Addr} {o8 o10 : Option PV} {Rn : KT} {Rr : Kont} (hl : l.length ≤ 900)
    (h : ∀ G', Rn (tauD cx cy w st a0 a1 c f (some (.dat (.int p.1))) (some (.dat (.int p.2))) o8 (some (.dat (.tuple [.int (cx + p.1), .int (cy + p.2)])))) (G' ++ (f, (ded (l ++ [p])).map (sp cx cy)) :: T2)) :
    vYs g Γ k true Ldisc_about_2 (tauD cx cy w st a0 a1 c f (some (.dat (.int p.1))) (some (.dat (.int p.2))) o8 o10) (G ++ (f, (ded l).map (sp cx cy)) :: T2) Rn Rr := by
  unfold Ldisc_about_2
  dsimp only [vYs_nil, vYs_cons, vY_ret, vY_ifs, vY_asg, vY_asgT, vY_asgS, vY_sto, vY_exp, vY_for1, vY_forT, vY_whl, vY_bad, vX_int, vX_str, vX_bool, vX_var, vX_bin, vX_neg, vX_cmp, vX_ife, vX_tup, vX_lst, vX_sub, vX_rev, vX_bi, vX_fn, vX_app, vX_ext, vX_pop, vX_comp, vXs_nil, vXs_cons, vXT_cmp, vXT_chain, vXT_not, vXT_or, vXT_and, vXT_fn, vXif_nil, vXif_cons1, vVar, tat, List.map, List.replicate, List.cons_append, List.nil_append, List.append, List.getElem?_cons_zero, List.getElem?_cons_succ, List.set_cons_zero, List.set_cons_succ, vBin, vCmp, vIdx, vBi, vLen, vRange, vAbs, vMax, vMin, vInt, vMk, datsOf, vNg, vRef, vBo, vDat, vTup, vTupL, vSet, setT, setR, bind1, bindN, Option.map_some, List.length_cons, List.length_nil]
  refine ⟨by decide, _, idx0, by decide, _, idx1, by simp, by simp, fun a' => ?_⟩
  have hm : (f, (ded l).map (sp cx cy)) ∈ (a', []) :: (G ++ (f, (ded l).map (sp cx cy)) :: T2) := List.mem_cons_of_mem _ (List.mem_append_right _ (.head _))
  have dl := ded_len l
  have kq : ∀ d ∈ (ded l).map (sp cx cy), kqdOk 8 d = true := by
    intro d hd
    obtain ⟨q, _, rfl⟩ := List.mem_map.mp hd
    rfl
  refine ⟨_, [], hm, .head _, kq, (fun d hd => by cases hd), fun cc hcc => ?_⟩
  rw [ded_snoc] at h
  have happ : (ded1 (ded l) p = ded l ++ [p]) → ∃ pre ds post, (a', []) :: (G ++ (f, (ded l).map (sp cx cy)) :: T2) = pre ++ (f, ds) :: post ∧ ds.length ≤ 1000 ∧
      Rn (tauD cx cy w st a0 a1 c f (some (.dat (.int p.1))) (some (.dat (.int p.2))) o8 (some (.dat (.tuple [.int (cx + p.1), .int (cy + p.2)])))) (pre ++ (f, ds ++ [.tuple [.int (cx + p.1), .int (cy + p.2)]]) :: post) := fun e => by
    refine ⟨(a', []) :: G, _, T2, rfl, by rw [List.length_map]; omega, ?_⟩
    have := h ((a', []) :: G)
    rw [e, List.map_append] at this
    exact this
  by_cases hcT : cc = true
  · subst hcT
    rw [if_pos rfl, if_pos (by trivial)]
    have he := hcc.mp rfl
    have hd : ded l = [] := by
      cases hq : ded l with
      | nil => rfl
      | cons _ _ => rw [hq] at he; cases he
    exact ⟨⟨_, hm⟩, happ (by unfold ded1; rw [hd, if_neg (by simp)])⟩
  · rw [if_neg hcT]
    have hne : ded l ≠ [] := fun q => hcT (hcc.mpr (by rw [q]; rfl))
    obtain ⟨r, z, hz⟩ : ∃ r z, ded l = r ++ [z] := ⟨(ded l).dropLast, (ded l).getLast hne, (List.dropLast_concat_getLast hne).symm⟩
    refine ⟨by decide, _, _, hm, (by rw [hz, List.map_append]; exact idx_last), ?_⟩
    simp only [sp, pt]
    refine ⟨⟨rfl, rfl⟩, fun c2 hc2 => ?_⟩
    have hpz : c2 = true ↔ p ≠ z := by
      rw [hc2]
      constructor
      · intro q e
        rw [e] at q
        exact q rfl
      · intro q e
        exact q (sp_inj (cx := cx) (cy := cy) (by unfold sp pt; rw [e]))
    have hlast : (ded l).getLast? = some z := by rw [hz]; simp
    cases c2 with
    | true =>
      rw [if_pos rfl]
      have := hpz.mp rfl
      refine ⟨⟨_, hm⟩, happ ?_⟩
      unfold ded1
      rw [hlast, if_neg]
      intro q
      exact this (Option.some.inj q).symm
    | false =>
      rw [if_neg Bool.false_ne_true]
      have e : p = z := Classical.byContradiction fun q => Bool.false_ne_true (hpz.mpr q)
      have := h ((a', []) :: G)
      have e2 : ded1 (ded l) p = ded l := by
        unfold ded1
        rw [hlast, e, if_pos rfl]
      rw [e2] at this
      exact this

theorem v_dis7 {T : Sto} {X : Sto} {Q8 q : List Pt} {o8 : Option PV} (hX : X = (a1, Q8.map pt) :: (c, q.map pt) :: T ∨ X = (c, q.map pt) :: (a1, Q8.map pt) :: T) (hT : List.Sublist H T) (hQ : ded Q8 = dedL w st) (hlen : Q8.length ≤ 900) (h : R (.dat (.tuple (discD cx cy w st))) H) :
    vYs g Γ k true Ldisc_about_7 [some (.dat (.tuple [.int cx, .int cy])), some (.dat (.int w)), some (.dat (.int st)), some (.ref a0), none, none, some (.ref c), some (.ref a1), o8, none, none] X (fun _ _ => False) (Drop R) := by
  unfold Ldisc_about_7
  dsimp only [vYs_nil, vYs_cons, vY_ret, vY_ifs, vY_asg, vY_asgT, vY_asgS, vY_sto, vY_exp, vY_for1, vY_forT, vY_whl, vY_bad, vX_int, vX_str, vX_bool, vX_var, vX_bin, vX_neg, vX_cmp, vX_ife, vX_tup, vX_lst, vX_sub, vX_rev, vX_bi, vX_fn, vX_app, vX_ext, vX_pop, vX_comp, vXs_nil, vXs_cons, vXT_cmp, vXT_chain, vXT_not, vXT_or, vXT_and, vXT_fn, vXif_nil, vXif_cons1, vVar, tat, List.map, List.replicate, List.cons_append, List.nil_append, List.append, List.getElem?_cons_zero, List.getElem?_cons_succ, List.set_cons_zero, List.set_cons_succ, vBin, vCmp, vIdx, vBi, vLen, vRange, vAbs, vMax, vMin, vInt, vMk, datsOf, vNg, vRef, vBo, vDat, vTup, vTupL, vSet, setT, setR, bind1, bindN, Option.map_some, List.length_cons, List.length_nil]
  refine ⟨by decide, fun f => ?_⟩
  refine ⟨Q8.map pt, (f, []) :: (c, q.map pt) :: T, fun pre τ H3 => ∃ l G o4 o5 o10, pre = l.map pt ∧ H3 = G ++ (f, (ded l).map (sp cx cy)) :: (c, q.map pt) :: T ∧ τ = tauD cx cy w st a0 a1 c f o4 o5 o8 o10, ?_, ⟨[], [], none, none, none, rfl, rfl, rfl⟩, ?_, ?_⟩
  · rcases hX with rfl | rfl
    · exact ⟨[(f, [])], (c, q.map pt) :: T, rfl, rfl, by simp; omega⟩
    · exact ⟨[(f, []), (c, q.map pt)], T, rfl, rfl, by simp; omega⟩
  · rintro pre e post τ1 H3 he ⟨l, G, o4, o5, o10, rfl, rfl, rfl⟩
    obtain ⟨p, rfl, l', r, hl, hr⟩ := mem_pts he
    have hll : l.length ≤ 900 := by
      have a := congrArg List.length he
      simp at a
      omega
    dsimp only [pt, vYs_nil, vYs_cons, vY_ret, vY_ifs, vY_asg, vY_asgT, vY_asgS, vY_sto, vY_exp, vY_for1, vY_forT, vY_whl, vY_bad, vX_int, vX_str, vX_bool, vX_var, vX_bin, vX_neg, vX_cmp, vX_ife, vX_tup, vX_lst, vX_sub, vX_rev, vX_bi, vX_fn, vX_app, vX_ext, vX_pop, vX_comp, vXs_nil, vXs_cons, vXT_cmp, vXT_chain, vXT_not, vXT_or, vXT_and, vXT_fn, vXif_nil, vXif_cons1, vVar, tat, List.map, List.replicate, List.cons_append, List.nil_append, List.append, List.getElem?_cons_zero, List.getElem?_cons_succ, List.set_cons_zero, List.set_cons_succ, vBin, vCmp, vIdx, vBi, vLen, vRange, vAbs, vMax, vMin, vInt, vMk, datsOf, vNg, vRef, vBo, vDat, vTup, vTupL, vSet, setT, setR, bind1, bindN, Option.map_some, List.length_cons, List.length_nil]
    exact v_dis2 hll fun G' => ⟨l ++ [p], G', _, _, _, by rw [List.map_append]; rfl, rfl, rfl⟩
  · rintro τ1 H3 ⟨l, G, o4, o5, o10, hl, rfl, rfl⟩
    have e : Q8 = l := by
      have := hl
      exact (List.map_inj_right (fun x y hxy => pt_inj hxy)).mp this
    subst e
    rw [hQ]
    have : (dedL w st).length ≤ 1000 := by rw [← hQ]; have := ded_len Q8; omega
    exact v_dis6 _ _ _ _ G _ (List.Sublist.cons _ hT) this h

theorem pts_pt {L : List Pt} {e : Dat} (h : e ∈ L.map pt) : ∃ p, e = pt p := by
  obtain ⟨p, _, rfl⟩ := List.mem_map.mp h
  exact ⟨p, rfl⟩
theorem pts_rev {L : List Pt} : (L.map pt).reverse = L.reverse.map pt := by simp

theorem v_dis (hk : 1 < k) (x8 : Str) (h8 : Γ[8]? = some (x8, 1, S_eig)) (ps : List PV) (H : Sto) (R : Kont) (h : S_dis ps H R) : vYs g Γ k true Ldisc_about (ps.map some ++ List.replicate 8 none) H (fun _ _ => False) (Drop R) := by
  obtain ⟨cx, cy, w, st, rfl, ⟨⟨w0, w1⟩, s0, s1⟩, h⟩ := h
  unfold Ldisc_about
  dsimp only [vYs_nil, vYs_cons, vY_ret, vY_ifs, vY_asg, vY_asgT, vY_asgS, vY_sto, vY_exp, vY_for1, vY_forT, vY_whl, vY_bad, vX_int, vX_str, vX_bool, vX_var, vX_bin, vX_neg, vX_cmp, vX_ife, vX_tup, vX_lst, vX_sub, vX_rev, vX_bi, vX_fn, vX_app, vX_ext, vX_pop, vX_comp, vXs_nil, vXs_cons, vXT_cmp, vXT_chain, vXT_not, vXT_or, vXT_and, vXT_fn, vXif_nil, vXif_cons1, vVar, tat, List.map, List.replicate, List.cons_append, List.nil_append, List.append, List.getElem?_cons_zero, List.getElem?_cons_succ, List.set_cons_zero, List.set_cons_succ, vBin, vCmp, vIdx, vBi, vLen, vRange, vAbs, vMax, vMin, vInt, vMk, datsOf, vNg, vRef, vBo, vDat, vTup, vTupL, vSet, setT, setR, bind1, bindN, Option.map_some, List.length_cons, List.length_nil]
  repeat (first | simp only [vDef, h8, S_eig_eq] | dsimp only [vYs_nil, vYs_cons, vY_ret, vY_ifs, vY_asg, vY_asgT, vY_asgS, vY_sto, vY_exp, vY_for1, vY_forT, vY_whl, vY_bad, vX_int, vX_str, vX_bool, vX_var, vX_bin, vX_neg, vX_cmp, vX_ife, vX_tup, vX_lst, vX_sub, vX_rev, vX_bi, vX_fn, vX_app, vX_ext, vX_pop, vX_comp, vXs_nil, vXs_cons, vXT_cmp, vXT_chain, vXT_not, vXT_or, vXT_and, vXT_fn, vXif_nil, vXif_cons1, vVar, tat, List.map, List.replicate, List.cons_append, List.nil_append, List.append, List.getElem?_cons_zero, List.getElem?_cons_succ, List.set_cons_zero, List.set_cons_succ, vBin, vCmp, vIdx, vBi, vLen, vRange, vAbs, vMax, vMin, vInt, vMk, datsOf, vNg, vRef, vBo, vDat, vTup, vTupL, vSet, setT, setR, bind1, bindN, Option.map_some, List.length_cons, List.length_nil])
  refine ⟨⟨(by trivial), hk⟩, ⟨⟨w0, w1⟩, s0, s1⟩, fun a0 => ?_⟩
  have e8l := eig_len w st
  generalize hF : eighthL w st = F at *
  refine ⟨_, .head _, by rw [List.length_map]; omega, fun cr => ?_⟩
  refine ⟨(F.map pt).reverse, (a0, F.map pt) :: H, yes, onP swp, ⟨[], _, rfl, rfl, by simp; omega⟩, by simp; omega, ?_, ?_⟩
  · intro e he
    rw [pts_rev] at he
    obtain ⟨p, rfl⟩ := pts_pt he
    exact ⟨[.int p.1, .int p.2], rfl, fun H' => ⟨(by trivial), rfl⟩, fun _ H' => ⟨(by simp : _), (by trivial), rfl⟩⟩
  intro D
  rw [pts_rev, pick_pts]
  refine ⟨(by trivial), _, _, .tail _ (.head _), .head _, by simp; omega, fun q => ?_⟩
  rw [← List.map_append]
  have hq0 : F ++ F.reverse.map swp = ringQ F := rfl
  rw [hq0]
  refine ⟨by decide, fun a1 => ?_⟩
  have hql := ringQ_len F
  have hitl := itA_len (ringQ F)
  refine ⟨rngD 0 4, _, fun pre τ H3 => ∃ c o8, τ = [some (.dat (.tuple [.int cx, .int cy])), some (.dat (.int w)), some (.dat (.int st)), some (.ref a0), none, none, some (.ref c), some (.ref a1), o8, none, none] ∧
      (H3 = (a1, (itA (ringQ F) pre.length).1.map pt) :: (c, (itA (ringQ F) pre.length).2.map pt) :: (D, (F.reverse.map swp).map pt) :: (a0, F.map pt) :: H ∨
       H3 = (c, (itA (ringQ F) pre.length).2.map pt) :: (a1, (itA (ringQ F) pre.length).1.map pt) :: (D, (F.reverse.map swp).map pt) :: (a0, F.map pt) :: H),
    ⟨⟨by omega, by omega, by omega, by omega⟩, rfl, rfl⟩, ⟨q, none, rfl, .inl rfl⟩, ?_, ?_⟩
  · rintro pre e post τ1 H3 he ⟨c, o8, rfl, hH⟩
    obtain ⟨i, hi, rfl, hlt⟩ := rngD_at he
    unfold Ldisc_about_1
    dsimp only [vYs_nil, vYs_cons, vY_ret, vY_ifs, vY_asg, vY_asgT, vY_asgS, vY_sto, vY_exp, vY_for1, vY_forT, vY_whl, vY_bad, vX_int, vX_str, vX_bool, vX_var, vX_bin, vX_neg, vX_cmp, vX_ife, vX_tup, vX_lst, vX_sub, vX_rev, vX_bi, vX_fn, vX_app, vX_ext, vX_pop, vX_comp, vXs_nil, vXs_cons, vXT_cmp, vXT_chain, vXT_not, vXT_or, vXT_and, vXT_fn, vXif_nil, vXif_cons1, vVar, tat, List.map, List.replicate, List.cons_append, List.nil_append, List.append, List.getElem?_cons_zero, List.getElem?_cons_succ, List.set_cons_zero, List.set_cons_succ, vBin, vCmp, vIdx, vBi, vLen, vRange, vAbs, vMax, vMin, vInt, vMk, datsOf, vNg, vRef, vBo, vDat, vTup, vTupL, vSet, setT, setR, bind1, bindN, Option.map_some, List.length_cons, List.length_nil]
    have hp : pre.length < 4 := by omega
    have hit := hitl pre.length
    have hit1 : (itA (ringQ F) pre.length).1.length ≤ 40 := by
      rw [hit.1, hql]
      have := Nat.mul_le_mul (Nat.le_of_lt hp) (show 2 * F.length ≤ 10 by omega)
      omega
    have hit2 : (itA (ringQ F) pre.length).2.length ≤ 10 ∧ 1 ≤ (itA (ringQ F) pre.length).2.length := by omega
    have hnx : itA (ringQ F) (pre ++ [Dat.int (0 + (i : Int))]).length = ((itA (ringQ F) pre.length).1 ++ (itA (ringQ F) pre.length).2, (itA (ringQ F) pre.length).2.map rot1) := by
      rw [List.length_append]; rfl
    rw [hnx]
    generalize hA : (itA (ringQ F) pre.length).1 = A at *
    generalize hB : (itA (ringQ F) pre.length).2 = B at *
    have hBne : B.map pt ≠ [] := by
      intro e
      have := congrArg List.length e
      simp at this
      rw [this] at hit2
      simp at hit2
    have cmp : ∀ (X : Sto), (∃ pre post, X = pre ++ (c, B.map pt) :: post ∧ (∀ E, (E :: (pre ++ post)) = E :: (a1, (A ++ B).map pt) :: (D, (F.reverse.map swp).map pt) :: (a0, F.map pt) :: H)) → ∃ pre post, X = pre ++ (c, B.map pt) :: post ∧ pre ++ post = (a1, (A ++ B).map pt) :: (D, (F.reverse.map swp).map pt) :: (a0, F.map pt) :: H := by
      rintro X ⟨pre, post, h1, h2⟩
      exact ⟨pre, post, h1, (List.cons.inj (h2 (0, []))).2⟩
    rcases hH with rfl | rfl
    · refine ⟨⟨_, .head _⟩, [], A.map pt, _, B.map pt, rfl, .head _, by simp; omega, hBne, ?_⟩
      refine ⟨B.map pt, (a1, (A ++ B).map pt) :: (D, (F.reverse.map swp).map pt) :: (a0, F.map pt) :: H, yes, onP rot1, ⟨[(a1, (A ++ B).map pt)], (D, (F.reverse.map swp).map pt) :: (a0, F.map pt) :: H, by rw [List.map_append]; rfl, rfl, by simp; omega⟩, by simp; omega, ?_, ?_⟩
      · intro e he
        obtain ⟨p, rfl⟩ := pts_pt he
        exact ⟨[.int p.1, .int p.2], rfl, fun H' => ⟨(by trivial), rfl⟩, fun _ H' => ⟨(by simp : _), (by trivial), rfl⟩⟩
      · intro D'
        rw [pick_pts]
        exact ⟨D', _, rfl, .inr rfl⟩
    · refine ⟨⟨_, .tail _ (.head _)⟩, [(c, B.map pt)], A.map pt, _, B.map pt, rfl, .head _, by simp; omega, hBne, ?_⟩
      refine ⟨B.map pt, (a1, (A ++ B).map pt) :: (D, (F.reverse.map swp).map pt) :: (a0, F.map pt) :: H, yes, onP rot1, ⟨[], (a1, (A ++ B).map pt) :: (D, (F.reverse.map swp).map pt) :: (a0, F.map pt) :: H, by rw [List.map_append]; rfl, rfl, by simp; omega⟩, by simp; omega, ?_, ?_⟩
      · intro e he
        obtain ⟨p, rfl⟩ := pts_pt he
        exact ⟨[.int p.1, .int p.2], rfl, fun H' => ⟨(by trivial), rfl⟩, fun _ H' => ⟨(by simp : _), (by trivial), rfl⟩⟩
      · intro D'
        rw [pick_pts]
        exact ⟨D', _, rfl, .inr rfl⟩
  · rintro τ1 H3 ⟨c, o8, rfl, hH⟩
    have h4 : (rngD 0 4).length = 4 := by rw [rngD_length]; rfl
    rw [h4] at hH
    have l4 := hitl 4
    refine v_dis7 hH (List.Sublist.cons _ (List.Sublist.cons _ (List.Sublist.refl H))) (by unfold dedL; rw [hF]) (by rw [l4.1]; omega) h
end

end Mine
end

section
set_option maxRecDepth 20000
namespace Mine
noncomputable def boundsP (x0 y0 x1 y1 h : Int) : Prop := (-(2 ^ 9) ≤ x1 - x0 ∧ x1 - x0 ≤ 2 ^ 9) ∧ (-(2 ^ 9) ≤ y1 - y0 ∧ y1 - y0 ≤ 2 ^ 9) ∧ (-(2 ^ 9) ≤ h ∧ h ≤ 2 ^ 9) ∧ 0 < (x1 - x0) * (x1 - x0) + (y1 - y0) * (y1 - y0)
noncomputable def capD (x1 y1 u v : Int) : List Dat := [.tuple [.int (x1 + u), .int (y1 + v)], .tuple [.int (x1 + u + -v), .int (y1 + v + u)], .tuple [.int (x1 + -u + -v), .int (y1 + -v + u)], .tuple [.int (x1 + -u), .int (y1 + -v)]]
noncomputable def S_cap : Spec := fun ps H R => ∃ k x0 y0 x1 y1 h st, ps = [.dat (.str k), .dat (.tuple [.int x0, .int y0]), .dat (.tuple [.int x1, .int y1]), .dat (.int h), .dat (.int st)] ∧ 
    (k = ("round" : Str) → ((1 ≤ h ∧ h ≤ 9) ∧ (1 ≤ st ∧ st ≤ 4)) ∧ R (.dat (.tuple (discD x1 y1 h st))) H) ∧
    (k ≠ ("round" : Str) → k = ("square" : Str) → boundsP x0 y0 x1 y1 h ∧ ∀ u v, NR ((y1 - y0) * h) ((x1 - x0) * (x1 - x0) + (y1 - y0) * (y1 - y0)) u → NR (-(x1 - x0) * h) ((x1 - x0) * (x1 - x0) + (y1 - y0) * (y1 - y0)) v → R (.dat (.tuple (capD x1 y1 u v))) H) ∧
    (k ≠ ("round" : Str) → k ≠ ("square" : Str) → R (.dat (.tuple [])) H)
theorem S_cap_eq {H : Sto} {R : Kont} {k x0 y0 x1 y1 h st} : S_cap [.dat (.str k), .dat (.tuple [.int x0, .int y0]), .dat (.tuple [.int x1, .int y1]), .dat (.int h), .dat (.int st)] H R = ((k = ("round" : Str) → ((1 ≤ h ∧ h ≤ 9) ∧ (1 ≤ st ∧ st ≤ 4)) ∧ R (.dat (.tuple (discD x1 y1 h st))) H) ∧
    (k ≠ ("round" : Str) → k = ("square" : Str) → boundsP x0 y0 x1 y1 h ∧ ∀ u v, NR ((y1 - y0) * h) ((x1 - x0) * (x1 - x0) + (y1 - y0) * (y1 - y0)) u → NR (-(x1 - x0) * h) ((x1 - x0) * (x1 - x0) + (y1 - y0) * (y1 - y0)) v → R (.dat (.tuple (capD x1 y1 u v))) H) ∧
    (k ≠ ("round" : Str) → k ≠ ("square" : Str) → R (.dat (.tuple [])) H)) := propext ⟨fun q => by
  obtain ⟨_, _, _, _, _, _, _, e, h⟩ := q
  cases e
  exact h, fun h => ⟨_, _, _, _, _, _, _, rfl, h⟩⟩

section
variable {g : Gl} {Γ : Gam} {k : Nat}

theorem v_cap (hk : 2 < k) (x4 x5 x6 x7 x9 : Str) (h4 : Γ[4]? = some (x4, 0, S_mov)) (h5 : Γ[5]? = some (x5, 0, S_tur)) (h6 : Γ[6]? = some (x6, 2, S_nor)) (h7 : Γ[7]? = some (x7, 0, S_alo)) (h9 : Γ[9]? = some (x9, 2, S_dis)) (ps : List PV) (H : Sto) (R : Kont) (h : S_cap ps H R) :
    vYs g Γ k true Lcap_spots (ps.map some ++ List.replicate 5 none) H (fun _ _ => False) (Drop R) := by
  obtain ⟨kd, x0, y0, x1, y1, w, st, rfl, c1, c2, c3⟩ := h
  unfold Lcap_spots
  dsimp only [vYs_nil, vYs_cons, vY_ret, vY_ifs, vY_asg, vY_asgT, vY_asgS, vY_sto, vY_exp, vY_for1, vY_forT, vY_whl, vY_bad, vX_int, vX_str, vX_bool, vX_var, vX_bin, vX_neg, vX_cmp, vX_ife, vX_tup, vX_lst, vX_sub, vX_rev, vX_bi, vX_fn, vX_app, vX_ext, vX_pop, vX_comp, vXs_nil, vXs_cons, vXT_cmp, vXT_chain, vXT_not, vXT_or, vXT_and, vXT_fn, vXif_nil, vXif_cons1, vVar, tat, List.map, List.replicate, List.cons_append, List.nil_append, List.append, List.getElem?_cons_zero, List.getElem?_cons_succ, List.set_cons_zero, List.set_cons_succ, vBin, vCmp, vIdx, vBi, vLen, vRange, vAbs, vMax, vMin, vInt, vMk, datsOf, vNg, vRef, vBo, vDat, vTup, vTupL, vSet, setT, setR, bind1, bindN, Option.map_some, List.length_cons, List.length_nil]
  by_cases hr : kd = ("round" : Str)
  · obtain ⟨b, r⟩ := c1 hr
    rw [if_pos (by rw [hr]; exact BEq.rfl)]
    repeat (first | simp only [vDef, h9, S_dis_eq] | dsimp only [vYs_nil, vYs_cons, vY_ret, vY_ifs, vY_asg, vY_asgT, vY_asgS, vY_sto, vY_exp, vY_for1, vY_forT, vY_whl, vY_bad, vX_int, vX_str, vX_bool, vX_var, vX_bin, vX_neg, vX_cmp, vX_ife, vX_tup, vX_lst, vX_sub, vX_rev, vX_bi, vX_fn, vX_app, vX_ext, vX_pop, vX_comp, vXs_nil, vXs_cons, vXT_cmp, vXT_chain, vXT_not, vXT_or, vXT_and, vXT_fn, vXif_nil, vXif_cons1, vVar, tat, List.map, List.replicate, List.cons_append, List.nil_append, List.append, List.getElem?_cons_zero, List.getElem?_cons_succ, List.set_cons_zero, List.set_cons_succ, vBin, vCmp, vIdx, vBi, vLen, vRange, vAbs, vMax, vMin, vInt, vMk, datsOf, vNg, vRef, vBo, vDat, vTup, vTupL, vSet, setT, setR, bind1, bindN, Option.map_some, List.length_cons, List.length_nil])
    exact ⟨⟨(by trivial), by omega⟩, b, drop_same r⟩
  rw [if_neg (by rw [beq_iff_eq]; exact hr)]
  unfold Lcap_spots_2
  dsimp only [vYs_nil, vYs_cons, vY_ret, vY_ifs, vY_asg, vY_asgT, vY_asgS, vY_sto, vY_exp, vY_for1, vY_forT, vY_whl, vY_bad, vX_int, vX_str, vX_bool, vX_var, vX_bin, vX_neg, vX_cmp, vX_ife, vX_tup, vX_lst, vX_sub, vX_rev, vX_bi, vX_fn, vX_app, vX_ext, vX_pop, vX_comp, vXs_nil, vXs_cons, vXT_cmp, vXT_chain, vXT_not, vXT_or, vXT_and, vXT_fn, vXif_nil, vXif_cons1, vVar, tat, List.map, List.replicate, List.cons_append, List.nil_append, List.append, List.getElem?_cons_zero, List.getElem?_cons_succ, List.set_cons_zero, List.set_cons_succ, vBin, vCmp, vIdx, vBi, vLen, vRange, vAbs, vMax, vMin, vInt, vMk, datsOf, vNg, vRef, vBo, vDat, vTup, vTupL, vSet, setT, setR, bind1, bindN, Option.map_some, List.length_cons, List.length_nil]
  by_cases hs : kd = ("square" : Str)
  · obtain ⟨b, r⟩ := c2 hr hs
    rw [if_neg (by rw [hs]; simp)]
    unfold Lcap_spots_1
    dsimp only [vYs_nil, vYs_cons, vY_ret, vY_ifs, vY_asg, vY_asgT, vY_asgS, vY_sto, vY_exp, vY_for1, vY_forT, vY_whl, vY_bad, vX_int, vX_str, vX_bool, vX_var, vX_bin, vX_neg, vX_cmp, vX_ife, vX_tup, vX_lst, vX_sub, vX_rev, vX_bi, vX_fn, vX_app, vX_ext, vX_pop, vX_comp, vXs_nil, vXs_cons, vXT_cmp, vXT_chain, vXT_not, vXT_or, vXT_and, vXT_fn, vXif_nil, vXif_cons1, vVar, tat, List.map, List.replicate, List.cons_append, List.nil_append, List.append, List.getElem?_cons_zero, List.getElem?_cons_succ, List.set_cons_zero, List.set_cons_succ, vBin, vCmp, vIdx, vBi, vLen, vRange, vAbs, vMax, vMin, vInt, vMk, datsOf, vNg, vRef, vBo, vDat, vTup, vTupL, vSet, setT, setR, bind1, bindN, Option.map_some, List.length_cons, List.length_nil]
    repeat (first | simp only [vDef, h4, h5, h6, h7, S_nor_eq, S_tur_eq, S_alo_eq, S_mov_eq] | dsimp only [vYs_nil, vYs_cons, vY_ret, vY_ifs, vY_asg, vY_asgT, vY_asgS, vY_sto, vY_exp, vY_for1, vY_forT, vY_whl, vY_bad, vX_int, vX_str, vX_bool, vX_var, vX_bin, vX_neg, vX_cmp, vX_ife, vX_tup, vX_lst, vX_sub, vX_rev, vX_bi, vX_fn, vX_app, vX_ext, vX_pop, vX_comp, vXs_nil, vXs_cons, vXT_cmp, vXT_chain, vXT_not, vXT_or, vXT_and, vXT_fn, vXif_nil, vXif_cons1, vVar, tat, List.map, List.replicate, List.cons_append, List.nil_append, List.append, List.getElem?_cons_zero, List.getElem?_cons_succ, List.set_cons_zero, List.set_cons_succ, vBin, vCmp, vIdx, vBi, vLen, vRange, vAbs, vMax, vMin, vInt, vMk, datsOf, vNg, vRef, vBo, vDat, vTup, vTupL, vSet, setT, setR, bind1, bindN, Option.map_some, List.length_cons, List.length_nil])
    refine ⟨⟨(by trivial), hk⟩, b, fun u v hu hv => ⟨⟨(by trivial), by omega⟩, ⟨(by trivial), by omega⟩, ⟨(by trivial), by omega⟩, ⟨(by trivial), by omega⟩, by simp, (by trivial), ⟨(by trivial), by omega⟩, ⟨(by trivial), by omega⟩, by simp, ?_⟩⟩
    exact drop_same (r u v hu hv)
  · rw [if_pos (by rw [bne_iff_ne]; exact hs)]
    exact ⟨by decide, drop_same (c3 hr hs)⟩

noncomputable def S_dot : Spec := fun ps H R => ∃ k x y h st, ps = [.dat (.str k), .dat (.tuple [.int x, .int y]), .dat (.int h), .dat (.int st)] ∧ 
    (k = ("round" : Str) → ((1 ≤ h ∧ h ≤ 9) ∧ (1 ≤ st ∧ st ≤ 4)) ∧ R (.dat (.tuple (discD x y h st))) H) ∧
    (k ≠ ("round" : Str) → k = ("square" : Str) → R (.dat (.tuple [.tuple [.int (x - h), .int (y - h)], .tuple [.int (x + h), .int (y - h)], .tuple [.int (x + h), .int (y + h)], .tuple [.int (x - h), .int (y + h)]])) H) ∧
    (k ≠ ("round" : Str) → k ≠ ("square" : Str) → R (.dat (.tuple [])) H)
theorem S_dot_eq {H : Sto} {R : Kont} {k x y h st} : S_dot [.dat (.str k), .dat (.tuple [.int x, .int y]), .dat (.int h), .dat (.int st)] H R = ((k = ("round" : Str) → ((1 ≤ h ∧ h ≤ 9) ∧ (1 ≤ st ∧ st ≤ 4)) ∧ R (.dat (.tuple (discD x y h st))) H) ∧
    (k ≠ ("round" : Str) → k = ("square" : Str) → R (.dat (.tuple [.tuple [.int (x - h), .int (y - h)], .tuple [.int (x + h), .int (y - h)], .tuple [.int (x + h), .int (y + h)], .tuple [.int (x - h), .int (y + h)]])) H) ∧
    (k ≠ ("round" : Str) → k ≠ ("square" : Str) → R (.dat (.tuple [])) H)) := propext ⟨fun q => by
  obtain ⟨_, _, _, _, _, e, h⟩ := q
  cases e
  exact h, fun h => ⟨_, _, _, _, _, rfl, h⟩⟩
theorem v_dot (hk : 2 < k) (x9 x10 : Str) (h9 : Γ[9]? = some (x9, 2, S_dis)) (h10 : Γ[10]? = some (x10, 0, S_sqa)) (ps : List PV) (H : Sto) (R : Kont) (h : S_dot ps H R) :
    vYs g Γ k true Ldot_spots (ps.map some ++ List.replicate 0 none) H (fun _ _ => False) (Drop R) := by
  obtain ⟨kd, x, y, w, st, rfl, c1, c2, c3⟩ := h
  unfold Ldot_spots
  dsimp only [vYs_nil, vYs_cons, vY_ret, vY_ifs, vY_asg, vY_asgT, vY_asgS, vY_sto, vY_exp, vY_for1, vY_forT, vY_whl, vY_bad, vX_int, vX_str, vX_bool, vX_var, vX_bin, vX_neg, vX_cmp, vX_ife, vX_tup, vX_lst, vX_sub, vX_rev, vX_bi, vX_fn, vX_app, vX_ext, vX_pop, vX_comp, vXs_nil, vXs_cons, vXT_cmp, vXT_chain, vXT_not, vXT_or, vXT_and, vXT_fn, vXif_nil, vXif_cons1, vVar, tat, List.map, List.replicate, List.cons_append, List.nil_append, List.append, List.getElem?_cons_zero, List.getElem?_cons_succ, List.set_cons_zero, List.set_cons_succ, vBin, vCmp, vIdx, vBi, vLen, vRange, vAbs, vMax, vMin, vInt, vMk, datsOf, vNg, vRef, vBo, vDat, vTup, vTupL, vSet, setT, setR, bind1, bindN, Option.map_some, List.length_cons, List.length_nil]
  by_cases hr : kd = ("round" : Str)
  · obtain ⟨b, r⟩ := c1 hr
    rw [if_pos (by rw [hr]; exact BEq.rfl)]
    repeat (first | simp only [vDef, h9, S_dis_eq] | dsimp only [vYs_nil, vYs_cons, vY_ret, vY_ifs, vY_asg, vY_asgT, vY_asgS, vY_sto, vY_exp, vY_for1, vY_forT, vY_whl, vY_bad, vX_int, vX_str, vX_bool, vX_var, vX_bin, vX_neg, vX_cmp, vX_ife, vX_tup, vX_lst, vX_sub, vX_rev, vX_bi, vX_fn, vX_app, vX_ext, vX_pop, vX_comp, vXs_nil, vXs_cons, vXT_cmp, vXT_chain, vXT_not, vXT_or, vXT_and, vXT_fn, vXif_nil, vXif_cons1, vVar, tat, List.map, List.replicate, List.cons_append, List.nil_append, List.append, List.getElem?_cons_zero, List.getElem?_cons_succ, List.set_cons_zero, List.set_cons_succ, vBin, vCmp, vIdx, vBi, vLen, vRange, vAbs, vMax, vMin, vInt, vMk, datsOf, vNg, vRef, vBo, vDat, vTup, vTupL, vSet, setT, setR, bind1, bindN, Option.map_some, List.length_cons, List.length_nil])
    exact ⟨⟨(by trivial), by omega⟩, b, drop_same r⟩
  rw [if_neg (by rw [beq_iff_eq]; exact hr)]
  unfold Ldot_spots_1
  dsimp only [vYs_nil, vYs_cons, vY_ret, vY_ifs, vY_asg, vY_asgT, vY_asgS, vY_sto, vY_exp, vY_for1, vY_forT, vY_whl, vY_bad, vX_int, vX_str, vX_bool, vX_var, vX_bin, vX_neg, vX_cmp, vX_ife, vX_tup, vX_lst, vX_sub, vX_rev, vX_bi, vX_fn, vX_app, vX_ext, vX_pop, vX_comp, vXs_nil, vXs_cons, vXT_cmp, vXT_chain, vXT_not, vXT_or, vXT_and, vXT_fn, vXif_nil, vXif_cons1, vVar, tat, List.map, List.replicate, List.cons_append, List.nil_append, List.append, List.getElem?_cons_zero, List.getElem?_cons_succ, List.set_cons_zero, List.set_cons_succ, vBin, vCmp, vIdx, vBi, vLen, vRange, vAbs, vMax, vMin, vInt, vMk, datsOf, vNg, vRef, vBo, vDat, vTup, vTupL, vSet, setT, setR, bind1, bindN, Option.map_some, List.length_cons, List.length_nil]
  by_cases hs : kd = ("square" : Str)
  · rw [if_pos (by rw [hs]; exact BEq.rfl)]
    repeat (first | simp only [vDef, h10, S_sqa_eq] | dsimp only [vYs_nil, vYs_cons, vY_ret, vY_ifs, vY_asg, vY_asgT, vY_asgS, vY_sto, vY_exp, vY_for1, vY_forT, vY_whl, vY_bad, vX_int, vX_str, vX_bool, vX_var, vX_bin, vX_neg, vX_cmp, vX_ife, vX_tup, vX_lst, vX_sub, vX_rev, vX_bi, vX_fn, vX_app, vX_ext, vX_pop, vX_comp, vXs_nil, vXs_cons, vXT_cmp, vXT_chain, vXT_not, vXT_or, vXT_and, vXT_fn, vXif_nil, vXif_cons1, vVar, tat, List.map, List.replicate, List.cons_append, List.nil_append, List.append, List.getElem?_cons_zero, List.getElem?_cons_succ, List.set_cons_zero, List.set_cons_succ, vBin, vCmp, vIdx, vBi, vLen, vRange, vAbs, vMax, vMin, vInt, vMk, datsOf, vNg, vRef, vBo, vDat, vTup, vTupL, vSet, setT, setR, bind1, bindN, Option.map_some, List.length_cons, List.length_nil])
    exact ⟨⟨(by trivial), by omega⟩, drop_same (c2 hr hs)⟩
  · rw [if_neg (by rw [beq_iff_eq]; exact hs)]
    exact ⟨by decide, drop_same (c3 hr hs)⟩

noncomputable def S_pool : Spec := fun ps H R => ∃ k, ps = [.scr, .dat (.int k)] ∧ (0 ≤ k ∧ k ≤ 1) ∧ ∀ a A B, 0 ≤ A → 0 ≤ B → B < 2147483647 → R (.ref a) ((a, [.int A, .int B]) :: H)
theorem S_pool_eq {H : Sto} {R : Kont} {k} : S_pool [.scr, .dat (.int k)] H R = ((0 ≤ k ∧ k ≤ 1) ∧ ∀ a A B, 0 ≤ A → 0 ≤ B → B < 2147483647 → R (.ref a) ((a, [.int A, .int B]) :: H)) := propext ⟨fun q => by
  obtain ⟨_, e, h⟩ := q
  cases e
  exact h, fun h => ⟨_, rfl, h⟩⟩
theorem v_pool (ps : List PV) (H : Sto) (R : Kont) (h : S_pool ps H R) :
    vYs g Γ k true Lw_pool (ps.map some ++ List.replicate 3 none) H (fun _ _ => False) (Drop R) := by
  obtain ⟨j, rfl, ⟨j0, j1⟩, h⟩ := h
  have key : ∀ cell : Int, vYs g Γ k true (.cons (.asg 3 (.bi .max (.cons (.bi .int (.cons (.var 2) .nil)) (.cons (.bi .int (.cons (.bin .Sub (.neg (.int 1)) (.var 2)) .nil)) .nil)))) (.cons (.asg 4 (.bin .Mod (.bi .int (.cons (.bin .Mult (.bin .Add (.bin .Add (.bin .Add (.bin .Mod (.bi .int (.cons (.var 3) .nil)) (.int 2147483629)) (.bin .Mult (.bin .Mult (.int 7919) (.var 1)) (.var 1))) (.bin .Mult (.int 31) (.var 1))) (.int 17)) (.int 48271)) .nil)) (.int 2147483647))) (.cons (.ret (.lst (.cons (.bin .Mult (.var 3) (.bi .int (.cons (.cmp .GtE (.var 3) (.bin .Pow (.int 10) (.int 18))) .nil))) (.cons (.var 4) .nil)))) .nil)))
      [some .scr, some (.dat (.int j)), some (.dat (.int cell)), none, none] H (fun _ _ => False) (Drop R) := by
    intro cell
    dsimp only [vYs_nil, vYs_cons, vY_ret, vY_ifs, vY_asg, vY_asgT, vY_asgS, vY_sto, vY_exp, vY_for1, vY_forT, vY_whl, vY_bad, vX_int, vX_str, vX_bool, vX_var, vX_bin, vX_neg, vX_cmp, vX_ife, vX_tup, vX_lst, vX_sub, vX_rev, vX_bi, vX_fn, vX_app, vX_ext, vX_pop, vX_comp, vXs_nil, vXs_cons, vXT_cmp, vXT_chain, vXT_not, vXT_or, vXT_and, vXT_fn, vXif_nil, vXif_cons1, vVar, tat, List.map, List.replicate, List.cons_append, List.nil_append, List.append, List.getElem?_cons_zero, List.getElem?_cons_succ, List.set_cons_zero, List.set_cons_succ, vBin, vCmp, vIdx, vBi, vLen, vRange, vAbs, vMax, vMin, vInt, vMk, datsOf, vNg, vRef, vBo, vDat, vTup, vTupL, vSet, setT, setR, bind1, bindN, Option.map_some, List.length_cons, List.length_nil]
    generalize hb : (if -1 - cell > cell then -1 - cell else cell) = big
    have hb0 : 0 ≤ big := by split at hb <;> omega
    have hj : j = 0 ∨ j = 1 := by omega
    refine ⟨by omega, .inl (by decide), .inr (by omega), .inl (by decide), .inr (by decide), by omega, by decide, ?_, by simp, fun a => ?_⟩
    · right
      split <;> decide
    · refine drop_same (h a _ _ ?_ ?_ ?_)
      · split
        · omega
        · omega
      · exact Int.emod_nonneg _ (by omega)
      · exact Int.emod_lt_of_pos _ (by omega)
  unfold Lw_pool
  dsimp only [vYs_nil, vYs_cons, vY_ret, vY_ifs, vY_asg, vY_asgT, vY_asgS, vY_sto, vY_exp, vY_for1, vY_forT, vY_whl, vY_bad, vX_int, vX_str, vX_bool, vX_var, vX_bin, vX_neg, vX_cmp, vX_ife, vX_tup, vX_lst, vX_sub, vX_rev, vX_bi, vX_fn, vX_app, vX_ext, vX_pop, vX_comp, vXs_nil, vXs_cons, vXT_cmp, vXT_chain, vXT_not, vXT_or, vXT_and, vXT_fn, vXif_nil, vXif_cons1, vVar, tat, List.map, List.replicate, List.cons_append, List.nil_append, List.append, List.getElem?_cons_zero, List.getElem?_cons_succ, List.set_cons_zero, List.set_cons_succ, vBin, vCmp, vIdx, vBi, vLen, vRange, vAbs, vMax, vMin, vInt, vMk, datsOf, vNg, vRef, vBo, vDat, vTup, vTupL, vSet, setT, setR, bind1, bindN, Option.map_some, List.length_cons, List.length_nil] at key ⊢
  by_cases hl : j < (g.scrN.length : Int)
  · rw [if_pos (by simpa using hl)]
    have hlt : j.toNat < g.scrN.length := by omega
    exact ⟨⟨j0, by omega⟩, g.scrN[j.toNat], List.getElem?_eq_getElem hlt, key _⟩
  · rw [if_neg (by simpa using hl)]
    exact key 0
end

end Mine
end

section
set_option maxRecDepth 20000
namespace Mine
section
variable {g : Gl} {Γ : Gam} {k : Nat}

noncomputable def S_take : Spec := fun ps H R => ∃ a top, ps = [.ref a, .dat (.int top)] ∧ ∃ pre A B post, H = pre ++ (a, [.int A, .int B]) :: post ∧ (0 ≤ A ∧ 0 ≤ B ∧ B < 2147483647) ∧ (0 < top ∧ top ≤ 64) ∧
      ∀ r A' B', 0 ≤ r → r < top → 0 ≤ A' → 0 ≤ B' → B' < 2147483647 → R (.dat (.int r)) (pre ++ (a, [.int A', .int B']) :: post)
theorem S_take_eq {H : Sto} {R : Kont} {a top} : S_take [.ref a, .dat (.int top)] H R = (∃ pre A B post, H = pre ++ (a, [.int A, .int B]) :: post ∧ (0 ≤ A ∧ 0 ≤ B ∧ B < 2147483647) ∧ (0 < top ∧ top ≤ 64) ∧
      ∀ r A' B', 0 ≤ r → r < top → 0 ≤ A' → 0 ≤ B' → B' < 2147483647 → R (.dat (.int r)) (pre ++ (a, [.int A', .int B']) :: post)) := propext ⟨fun q => by
  obtain ⟨_, _, e, h⟩ := q
  cases e
  exact h, fun h => ⟨_, _, rfl, h⟩⟩
theorem v_take (ps : List PV) (H : Sto) (R : Kont) (h : S_take ps H R) : vYs g Γ k true Lw_take (ps.map some ++ List.replicate 1 none) H (fun _ _ => False) (Drop R) := by
  obtain ⟨a, top, rfl, pre, A, B, post, rfl, ⟨hA, hB0, hB1⟩, ⟨t0, t1⟩, h⟩ := h
  have hm : ∀ {ds : List Dat}, (a, ds) ∈ pre ++ (a, ds) :: post := fun {ds} => List.mem_append_right _ (.head _)
  unfold Lw_take
  dsimp only [vYs_nil, vYs_cons, vY_ret, vY_ifs, vY_asg, vY_asgT, vY_asgS, vY_sto, vY_exp, vY_for1, vY_forT, vY_whl, vY_bad, vX_int, vX_str, vX_bool, vX_var, vX_bin, vX_neg, vX_cmp, vX_ife, vX_tup, vX_lst, vX_sub, vX_rev, vX_bi, vX_fn, vX_app, vX_ext, vX_pop, vX_comp, vXs_nil, vXs_cons, vXT_cmp, vXT_chain, vXT_not, vXT_or, vXT_and, vXT_fn, vXif_nil, vXif_cons1, vVar, tat, List.map, List.replicate, List.cons_append, List.nil_append, List.append, List.getElem?_cons_zero, List.getElem?_cons_succ, List.set_cons_zero, List.set_cons_succ, vBin, vCmp, vIdx, vBi, vLen, vRange, vAbs, vMax, vMin, vInt, vMk, datsOf, vNg, vRef, vBo, vDat, vTup, vTupL, vSet, setT, setR, bind1, bindN, Option.map_some, List.length_cons, List.length_nil]
  refine ⟨by decide, _, _, hm, idx0, ?_⟩
  simp only
  by_cases hp : 0 < A
  · rw [if_pos (by simpa using hp)]
    refine ⟨by decide, _, _, hm, idx0, t0, by decide, _, _, hm, idx0, t0, pre, _, post, rfl, by decide, by simp, by simp, ?_⟩
    exact drop_same (h (A % top) (A / top) B (Int.emod_nonneg _ (by omega)) (Int.emod_lt_of_pos _ t0) (Int.ediv_nonneg hA (by omega)) hB0 hB1)
  · rw [if_neg (by simpa using hp)]
    unfold Lw_take_1
    dsimp only [vYs_nil, vYs_cons, vY_ret, vY_ifs, vY_asg, vY_asgT, vY_asgS, vY_sto, vY_exp, vY_for1, vY_forT, vY_whl, vY_bad, vX_int, vX_str, vX_bool, vX_var, vX_bin, vX_neg, vX_cmp, vX_ife, vX_tup, vX_lst, vX_sub, vX_rev, vX_bi, vX_fn, vX_app, vX_ext, vX_pop, vX_comp, vXs_nil, vXs_cons, vXT_cmp, vXT_chain, vXT_not, vXT_or, vXT_and, vXT_fn, vXif_nil, vXif_cons1, vVar, tat, List.map, List.replicate, List.cons_append, List.nil_append, List.append, List.getElem?_cons_zero, List.getElem?_cons_succ, List.set_cons_zero, List.set_cons_succ, vBin, vCmp, vIdx, vBi, vLen, vRange, vAbs, vMax, vMin, vInt, vMk, datsOf, vNg, vRef, vBo, vDat, vTup, vTupL, vSet, setT, setR, bind1, bindN, Option.map_some, List.length_cons, List.length_nil]
    refine ⟨by decide, _, _, hm, idx1, .inl (by omega), by decide, pre, _, post, rfl, by decide, by simp, by simp, ?_⟩
    have e1 : 0 ≤ (B * 39373 + 7) % 2147483647 := Int.emod_nonneg _ (by omega)
    have e2 : (B * 39373 + 7) % 2147483647 < 2147483647 := Int.emod_lt_of_pos _ (by omega)
    generalize (B * 39373 + 7) % 2147483647 = B' at *
    refine ⟨by decide, _, _, hm, idx1, by decide, _, _, hm, idx1, .inl (by omega), by decide, by decide, t0, ?_⟩
    exact drop_same (h _ A B' (Int.emod_nonneg _ (by omega)) (Int.emod_lt_of_pos _ t0) hA e1 e2)

noncomputable def S_one : Spec := fun ps H R => ∃ a th, ps = [.ref a, .ref th] ∧ ∃ pre A B post ds, H = pre ++ (a, [.int A, .int B]) :: post ∧ (th, ds) ∈ pre ++ post ∧ (0 ≤ A ∧ 0 ≤ B ∧ B < 2147483647) ∧ (0 < ds.length ∧ ds.length ≤ 64) ∧
      ∀ e A' B', e ∈ ds → 0 ≤ A' → 0 ≤ B' → B' < 2147483647 → R (.dat e) (pre ++ (a, [.int A', .int B']) :: post)
theorem S_one_eq {H : Sto} {R : Kont} {a th} : S_one [.ref a, .ref th] H R = (∃ pre A B post ds, H = pre ++ (a, [.int A, .int B]) :: post ∧ (th, ds) ∈ pre ++ post ∧ (0 ≤ A ∧ 0 ≤ B ∧ B < 2147483647) ∧ (0 < ds.length ∧ ds.length ≤ 64) ∧
      ∀ e A' B', e ∈ ds → 0 ≤ A' → 0 ≤ B' → B' < 2147483647 → R (.dat e) (pre ++ (a, [.int A', .int B']) :: post)) := propext ⟨fun q => by
  obtain ⟨_, _, e, h⟩ := q
  cases e
  exact h, fun h => ⟨_, _, rfl, h⟩⟩
theorem mem_mid {β : Type} {x y : β} {pre post : List β} (h : x ∈ pre ++ post) : x ∈ pre ++ y :: post := by
  rcases List.mem_append.mp h with h | h
  · exact List.mem_append_left _ h
  · exact List.mem_append_right _ (.tail _ h)
theorem v_one (hk : 0 < k) (x14 : Str) (h14 : Γ[14]? = some (x14, 0, S_take)) (ps : List PV) (H : Sto) (R : Kont) (h : S_one ps H R) : vYs g Γ k true Lw_one (ps.map some ++ List.replicate 0 none) H (fun _ _ => False) (Drop R) := by
  obtain ⟨a, th, rfl, pre, A, B, post, ds, rfl, hth, hAB, ⟨l0, l1⟩, h⟩ := h
  unfold Lw_one
  dsimp only [vYs_nil, vYs_cons, vY_ret, vY_ifs, vY_asg, vY_asgT, vY_asgS, vY_sto, vY_exp, vY_for1, vY_forT, vY_whl, vY_bad, vX_int, vX_str, vX_bool, vX_var, vX_bin, vX_neg, vX_cmp, vX_ife, vX_tup, vX_lst, vX_sub, vX_rev, vX_bi, vX_fn, vX_app, vX_ext, vX_pop, vX_comp, vXs_nil, vXs_cons, vXT_cmp, vXT_chain, vXT_not, vXT_or, vXT_and, vXT_fn, vXif_nil, vXif_cons1, vVar, tat, List.map, List.replicate, List.cons_append, List.nil_append, List.append, List.getElem?_cons_zero, List.getElem?_cons_succ, List.set_cons_zero, List.set_cons_succ, vBin, vCmp, vIdx, vBi, vLen, vRange, vAbs, vMax, vMin, vInt, vMk, datsOf, vNg, vRef, vBo, vDat, vTup, vTupL, vSet, setT, setR, bind1, bindN, Option.map_some, List.length_cons, List.length_nil]
  repeat (first | simp only [vDef, h14, S_take_eq] | dsimp only [vYs_nil, vYs_cons, vY_ret, vY_ifs, vY_asg, vY_asgT, vY_asgS, vY_sto, vY_exp, vY_for1, vY_forT, vY_whl, vY_bad, vX_int, vX_str, vX_bool, vX_var, vX_bin, vX_neg, vX_cmp, vX_ife, vX_tup, vX_lst, vX_sub, vX_rev, vX_bi, vX_fn, vX_app, vX_ext, vX_pop, vX_comp, vXs_nil, vXs_cons, vXT_cmp, vXT_chain, vXT_not, vXT_or, vXT_and, vXT_fn, vXif_nil, vXif_cons1, vVar, tat, List.map, List.replicate, List.cons_append, List.nil_append, List.append, List.getElem?_cons_zero, List.getElem?_cons_succ, List.set_cons_zero, List.set_cons_succ, vBin, vCmp, vIdx, vBi, vLen, vRange, vAbs, vMax, vMin, vInt, vMk, datsOf, vNg, vRef, vBo, vDat, vTup, vTupL, vSet, setT, setR, bind1, bindN, Option.map_some, List.length_cons, List.length_nil])
  refine ⟨_, mem_mid hth, by omega, ⟨(by trivial), hk⟩, pre, A, B, post, rfl, hAB, ⟨by omega, by omega⟩, fun r A' B' r0 r1 a0 b0 b1 => ?_⟩
  have hr : r.toNat < ds.length := by omega
  refine ⟨⟨by omega, by omega⟩, ds, ds[r.toNat], mem_mid hth, ?_, drop_same (h _ A' B' (List.getElem_mem hr) a0 b0 b1)⟩
  have := idx_nn (ds := ds) (i := r.toNat) (List.getElem?_eq_getElem hr)
  rw [Int.toNat_of_nonneg r0] at this
  exact this

/-! the law's own count -/
noncomputable def kp (q p j : Int) : Bool := decide ((2 * j - 1) * (2 * j - 1) * q ≤ 4 * p * p)
noncomputable def cntN (q p : Int) : Nat → Nat
  | 0 => 0
  | n + 1 => cntN q p n + (if kp q p (1 + (n : Int)) = true then 1 else 0)
theorem cnt_len (q p : Int) (val : Dat → Dat) (keep : Dat → Bool) (hk : ∀ j, keep (.int j) = kp q p j) : ∀ n : Nat, (((List.range n).map fun i : Nat => Dat.int (1 + (i : Int))).filterMap (pickD keep val)).length = cntN q p n
  | 0 => rfl
  | n + 1 => by
    rw [List.range_succ, List.map_append, List.filterMap_append, List.length_append, cnt_len q p val keep hk n]
    show _ = cntN q p n + _
    congr 1
    simp only [List.map_cons, List.map_nil, List.filterMap_cons, List.filterMap_nil, pickD, hk]
    cases kp q p (1 + (n : Int)) <;> rfl
theorem kp_anti {q p i j : Int} (q0 : 0 < q) (i1 : 1 ≤ i) (h : i ≤ j) (hj : kp q p j = true) : kp q p i = true := by
  unfold kp at *
  rw [decide_eq_true_iff] at *
  have a := Int.mul_le_mul_of_nonneg_right (sq_mono (a := 2 * i - 1) (b := 2 * j - 1) (by omega) (by omega)) (show 0 ≤ q by omega)
  omega
theorem cnt_spec {q p : Int} (q0 : 0 < q) : ∀ n : Nat, cntN q p n ≤ n ∧ (cntN q p n = 0 ∨ kp q p (cntN q p n) = true) ∧ (cntN q p n < n → kp q p (1 + (cntN q p n : Int)) = false)
  | 0 => ⟨Nat.le_refl _, .inl rfl, fun h => absurd h (Nat.lt_irrefl _)⟩
  | n + 1 => by
    obtain ⟨h1, h2, h3⟩ := cnt_spec (p := p) q0 n
    have e : cntN q p (n + 1) = cntN q p n + (if kp q p (1 + (n : Int)) = true then 1 else 0) := rfl
    by_cases hn : kp q p (1 + (n : Int)) = true
    · rw [if_pos hn] at e
      have hc : cntN q p n = n := by
        by_cases hl : cntN q p n < n
        · have a := h3 hl
          have b := kp_anti (i := 1 + (cntN q p n : Int)) q0 (by omega) (by omega) hn
          rw [a] at b; cases b
        · omega
      rw [e, hc]
      refine ⟨Nat.le_refl _, .inr ?_, fun h => absurd h (Nat.lt_irrefl _)⟩
      have : ((n + 1 : Nat) : Int) = 1 + (n : Int) := by omega
      rw [this]; exact hn
    · rw [if_neg hn] at e
      rw [e, Nat.add_zero]
      refine ⟨by omega, h2, fun hl => ?_⟩
      by_cases hl : cntN q p n < n
      · exact h3 hl
      · have : cntN q p n = n := by omega
        rw [this]
        simpa using hn

noncomputable def resP (q h p : Int) : Int := if 0 < p then (cntN q p (h + 2 - 1).toNat : Int) else -(cntN q p (h + 2 - 1).toNat : Int)
theorem NR_res {x y h q p z : Int} (hz : z = x ∨ z = y) (hq : q = x * x + y * y) (q0 : 0 < q) (h0 : 0 ≤ h) (hp : p = z * h) : NR p q (resP q h p) := by
  obtain ⟨c1, c2, c3⟩ := cnt_spec (p := p) q0 (h + 2 - 1).toNat
  have hzq : z * z ≤ q := by
    have nn : ∀ t : Int, 0 ≤ t * t := fun t => by
      rcases Int.le_total 0 t with h | h
      · exact Int.mul_nonneg h h
      · exact Int.mul_nonneg_of_nonpos_of_nonpos h h
    have := nn x
    have := nn y
    rcases hz with rfl | rfl <;> omega
  have hpp : p * p ≤ h * h * q := by
    have e : p * p = h * h * (z * z) := by rw [hp]; simp only [Int.mul_assoc, Int.mul_left_comm, Int.mul_comm]
    rw [e]
    exact Int.mul_le_mul_of_nonneg_left hzq (Int.mul_nonneg h0 h0)
  generalize hc : cntN q p (h + 2 - 1).toNat = c at *
  have e44 : 4 * p * p = 4 * (p * p) := Int.mul_assoc _ _ _
  have up : 4 * p * p < (2 * (c : Int) + 1) * (2 * (c : Int) + 1) * q := by
    by_cases hl : c < (h + 2 - 1).toNat
    · have a := c3 hl
      unfold kp at a
      rw [decide_eq_false_iff_not] at a
      have e : 2 * (1 + (c : Int)) - 1 = 2 * (c : Int) + 1 := by omega
      rw [e] at a
      omega
    · have hch : h + 1 ≤ (c : Int) := by omega
      have a := sq_mono (a := 2 * h + 1) (b := 2 * (c : Int) + 1) (by omega) (by omega)
      have b := Int.mul_le_mul_of_nonneg_right a (show 0 ≤ q by omega)
      have d : (2 * h + 1) * (2 * h + 1) * q = 4 * (h * h * q) + 4 * (h * q) + q := by
        simp only [Int.mul_add, Int.add_mul, Int.mul_one, Int.one_mul, Int.mul_assoc, Int.mul_left_comm h 2]
        omega
      have f : 0 ≤ h * q := Int.mul_nonneg h0 (by omega)
      omega
  refine ⟨(c : Int), by omega, ?_, up, ?_⟩
  · rcases c2 with h | h
    · exact .inl (by omega)
    · right
      unfold kp at h
      rw [decide_eq_true_iff] at h
      exact h
  · unfold resP
    rw [hc]
    by_cases hs : p < 0
    · rw [if_neg (by omega), if_pos hs]
    · rw [if_neg hs]
      by_cases hz : 0 < p
      · rw [if_pos hz]
      · have : p = 0 := by omega
        subst this
        rw [if_neg hz]
        rcases c2 with h | h
        · omega
        · unfold kp at h
          rw [decide_eq_true_iff] at h
          have h' : (2 * (c : Int) - 1) * (2 * (c : Int) - 1) * q ≤ 0 := by simpa using h
          by_cases hc1 : c = 0
          · omega
          · have a := sq_mono (a := 1) (b := 2 * (c : Int) - 1) (by omega) (by omega)
            have b := Int.mul_le_mul_of_nonneg_right a (show 0 ≤ q by omega)
            omega
theorem NR_uniq {s q f f' : Int} (q0 : 0 < q) (h : NR s q f) (h' : NR s q f') : f = f' := by
  obtain ⟨m, m0, m1, m2, rfl⟩ := h
  obtain ⟨n, n0, n1, n2, rfl⟩ := h'
  have key : ∀ a b : Int, 0 ≤ a → 0 ≤ b → (b = 0 ∨ (2 * b - 1) * (2 * b - 1) * q ≤ 4 * s * s) → 4 * s * s < (2 * a + 1) * (2 * a + 1) * q → b ≤ a := by
    intro a b a0 b0 hb ha
    refine Int.not_lt.mp fun hlt => ?_
    rcases hb with hb | hb
    · omega
    · have x := sq_mono (a := 2 * a + 1) (b := 2 * b - 1) (by omega) (by omega)
      have y := Int.mul_le_mul_of_nonneg_right x (show 0 ≤ q by omega)
      omega
  have : m = n := by
    have := key m n m0 n0 n1 m2
    have := key n m n0 m0 m1 n2
    omega
  rw [this]
end

end Mine
end

section
set_option maxRecDepth 20000
namespace Mine
section
variable {g : Gl} {Γ : Gam} {k : Nat}

noncomputable def S_lnor : Spec := fun ps H R => ∃ x0 y0 x1 y1 h, ps = [.dat (.tuple [.int x0, .int y0]), .dat (.tuple [.int x1, .int y1]), .dat (.int h)] ∧ (boundsP x0 y0 x1 y1 h ∧ 0 ≤ h) ∧
      ∀ a u v, NR ((y1 - y0) * h) ((x1 - x0) * (x1 - x0) + (y1 - y0) * (y1 - y0)) u → NR (-(x1 - x0) * h) ((x1 - x0) * (x1 - x0) + (y1 - y0) * (y1 - y0)) v → R (.ref a) ((a, [.int u, .int v]) :: H)
theorem S_lnor_eq {H : Sto} {R : Kont} {x0 y0 x1 y1 h} : S_lnor [.dat (.tuple [.int x0, .int y0]), .dat (.tuple [.int x1, .int y1]), .dat (.int h)] H R = ((boundsP x0 y0 x1 y1 h ∧ 0 ≤ h) ∧
      ∀ a u v, NR ((y1 - y0) * h) ((x1 - x0) * (x1 - x0) + (y1 - y0) * (y1 - y0)) u → NR (-(x1 - x0) * h) ((x1 - x0) * (x1 - x0) + (y1 - y0) * (y1 - y0)) v → R (.ref a) ((a, [.int u, .int v]) :: H)) := propext ⟨fun q => by
  obtain ⟨_, _, _, _, _, e, h⟩ := q
  cases e
  exact h, fun h => ⟨_, _, _, _, _, rfl, h⟩⟩

noncomputable def onB (fn : Int → Bool) : Dat → Bool
  | .int t => fn t
  | _ => false
theorem pow2 (z : Int) : z ^ (2 : Int).toNat = z * z := by
  show z ^ 2 = z * z
  rw [Int.pow_succ, Int.pow_succ, Int.pow_zero, Int.one_mul]

theorem v_lnor1 {x y h p : Int} {o1 o2 : PV} {f : Addr} {o7 : Option PV} {G H : Sto} {acc : List Dat} {Rn : KT} {Rr : Kont} (hx : -(2 ^ 9) ≤ x ∧ x ≤ 2 ^ 9) (hy : -(2 ^ 9) ≤ y ∧ y ≤ 2 ^ 9) (hh : 0 ≤ h ∧ h ≤ 2 ^ 9) (hp : -(2 ^ 18) ≤ p ∧ p ≤ 2 ^ 18) (hl : acc.length ≤ 10)
    (hn : ∀ G', Rn [some o1, some o2, some (.dat (.int h)), some (.dat (.int x)), some (.dat (.int y)), some (.ref f), some (.dat (.int p)), some (.dat (.int (cntN (x * x + y * y) p (h + 2 - 1).toNat : Int)))] (G' ++ (f, acc ++ [.int (resP (x * x + y * y) h p)]) :: H)) :
    vYs g Γ k true Lw_normal_1 [some o1, some o2, some (.dat (.int h)), some (.dat (.int x)), some (.dat (.int y)), some (.ref f), some (.dat (.int p)), o7] (G ++ (f, acc) :: H) Rn Rr := by
  unfold Lw_normal_1
  dsimp only [vYs_nil, vYs_cons, vY_ret, vY_ifs, vY_asg, vY_asgT, vY_asgS, vY_sto, vY_exp, vY_for1, vY_forT, vY_whl, vY_bad, vX_int, vX_str, vX_bool, vX_var, vX_bin, vX_neg, vX_cmp, vX_ife, vX_tup, vX_lst, vX_sub, vX_rev, vX_bi, vX_fn, vX_app, vX_ext, vX_pop, vX_comp, vXs_nil, vXs_cons, vXT_cmp, vXT_chain, vXT_not, vXT_or, vXT_and, vXT_fn, vXif_nil, vXif_cons1, vVar, tat, List.map, List.replicate, List.cons_append, List.nil_append, List.append, List.getElem?_cons_zero, List.getElem?_cons_succ, List.set_cons_zero, List.set_cons_succ, vBin, vCmp, vIdx, vBi, vLen, vRange, vAbs, vMax, vMin, vInt, vMk, datsOf, vNg, vRef, vBo, vDat, vTup, vTupL, vSet, setT, setR, bind1, bindN, Option.map_some, List.length_cons, List.length_nil]
  have bx := mulB hx.1 hx.2 hx.1 hx.2
  have by' := mulB hy.1 hy.2 hy.1 hy.2
  refine ⟨rngD 1 (h + 2), _, onB (kp (x * x + y * y) p), id, ⟨⟨by omega, by omega, by omega, by omega⟩, rfl, rfl⟩, by rw [rngD_length]; omega, ?_, ?_⟩
  · intro e he
    obtain ⟨i, hi, rfl⟩ := List.mem_map.mp he
    have hi' := List.mem_range.mp hi
    refine ⟨[.int (1 + (i : Int))], rfl, fun H' => ?_, fun _ H' => ⟨(by trivial), rfl⟩⟩
    dsimp only [tau2, vYs_nil, vYs_cons, vY_ret, vY_ifs, vY_asg, vY_asgT, vY_asgS, vY_sto, vY_exp, vY_for1, vY_forT, vY_whl, vY_bad, vX_int, vX_str, vX_bool, vX_var, vX_bin, vX_neg, vX_cmp, vX_ife, vX_tup, vX_lst, vX_sub, vX_rev, vX_bi, vX_fn, vX_app, vX_ext, vX_pop, vX_comp, vXs_nil, vXs_cons, vXT_cmp, vXT_chain, vXT_not, vXT_or, vXT_and, vXT_fn, vXif_nil, vXif_cons1, vVar, tat, List.map, List.replicate, List.cons_append, List.nil_append, List.append, List.getElem?_cons_zero, List.getElem?_cons_succ, List.set_cons_zero, List.set_cons_succ, vBin, vCmp, vIdx, vBi, vLen, vRange, vAbs, vMax, vMin, vInt, vMk, datsOf, vNg, vRef, vBo, vDat, vTup, vTupL, vSet, setT, setR, bind1, bindN, Option.map_some, List.length_cons, List.length_nil]
    generalize hj : 1 + (i : Int) = j at *
    have bj : 1 ≤ j ∧ j ≤ 2 ^ 10 := by omega
    have bsq := mulB (a := 2 * j - 1) (b := 2 * j - 1) (A := 2 ^ 12) (B := 2 ^ 12) (by omega) (by omega) (by omega) (by omega)
    refine ⟨.inl (by decide), ⟨by decide, by decide, by omega⟩, .inl (by omega), .inl (by omega), .inl ?_, .inl (by decide), .inr (by omega), (by trivial), ?_⟩
    · rw [pow2]; omega
    · rw [pow2]; rfl
  · intro D
    have hlen := cnt_len (x * x + y * y) p id (onB (kp (x * x + y * y) p)) (fun _ => rfl) (h + 2 - 1).toNat
    have hlen' : ((rngD 1 (h + 2)).filterMap (pickD (onB (kp (x * x + y * y) p)) id)).length = cntN (x * x + y * y) p (h + 2 - 1).toNat := hlen
    have hsm : cntN (x * x + y * y) p (h + 2 - 1).toNat ≤ 1000 := by
      rw [← hlen']
      refine Nat.le_trans (List.length_filterMap_le _ _) ?_
      rw [rngD_length]; omega
    refine ⟨_, .head _, by rw [hlen']; omega, ?_⟩
    rw [hlen']
    refine ⟨⟨acc, .tail _ (List.mem_append_right _ (.head _))⟩, ?_⟩
    have hn' := hn ((D, (rngD 1 (h + 2)).filterMap (pickD (onB (kp (x * x + y * y) p)) id)) :: G)
    unfold resP at hn'
    by_cases h0 : 0 < p
    · rw [if_pos (by simpa using h0)]
      rw [if_pos h0] at hn'
      exact ⟨(D, _) :: G, acc, H, rfl, by omega, hn'⟩
    · rw [if_neg (by simpa using h0)]
      rw [if_neg h0] at hn'
      exact ⟨(D, _) :: G, acc, H, rfl, by omega, hn'⟩

theorem v_lnor (ps : List PV) (H : Sto) (R : Kont) (h : S_lnor ps H R) : vYs g Γ k true Lw_normal (ps.map some ++ List.replicate 5 none) H (fun _ _ => False) (Drop R) := by
  obtain ⟨x0, y0, x1, y1, w, rfl, ⟨⟨⟨bx0, bx1⟩, ⟨by0, by1⟩, ⟨bh0, bh1⟩, hq⟩, w0⟩, h⟩ := h
  unfold Lw_normal
  dsimp only [vYs_nil, vYs_cons, vY_ret, vY_ifs, vY_asg, vY_asgT, vY_asgS, vY_sto, vY_exp, vY_for1, vY_forT, vY_whl, vY_bad, vX_int, vX_str, vX_bool, vX_var, vX_bin, vX_neg, vX_cmp, vX_ife, vX_tup, vX_lst, vX_sub, vX_rev, vX_bi, vX_fn, vX_app, vX_ext, vX_pop, vX_comp, vXs_nil, vXs_cons, vXT_cmp, vXT_chain, vXT_not, vXT_or, vXT_and, vXT_fn, vXif_nil, vXif_cons1, vVar, tat, List.map, List.replicate, List.cons_append, List.nil_append, List.append, List.getElem?_cons_zero, List.getElem?_cons_succ, List.set_cons_zero, List.set_cons_succ, vBin, vCmp, vIdx, vBi, vLen, vRange, vAbs, vMax, vMin, vInt, vMk, datsOf, vNg, vRef, vBo, vDat, vTup, vTupL, vSet, setT, setR, bind1, bindN, Option.map_some, List.length_cons, List.length_nil]
  generalize hx : x1 - x0 = x at *
  generalize hy : y1 - y0 = y at *
  have b1 := mulB by0 by1 bh0 bh1
  have b2 := mulB (a := -x) (b := w) (A := 2 ^ 9) (B := 2 ^ 9) (by omega) (by omega) bh0 bh1
  refine ⟨by decide, _, idx0, by decide, _, idx0, by decide, _, idx1, by decide, _, idx1, by simp, ?_⟩
  rw [hx, hy]
  refine ⟨by decide, fun f => ⟨.inl (by omega), .inl (by omega), by simp, fun a => ?_⟩⟩
  refine ⟨[.int (y * w), .int (-x * w)], (f, []) :: H, fun pre τ H3 => ∃ G o6 o7, H3 = G ++ (f, pre.map (onI fun p => .int (resP (x * x + y * y) w p))) :: H ∧
      τ = [some (.dat (.tuple [.int x0, .int y0])), some (.dat (.tuple [.int x1, .int y1])), some (.dat (.int w)), some (.dat (.int x)), some (.dat (.int y)), some (.ref f), o6, o7], ⟨[], (f, []) :: H, rfl, rfl, by simp⟩, ⟨[], none, none, rfl, rfl⟩, ?_, ?_⟩
  · rintro pre e post τ1 H3 he ⟨G, o6, o7, rfl, rfl⟩
    have hl : pre.length ≤ 10 := by
      have := congrArg List.length he
      simp at this
      omega
    have hm : e ∈ [Dat.int (y * w), Dat.int (-x * w)] := by rw [he]; exact List.mem_append_right _ (.head _)
    obtain ⟨p, rfl, hp⟩ : ∃ p, e = .int p ∧ (-(2 ^ 18) ≤ p ∧ p ≤ 2 ^ 18) := by
      rcases List.mem_cons.mp hm with rfl | hm
      · exact ⟨_, rfl, by omega⟩
      · rcases List.mem_cons.mp hm with rfl | hm
        · exact ⟨_, rfl, by omega⟩
        · cases hm
    dsimp only [vYs_nil, vYs_cons, vY_ret, vY_ifs, vY_asg, vY_asgT, vY_asgS, vY_sto, vY_exp, vY_for1, vY_forT, vY_whl, vY_bad, vX_int, vX_str, vX_bool, vX_var, vX_bin, vX_neg, vX_cmp, vX_ife, vX_tup, vX_lst, vX_sub, vX_rev, vX_bi, vX_fn, vX_app, vX_ext, vX_pop, vX_comp, vXs_nil, vXs_cons, vXT_cmp, vXT_chain, vXT_not, vXT_or, vXT_and, vXT_fn, vXif_nil, vXif_cons1, vVar, tat, List.map, List.replicate, List.cons_append, List.nil_append, List.append, List.getElem?_cons_zero, List.getElem?_cons_succ, List.set_cons_zero, List.set_cons_succ, vBin, vCmp, vIdx, vBi, vLen, vRange, vAbs, vMax, vMin, vInt, vMk, datsOf, vNg, vRef, vBo, vDat, vTup, vTupL, vSet, setT, setR, bind1, bindN, Option.map_some, List.length_cons, List.length_nil]
    refine v_lnor1 ⟨bx0, bx1⟩ ⟨by0, by1⟩ ⟨w0, bh1⟩ hp (by simpa using hl) fun G' => ⟨G', _, _, ?_, rfl⟩
    rw [List.map_append]; rfl
  · rintro τ1 H3 ⟨G, o6, o7, rfl, rfl⟩
    unfold Lw_normal_2
    dsimp only [vYs_nil, vYs_cons, vY_ret, vY_ifs, vY_asg, vY_asgT, vY_asgS, vY_sto, vY_exp, vY_for1, vY_forT, vY_whl, vY_bad, vX_int, vX_str, vX_bool, vX_var, vX_bin, vX_neg, vX_cmp, vX_ife, vX_tup, vX_lst, vX_sub, vX_rev, vX_bi, vX_fn, vX_app, vX_ext, vX_pop, vX_comp, vXs_nil, vXs_cons, vXT_cmp, vXT_chain, vXT_not, vXT_or, vXT_and, vXT_fn, vXif_nil, vXif_cons1, vVar, tat, List.map, List.replicate, List.cons_append, List.nil_append, List.append, List.getElem?_cons_zero, List.getElem?_cons_succ, List.set_cons_zero, List.set_cons_succ, vBin, vCmp, vIdx, vBi, vLen, vRange, vAbs, vMax, vMin, vInt, vMk, datsOf, vNg, vRef, vBo, vDat, vTup, vTupL, vSet, setT, setR, bind1, bindN, Option.map_some, List.length_cons, List.length_nil]
    refine ⟨_, ?_, h f _ _ (NR_res (x := x) (y := y) (z := y) (.inr rfl) rfl hq w0 rfl) (NR_res (x := -x) (y := y) (z := -x) (.inl rfl) (by rw [Int.neg_mul_neg]) hq w0 rfl)⟩
    exact List.sublist_append_of_sublist_right (List.Sublist.refl _)

noncomputable def sqD (x1 y1 u v : Int) : List Dat := [.tuple [.int (x1 + u), .int (y1 + v)], .tuple [.int (x1 + u - v), .int (y1 + v + u)], .tuple [.int (x1 - u - v), .int (y1 - v + u)], .tuple [.int (x1 - u), .int (y1 - v)]]
theorem sqD_cap (x1 y1 u v : Int) : capD x1 y1 u v = sqD x1 y1 u v := by
  unfold capD sqD
  simp only [Int.add_neg_eq_sub]
noncomputable def S_lsq : Spec := fun ps H R => ∃ x0 y0 x1 y1 h, ps = [.dat (.tuple [.int x0, .int y0]), .dat (.tuple [.int x1, .int y1]), .dat (.int h)] ∧ (boundsP x0 y0 x1 y1 h ∧ 0 ≤ h) ∧
      ∀ u v, NR ((y1 - y0) * h) ((x1 - x0) * (x1 - x0) + (y1 - y0) * (y1 - y0)) u → NR (-(x1 - x0) * h) ((x1 - x0) * (x1 - x0) + (y1 - y0) * (y1 - y0)) v → R (.dat (.tuple (sqD x1 y1 u v))) H
theorem S_lsq_eq {H : Sto} {R : Kont} {x0 y0 x1 y1 h} : S_lsq [.dat (.tuple [.int x0, .int y0]), .dat (.tuple [.int x1, .int y1]), .dat (.int h)] H R = ((boundsP x0 y0 x1 y1 h ∧ 0 ≤ h) ∧
      ∀ u v, NR ((y1 - y0) * h) ((x1 - x0) * (x1 - x0) + (y1 - y0) * (y1 - y0)) u → NR (-(x1 - x0) * h) ((x1 - x0) * (x1 - x0) + (y1 - y0) * (y1 - y0)) v → R (.dat (.tuple (sqD x1 y1 u v))) H) := propext ⟨fun q => by
  obtain ⟨_, _, _, _, _, e, h⟩ := q
  cases e
  exact h, fun h => ⟨_, _, _, _, _, rfl, h⟩⟩
theorem v_lsq (hk : 0 < k) (x16 : Str) (h16 : Γ[16]? = some (x16, 0, S_lnor)) (ps : List PV) (H : Sto) (R : Kont) (h : S_lsq ps H R) : vYs g Γ k true Lw_square (ps.map some ++ List.replicate 4 none) H (fun _ _ => False) (Drop R) := by
  obtain ⟨x0, y0, x1, y1, w, rfl, b, h⟩ := h
  unfold Lw_square
  dsimp only [vYs_nil, vYs_cons, vY_ret, vY_ifs, vY_asg, vY_asgT, vY_asgS, vY_sto, vY_exp, vY_for1, vY_forT, vY_whl, vY_bad, vX_int, vX_str, vX_bool, vX_var, vX_bin, vX_neg, vX_cmp, vX_ife, vX_tup, vX_lst, vX_sub, vX_rev, vX_bi, vX_fn, vX_app, vX_ext, vX_pop, vX_comp, vXs_nil, vXs_cons, vXT_cmp, vXT_chain, vXT_not, vXT_or, vXT_and, vXT_fn, vXif_nil, vXif_cons1, vVar, tat, List.map, List.replicate, List.cons_append, List.nil_append, List.append, List.getElem?_cons_zero, List.getElem?_cons_succ, List.set_cons_zero, List.set_cons_succ, vBin, vCmp, vIdx, vBi, vLen, vRange, vAbs, vMax, vMin, vInt, vMk, datsOf, vNg, vRef, vBo, vDat, vTup, vTupL, vSet, setT, setR, bind1, bindN, Option.map_some, List.length_cons, List.length_nil]
  repeat (first | simp only [vDef, h16, S_lnor_eq] | dsimp only [vYs_nil, vYs_cons, vY_ret, vY_ifs, vY_asg, vY_asgT, vY_asgS, vY_sto, vY_exp, vY_for1, vY_forT, vY_whl, vY_bad, vX_int, vX_str, vX_bool, vX_var, vX_bin, vX_neg, vX_cmp, vX_ife, vX_tup, vX_lst, vX_sub, vX_rev, vX_bi, vX_fn, vX_app, vX_ext, vX_pop, vX_comp, vXs_nil, vXs_cons, vXT_cmp, vXT_chain, vXT_not, vXT_or, vXT_and, vXT_fn, vXif_nil, vXif_cons1, vVar, tat, List.map, List.replicate, List.cons_append, List.nil_append, List.append, List.getElem?_cons_zero, List.getElem?_cons_succ, List.set_cons_zero, List.set_cons_succ, vBin, vCmp, vIdx, vBi, vLen, vRange, vAbs, vMax, vMin, vInt, vMk, datsOf, vNg, vRef, vBo, vDat, vTup, vTupL, vSet, setT, setR, bind1, bindN, Option.map_some, List.length_cons, List.length_nil])
  refine ⟨⟨(by trivial), hk⟩, b, fun a u v hu hv => ⟨_, .head _, ?_⟩⟩
  unfold Lw_square_2
  dsimp only [vYs_nil, vYs_cons, vY_ret, vY_ifs, vY_asg, vY_asgT, vY_asgS, vY_sto, vY_exp, vY_for1, vY_forT, vY_whl, vY_bad, vX_int, vX_str, vX_bool, vX_var, vX_bin, vX_neg, vX_cmp, vX_ife, vX_tup, vX_lst, vX_sub, vX_rev, vX_bi, vX_fn, vX_app, vX_ext, vX_pop, vX_comp, vXs_nil, vXs_cons, vXT_cmp, vXT_chain, vXT_not, vXT_or, vXT_and, vXT_fn, vXif_nil, vXif_cons1, vVar, tat, List.map, List.replicate, List.cons_append, List.nil_append, List.append, List.getElem?_cons_zero, List.getElem?_cons_succ, List.set_cons_zero, List.set_cons_succ, vBin, vCmp, vIdx, vBi, vLen, vRange, vAbs, vMax, vMin, vInt, vMk, datsOf, vNg, vRef, vBo, vDat, vTup, vTupL, vSet, setT, setR, bind1, bindN, Option.map_some, List.length_cons, List.length_nil]
  refine ⟨by decide, _, idx0, by decide, _, idx1, by simp, by decide, _, idx0, by decide, _, idx1, by simp, by simp, (by trivial), ?_⟩
  unfold Lw_square_1
  dsimp only [vYs_nil, vYs_cons, vY_ret, vY_ifs, vY_asg, vY_asgT, vY_asgS, vY_sto, vY_exp, vY_for1, vY_forT, vY_whl, vY_bad, vX_int, vX_str, vX_bool, vX_var, vX_bin, vX_neg, vX_cmp, vX_ife, vX_tup, vX_lst, vX_sub, vX_rev, vX_bi, vX_fn, vX_app, vX_ext, vX_pop, vX_comp, vXs_nil, vXs_cons, vXT_cmp, vXT_chain, vXT_not, vXT_or, vXT_and, vXT_fn, vXif_nil, vXif_cons1, vVar, tat, List.map, List.replicate, List.cons_append, List.nil_append, List.append, List.getElem?_cons_zero, List.getElem?_cons_succ, List.set_cons_zero, List.set_cons_succ, vBin, vCmp, vIdx, vBi, vLen, vRange, vAbs, vMax, vMin, vInt, vMk, datsOf, vNg, vRef, vBo, vDat, vTup, vTupL, vSet, setT, setR, bind1, bindN, Option.map_some, List.length_cons, List.length_nil]
  refine ⟨by decide, _, idx0, by decide, _, idx1, by simp, by decide, _, idx0, by decide, _, idx1, by simp, by simp, ?_⟩
  exact ⟨H, List.Sublist.cons _ (List.Sublist.refl _), h u v hu hv⟩
end

end Mine
end

section
set_option maxRecDepth 20000
namespace Mine
theorem addU_len (a : List Pt) (p : Pt) : (addU a p).length ≤ a.length + 1 := by
  unfold addU
  split
  · omega
  · simp
theorem foldU_len : ∀ (l a : List Pt), (l.foldl addU a).length ≤ a.length + l.length
  | [], a => by simp
  | p :: l, a => by
    rw [List.foldl_cons]
    have := foldU_len l (addU a p)
    have := addU_len a p
    rw [List.length_cons]; omega
theorem add4_len (a : List Pt) (p : Pt) : (add4 a p).length ≤ a.length + 4 := foldU_len _ a
theorem fold4_len : ∀ (l a : List Pt), (l.foldl add4 a).length ≤ a.length + 4 * l.length
  | [], a => by simp
  | p :: l, a => by
    rw [List.foldl_cons]
    have := fold4_len l (add4 a p)
    have := add4_len a p
    rw [List.length_cons]; omega
theorem add8_eq (a : List Pt) (p : Pt) : add8 a p = [(p.1, p.2), (p.2, p.1)].foldl add4 a := rfl
theorem fold8_snoc (l a : List Pt) (p : Pt) : (l ++ [p]).foldl add8 a = [(p.1, p.2), (p.2, p.1)].foldl add4 (l.foldl add8 a) := by
  rw [List.foldl_append]
  generalize l.foldl add8 a = z
  simp only [List.foldl_cons, List.foldl_nil, add8_eq]
theorem add8_len (a : List Pt) (p : Pt) : (add8 a p).length ≤ a.length + 8 := by
  have := fold4_len [(p.1, p.2), (p.2, p.1)] a
  unfold add8
  simpa using this
theorem fold8_len : ∀ (l a : List Pt), (l.foldl add8 a).length ≤ a.length + 8 * l.length
  | [], a => by simp
  | p :: l, a => by
    rw [List.foldl_cons]
    have := fold8_len l (add8 a p)
    have := add8_len a p
    rw [List.length_cons]; omega

section
variable {g : Gl} {Γ : Gam} {k : Nat}

noncomputable def ldiscL (h st : Int) : List Pt := (sortQ (foundL h st)).getD []
noncomputable def S_ldi : Spec := fun ps H R => ∃ h st, ps = [.dat (.int h), .dat (.int st)] ∧ ((1 ≤ h ∧ h ≤ 9) ∧ (1 ≤ st ∧ st ≤ 4)) ∧ ∀ c, R (.ref c) ((c, (ldiscL h st).map pt) :: H)
theorem S_ldi_eq {H : Sto} {R : Kont} {h st} : S_ldi [.dat (.int h), .dat (.int st)] H R = (((1 ≤ h ∧ h ≤ 9) ∧ (1 ≤ st ∧ st ≤ 4)) ∧ ∀ c, R (.ref c) ((c, (ldiscL h st).map pt) :: H)) := propext ⟨fun q => by
  obtain ⟨_, _, e, h⟩ := q
  cases e
  exact h, fun h => ⟨_, _, rfl, h⟩⟩

noncomputable abbrev tauL (h st : Int) (f : Addr) (o3 o4 o5 o6 o7 o8 o9 o10 o11 : Option PV) : Tau := [some (.dat (.int h)), some (.dat (.int st)), some (.ref f), o3, o4, o5, o6, o7, o8, o9, o10, o11]

/-- the inmost turn -/
theorem v_ldi1 {h st : Int} {f : Addr} {o3 o4 o5 o6 o7 o8 o9 o10 : Option PV} {p : Pt} {acc : List Pt} {G H : Sto} {Rn : KT} {Rr : Kont} (hl : acc.length ≤ 900)
    (hn : Rn (tauL h st f o3 o4 o5 o6 o7 o8 o9 o10 (some (.dat (.tuple [.int p.1, .int p.2])))) (G ++ (f, (addU acc p).map pt) :: H)) :
    vYs g Γ k true Lw_disc_1 (tauL h st f o3 o4 o5 o6 o7 o8 o9 o10 (some (.dat (.tuple [.int p.1, .int p.2])))) (G ++ (f, acc.map pt) :: H) Rn Rr := by
  unfold Lw_disc_1
  dsimp only [vYs_nil, vYs_cons, vY_ret, vY_ifs, vY_asg, vY_asgT, vY_asgS, vY_sto, vY_exp, vY_for1, vY_forT, vY_whl, vY_bad, vX_int, vX_str, vX_bool, vX_var, vX_bin, vX_neg, vX_cmp, vX_ife, vX_tup, vX_lst, vX_sub, vX_rev, vX_bi, vX_fn, vX_app, vX_ext, vX_pop, vX_comp, vXs_nil, vXs_cons, vXT_cmp, vXT_chain, vXT_not, vXT_or, vXT_and, vXT_fn, vXif_nil, vXif_cons1, vVar, tat, List.map, List.replicate, List.cons_append, List.nil_append, List.append, List.getElem?_cons_zero, List.getElem?_cons_succ, List.set_cons_zero, List.set_cons_succ, vBin, vCmp, vIdx, vBi, vLen, vRange, vAbs, vMax, vMin, vInt, vMk, datsOf, vNg, vRef, vBo, vDat, vTup, vTupL, vSet, setT, setR, bind1, bindN, Option.map_some, List.length_cons, List.length_nil]
  have hm : (f, acc.map pt) ∈ G ++ (f, acc.map pt) :: H := List.mem_append_right _ (.head _)
  refine ⟨(by trivial), _, hm, rfl, fun d hd => ?_, fun c hc => ?_⟩
  · obtain ⟨q, rfl⟩ := pts_pt hd
    rfl
  have hmem : Dat.tuple [.int p.1, .int p.2] ∈ acc.map pt ↔ p ∈ acc := by
    constructor
    · intro h
      obtain ⟨q, hq, e⟩ := List.mem_map.mp h
      rw [← pt_inj (p := q) (q := p) e]
      exact hq
    · exact fun h => List.mem_map.mpr ⟨p, h, rfl⟩
  by_cases hp : p ∈ acc
  · have : c = false := by
      cases c with
      | false => rfl
      | true => exact absurd (hmem.mpr hp) (hc.mp rfl)
    subst this
    rw [if_neg Bool.false_ne_true]
    unfold addU at hn
    rw [if_pos hp] at hn
    exact hn
  · have : c = true := hc.mpr fun q => hp (hmem.mp q)
    subst this
    rw [if_pos rfl]
    unfold addU at hn
    rw [if_neg hp, List.map_append] at hn
    exact ⟨⟨_, hm⟩, G, _, H, rfl, by rw [List.length_map]; omega, hn⟩

/-- the turn between: four points -/
theorem v_ldi2 {h st : Int} {f : Addr} {o3 o4 o5 o6 o7 o8 o11 : Option PV} {p : Pt} {acc : List Pt} {G H : Sto} {Rn : KT} {Rr : Kont} (hl : acc.length ≤ 800)
    (hn : ∀ G' q11, Rn (tauL h st f o3 o4 o5 o6 o7 o8 (some (.dat (.int p.1))) (some (.dat (.int p.2))) q11) (G' ++ (f, (add4 acc p).map pt) :: H)) :
    vYs g Γ k true Lw_disc_2 (tauL h st f o3 o4 o5 o6 o7 o8 (some (.dat (.int p.1))) (some (.dat (.int p.2))) o11) (G ++ (f, acc.map pt) :: H) Rn Rr := by
  unfold Lw_disc_2
  dsimp only [vYs_nil, vYs_cons, vY_ret, vY_ifs, vY_asg, vY_asgT, vY_asgS, vY_sto, vY_exp, vY_for1, vY_forT, vY_whl, vY_bad, vX_int, vX_str, vX_bool, vX_var, vX_bin, vX_neg, vX_cmp, vX_ife, vX_tup, vX_lst, vX_sub, vX_rev, vX_bi, vX_fn, vX_app, vX_ext, vX_pop, vX_comp, vXs_nil, vXs_cons, vXT_cmp, vXT_chain, vXT_not, vXT_or, vXT_and, vXT_fn, vXif_nil, vXif_cons1, vVar, tat, List.map, List.replicate, List.cons_append, List.nil_append, List.append, List.getElem?_cons_zero, List.getElem?_cons_succ, List.set_cons_zero, List.set_cons_succ, vBin, vCmp, vIdx, vBi, vLen, vRange, vAbs, vMax, vMin, vInt, vMk, datsOf, vNg, vRef, vBo, vDat, vTup, vTupL, vSet, setT, setR, bind1, bindN, Option.map_some, List.length_cons, List.length_nil]
  refine ⟨by simp, by simp, by simp, by simp, by simp, fun a => ?_⟩
  refine ⟨[(p.1, p.2), (-p.1, p.2), (p.1, -p.2), (-p.1, -p.2)].map pt, G ++ (f, acc.map pt) :: H, fun pre τ H3 => ∃ l G o11, pre = l.map pt ∧ H3 = G ++ (f, (l.foldl addU acc).map pt) :: H ∧ τ = tauL h st f o3 o4 o5 o6 o7 o8 (some (.dat (.int p.1))) (some (.dat (.int p.2))) o11,
    ⟨[], _, rfl, rfl, by simp⟩, ⟨[], G, o11, rfl, rfl, rfl⟩, ?_, ?_⟩
  · rintro pre e post τ1 H3 he ⟨l, G, o11, rfl, rfl, rfl⟩
    obtain ⟨q, rfl, _⟩ := mem_pts he
    have hll : l.length ≤ 4 := by
      have := congrArg List.length he
      simp at this
      omega
    have hfl := foldU_len l acc
    dsimp only [pt, vYs_nil, vYs_cons, vY_ret, vY_ifs, vY_asg, vY_asgT, vY_asgS, vY_sto, vY_exp, vY_for1, vY_forT, vY_whl, vY_bad, vX_int, vX_str, vX_bool, vX_var, vX_bin, vX_neg, vX_cmp, vX_ife, vX_tup, vX_lst, vX_sub, vX_rev, vX_bi, vX_fn, vX_app, vX_ext, vX_pop, vX_comp, vXs_nil, vXs_cons, vXT_cmp, vXT_chain, vXT_not, vXT_or, vXT_and, vXT_fn, vXif_nil, vXif_cons1, vVar, tat, List.map, List.replicate, List.cons_append, List.nil_append, List.append, List.getElem?_cons_zero, List.getElem?_cons_succ, List.set_cons_zero, List.set_cons_succ, vBin, vCmp, vIdx, vBi, vLen, vRange, vAbs, vMax, vMin, vInt, vMk, datsOf, vNg, vRef, vBo, vDat, vTup, vTupL, vSet, setT, setR, bind1, bindN, Option.map_some, List.length_cons, List.length_nil]
    refine v_ldi1 (by omega) ⟨l ++ [q], G, _, by rw [List.map_append]; rfl, by rw [List.foldl_append]; rfl, rfl⟩
  · rintro τ1 H3 ⟨l, G, o11, hl2, rfl, rfl⟩
    have e := (List.map_inj_right (fun x y hxy => pt_inj hxy)).mp hl2
    subst e
    exact hn G o11

set_option maxHeartbeats 4000000 in
theorem v_ldi (ps : List PV) (H : Sto) (R : Kont) (h : S_ldi ps H R) : vYs g Γ k true Lw_disc (ps.map some ++ List.replicate 10 none) H (fun _ _ => False) (Drop R) := by
  obtain ⟨w, st, rfl, ⟨⟨w0, w1⟩, s0, s1⟩, h⟩ := h
  unfold Lw_disc
  dsimp only [vYs_nil, vYs_cons, vY_ret, vY_ifs, vY_asg, vY_asgT, vY_asgS, vY_sto, vY_exp, vY_for1, vY_forT, vY_whl, vY_bad, vX_int, vX_str, vX_bool, vX_var, vX_bin, vX_neg, vX_cmp, vX_ife, vX_tup, vX_lst, vX_sub, vX_rev, vX_bi, vX_fn, vX_app, vX_ext, vX_pop, vX_comp, vXs_nil, vXs_cons, vXT_cmp, vXT_chain, vXT_not, vXT_or, vXT_and, vXT_fn, vXif_nil, vXif_cons1, vVar, tat, List.map, List.replicate, List.cons_append, List.nil_append, List.append, List.getElem?_cons_zero, List.getElem?_cons_succ, List.set_cons_zero, List.set_cons_succ, vBin, vCmp, vIdx, vBi, vLen, vRange, vAbs, vMax, vMin, vInt, vMk, datsOf, vNg, vRef, vBo, vDat, vTup, vTupL, vSet, setT, setR, bind1, bindN, Option.map_some, List.length_cons, List.length_nil]
  refine ⟨by decide, fun f => ?_⟩
  refine ⟨rngD 0 (st + 1), (f, []) :: H, fun pre τ H3 => ∃ G l o3 o4 o5 o6 o7 o8 o9 o10 o11, pre.map (onI fun t => pt (l8 w st t)) = l.map pt ∧ H3 = G ++ (f, (l.foldl add8 []).map pt) :: H ∧ τ = tauL w st f o3 o4 o5 o6 o7 o8 o9 o10 o11, ⟨⟨by omega, by omega, by omega, by omega⟩, rfl, rfl⟩,
    ⟨[], [], none, none, none, none, none, none, none, none, none, rfl, rfl, rfl⟩, ?_, ?_⟩
  · rintro pre e post τ1 H3 he ⟨G, l, o3, o4, o5, o6, o7, o8, o9, o10, o11, hpl, rfl, rfl⟩
    obtain ⟨i, hi, rfl, hlt⟩ := rngD_at he
    have hp : pre.length ≤ 5 := by omega
    have hll : l.length ≤ 5 := by
      have := congrArg List.length hpl
      simp at this
      omega
    have hfl := fold8_len l []
    rw [List.length_nil] at hfl
    have hpt : (0 : Int) + (i : Int) ≤ 5 ∧ 0 ≤ (0 : Int) + (i : Int) := by omega
    generalize ht : (0 : Int) + (i : Int) = t at *
    unfold Lw_disc_3
    dsimp only [↓vYs_nil, ↓vYs_cons, ↓vY_ret, ↓vY_ifs, ↓vY_asg, ↓vY_asgT, ↓vY_asgS, ↓vY_sto, ↓vY_exp, ↓vY_for1, ↓vY_forT, ↓vY_whl, ↓vY_bad, ↓vX_int, ↓vX_str, ↓vX_bool, ↓vX_var, ↓vX_bin, ↓vX_neg, ↓vX_cmp, ↓vX_ife, ↓vX_tup, ↓vX_lst, ↓vX_sub, ↓vX_rev, ↓vX_bi, ↓vX_fn, ↓vX_app, ↓vX_ext, ↓vX_pop, ↓vX_comp, ↓vXs_nil, ↓vXs_cons, ↓vXT_cmp, ↓vXT_chain, ↓vXT_not, ↓vXT_or, ↓vXT_and, ↓vXT_fn, ↓vXif_nil, ↓vXif_cons1, vVar, tat, List.map, List.replicate, List.cons_append, List.nil_append, List.append, List.getElem?_cons_zero, List.getElem?_cons_succ, List.set_cons_zero, List.set_cons_succ, vBin, vCmp, vIdx, vBi, vLen, vRange, vAbs, vMax, vMin, vInt, vMk, datsOf, vNg, vRef, vBo, vDat, vTup, vTupL, vSet, setT, setR, bind1, bindN, Option.map_some, List.length_cons, List.length_nil]
    have bb := mulB (a := 70 * st) (b := 70 * st) (A := 280) (B := 280) (by omega) (by omega) (by omega) (by omega)
    have tt := mulB (a := 29 * t) (b := 29 * t) (A := 145) (B := 145) (by omega) (by omega) (by omega) (by omega)
    have q0 : 0 < 29 * t * (29 * t) + 70 * st * (70 * st) := by have := sqpos (t := t) s0; omega
    refine ⟨.inl (by decide), .inl (by decide), by simp, by simp, .inl (by omega), .inl (by omega), .inl (by decide), .inl (by omega), .inl (by omega), .inl (by omega), .inl (by decide), by omega, .inl (by decide), .inr (by decide), .inr (by omega), .inr (by omega), .inl (by decide), by omega, ?_⟩
    refine ⟨by simp, by simp, by simp, fun a => ?_⟩
    refine ⟨[((l8 w st t).1, (l8 w st t).2), ((l8 w st t).2, (l8 w st t).1)].map pt, G ++ (f, (l.foldl add8 []).map pt) :: H, fun pre τ H3 => ∃ m G o9 o10 o11, pre = m.map pt ∧ H3 = G ++ (f, (m.foldl add4 (l.foldl add8 [])).map pt) :: H ∧
        τ = tauL w st f (some (.dat (.int t))) (some (.dat (.int (29 * t)))) (some (.dat (.int (70 * st)))) (some (.dat (.int (29 * t * (29 * t) + 70 * st * (70 * st))))) (some (.dat (.int (l8 w st t).1))) (some (.dat (.int (l8 w st t).2))) o9 o10 o11,
      ⟨[], _, rfl, rfl, by simp⟩, ⟨[], G, o9, o10, o11, rfl, rfl, rfl⟩, ?_, ?_⟩
    · rintro pre2 e2 post2 τ2 H4 he2 ⟨m, G2, p9, p10, p11, rfl, rfl, rfl⟩
      obtain ⟨q, rfl, _⟩ := mem_pts he2
      have hml : m.length ≤ 2 := by
        have := congrArg List.length he2
        simp at this
        omega
      have hfm := fold4_len m (l.foldl add8 [])
      simp only [pt, bindN, setT, vSet, List.set_cons_zero, List.set_cons_succ]
      refine v_ldi2 (by omega) fun G' q11 => ⟨m ++ [q], G', _, _, q11, by rw [List.map_append]; rfl, by rw [List.foldl_append]; rfl, rfl⟩
    · rintro τ2 H4 ⟨m, G2, p9, p10, p11, hm, rfl, rfl⟩
      have e := (List.map_inj_right (fun x y hxy => pt_inj hxy)).mp hm
      subst e
      refine ⟨G2, l ++ [l8 w st t], _, _, _, _, _, _, p9, p10, p11, ?_, ?_, rfl⟩
      · rw [List.map_append, List.map_append, hpl]; rfl
      · rw [fold8_snoc]
  · rintro τ1 H3 ⟨G, l, o3, o4, o5, o6, o7, o8, o9, o10, o11, hpl, rfl, rfl⟩
    rw [map_rng] at hpl
    have e := (List.map_inj_right (fun x y hxy => pt_inj hxy)).mp hpl
    have hf : l.foldl add8 [] = foundL w st := by
      unfold foundL
      rw [← e]
    rw [hf]
    have gd := goodDisc_of w0 w1 s0 s1
    unfold goodDisc at gd
    simp only [Bool.and_eq_true, decide_eq_true_eq] at gd
    obtain ⟨⟨⟨⟨⟨g1, g2⟩, g3⟩, g4⟩, g5⟩, g6⟩ := gd
    unfold Lw_disc_4
    dsimp only [vYs_nil, vYs_cons, vY_ret, vY_ifs, vY_asg, vY_asgT, vY_asgS, vY_sto, vY_exp, vY_for1, vY_forT, vY_whl, vY_bad, vX_int, vX_str, vX_bool, vX_var, vX_bin, vX_neg, vX_cmp, vX_ife, vX_tup, vX_lst, vX_sub, vX_rev, vX_bi, vX_fn, vX_app, vX_ext, vX_pop, vX_comp, vXs_nil, vXs_cons, vXT_cmp, vXT_chain, vXT_not, vXT_or, vXT_and, vXT_fn, vXif_nil, vXif_cons1, vVar, tat, List.map, List.replicate, List.cons_append, List.nil_append, List.append, List.getElem?_cons_zero, List.getElem?_cons_succ, List.set_cons_zero, List.set_cons_succ, vBin, vCmp, vIdx, vBi, vLen, vRange, vAbs, vMax, vMin, vInt, vMk, datsOf, vNg, vRef, vBo, vDat, vTup, vTupL, vSet, setT, setR, bind1, bindN, Option.map_some, List.length_cons, List.length_nil, vSorted]
    split at g5
    · rename_i r r' hr hr'
      refine ⟨foundL w st, r', List.mem_append_right _ (.head _), g3, g4, sortQ_ok hr', fun c => ?_⟩
      refine ⟨(c, r'.map pt) :: H, List.Sublist.cons_cons _ (List.sublist_append_of_sublist_right (List.Sublist.cons _ (List.Sublist.refl _))), ?_⟩
      have := h c
      unfold ldiscL at this
      rw [hr'] at this
      exact this
    · cases g5
end

end Mine
end

section
set_option maxRecDepth 20000
namespace Mine
section
variable {g : Gl} {Γ : Gam} {k : Nat}

noncomputable def S_ldr : Spec := fun ps H R => ∃ told ex ey h st, ps = [.dat (.tuple told), .dat (.tuple [.int ex, .int ey]), .dat (.int h), .dat (.int st)] ∧ (told = discD ex ey h st ∧ (1 ≤ h ∧ h ≤ 9) ∧ (1 ≤ st ∧ st ≤ 4)) ∧ R (.dat (.bool true)) H
theorem S_ldr_eq {H : Sto} {R : Kont} {told ex ey h st} : S_ldr [.dat (.tuple told), .dat (.tuple [.int ex, .int ey]), .dat (.int h), .dat (.int st)] H R = ((told = discD ex ey h st ∧ (1 ≤ h ∧ h ≤ 9) ∧ (1 ≤ st ∧ st ≤ 4)) ∧ R (.dat (.bool true)) H) := propext ⟨fun q => by
  obtain ⟨_, _, _, _, _, e, h⟩ := q
  cases e
  exact h, fun h => ⟨_, _, _, _, _, rfl, h⟩⟩

noncomputable abbrev tauR (o0 : Option PV) (ex ey h st : Int) (c : Addr) (o5 o6 o7 : Option PV) : Tau := [o0, some (.dat (.tuple [.int ex, .int ey])), some (.dat (.int h)), some (.dat (.int st)), some (.ref c), o5, o6, o7]

theorem sq_small {t : Int} (h : t * t ≤ 100) : -10 ≤ t ∧ t ≤ 10 := by
  constructor
  · refine Int.not_lt.mp fun q => ?_
    have := sq_mono (a := 11) (b := -t) (by omega) (by omega)
    rw [Int.neg_mul_neg] at this
    omega
  · refine Int.not_lt.mp fun q => ?_
    have := sq_mono (a := 11) (b := t) (by omega) (by omega)
    omega

theorem v_ldr2 {o0 : Option PV} {ex ey h st : Int} {c : Addr} {o6 o7 : Option PV} {l : List Pt} {i : Nat} {H : Sto} {Rn : KT} {Rr : Kont} (hh : 1 ≤ h ∧ h ≤ 9) (hm : (c, l.map pt) ∈ H) (hr : ringAt l h i = true) (hi : i < 64)
    (hn : ∀ o6 o7, Rn (tauR o0 ex ey h st c (some (.dat (.int (0 + (i : Int))))) o6 o7) H) :
    vYs g Γ k true Lw_disc_right_2 (tauR o0 ex ey h st c (some (.dat (.int (0 + (i : Int))))) o6 o7) H Rn Rr := by
  unfold ringAt at hr
  split at hr
  · rename_i a b q h1 h2
    simp only [Bool.and_eq_true, decide_eq_true_eq] at hr
    obtain ⟨⟨hr1, hr2⟩, hr3⟩ := hr
    have hsq : (h + 1) * (h + 1) ≤ 10 * 10 := sq_mono (by omega) (by omega)
    have nn : ∀ t : Int, 0 ≤ t * t := fun t => by
      rcases Int.le_total 0 t with h | h
      · exact Int.mul_nonneg h h
      · exact Int.mul_nonneg_of_nonpos_of_nonpos h h
    have n1 := nn q.1
    have n2 := nn q.2
    have b1 := sq_small (t := q.1) (by omega)
    have b2 := sq_small (t := q.2) (by omega)
    unfold Lw_disc_right_2
    dsimp only [vYs_nil, vYs_cons, vY_ret, vY_ifs, vY_asg, vY_asgT, vY_asgS, vY_sto, vY_exp, vY_for1, vY_forT, vY_whl, vY_bad, vX_int, vX_str, vX_bool, vX_var, vX_bin, vX_neg, vX_cmp, vX_ife, vX_tup, vX_lst, vX_sub, vX_rev, vX_bi, vX_fn, vX_app, vX_ext, vX_pop, vX_comp, vXs_nil, vXs_cons, vXT_cmp, vXT_chain, vXT_not, vXT_or, vXT_and, vXT_fn, vXif_nil, vXif_cons1, vVar, tat, List.map, List.replicate, List.cons_append, List.nil_append, List.append, List.getElem?_cons_zero, List.getElem?_cons_succ, List.set_cons_zero, List.set_cons_succ, vBin, vCmp, vIdx, vBi, vLen, vRange, vAbs, vMax, vMin, vInt, vMk, datsOf, vNg, vRef, vBo, vDat, vTup, vTupL, vSet, setT, setR, bind1, bindN, Option.map_some, List.length_cons, List.length_nil]
    have h2' : idx (0 + (i : Int)) (l.map pt) = some (.tuple [.int q.1, .int q.2]) := by
      rw [Int.zero_add]
      refine idx_nn ?_
      rw [List.getElem?_map, h2]; rfl
    have h1' : idx (0 + (i : Int) - 1) (l.map pt) = some (.tuple [.int a, .int b]) := by
      rw [Int.zero_add]
      exact h1
    refine ⟨⟨by omega, by omega⟩, _, _, hm, h1', ⟨by omega, by omega⟩, _, _, hm, h2', by simp, (by trivial), ?_⟩
    refine ⟨by decide, _, idx0, by decide, _, idx1, ?_⟩
    simp only
    refine ⟨.inr (by omega), by decide, _, idx1, by decide, _, idx0, ?_⟩
    simp only
    refine ⟨.inr (by omega), ?_⟩
    rw [if_neg (by simp; omega)]
    unfold Lw_disc_right_1
    dsimp only [vYs_nil, vYs_cons, vY_ret, vY_ifs, vY_asg, vY_asgT, vY_asgS, vY_sto, vY_exp, vY_for1, vY_forT, vY_whl, vY_bad, vX_int, vX_str, vX_bool, vX_var, vX_bin, vX_neg, vX_cmp, vX_ife, vX_tup, vX_lst, vX_sub, vX_rev, vX_bi, vX_fn, vX_app, vX_ext, vX_pop, vX_comp, vXs_nil, vXs_cons, vXT_cmp, vXT_chain, vXT_not, vXT_or, vXT_and, vXT_fn, vXif_nil, vXif_cons1, vVar, tat, List.map, List.replicate, List.cons_append, List.nil_append, List.append, List.getElem?_cons_zero, List.getElem?_cons_succ, List.set_cons_zero, List.set_cons_succ, vBin, vCmp, vIdx, vBi, vLen, vRange, vAbs, vMax, vMin, vInt, vMk, datsOf, vNg, vRef, vBo, vDat, vTup, vTupL, vSet, setT, setR, bind1, bindN, Option.map_some, List.length_cons, List.length_nil]
    refine ⟨⟨by decide, by decide, by omega⟩, by decide, _, idx0, ⟨by decide, by decide, by omega⟩, by decide, _, idx1, ⟨by decide, by decide, by omega⟩, ?_⟩
    simp only [pow2]
    rw [if_pos (by simpa using hr2)]
    refine ⟨⟨by decide, by decide, by omega⟩, ?_⟩
    rw [if_neg (by simpa using hr3)]
    exact hn _ _
  · cases hr

theorem unsh (ex ey : Int) (l : List Pt) : (((l.map (fun p => (ex + p.1, ey + p.2))).map fun p : Pt => (p.1 - ex, p.2 - ey))) = l := by
  rw [List.map_map]
  conv => rhs; rw [← List.map_id l]
  refine List.map_congr_left fun p _ => ?_
  show (ex + p.1 - ex, ey + p.2 - ey) = p
  exact Prod.ext (by dsimp; omega) (by dsimp; omega)

theorem v_ldr (hk : 0 < k) (x17 : Str) (h17 : Γ[17]? = some (x17, 0, S_ldi)) (ps : List PV) (H : Sto) (R : Kont) (h : S_ldr ps H R) : vYs g Γ k true Lw_disc_right (ps.map some ++ List.replicate 4 none) H (fun _ _ => False) (Drop R) := by
  obtain ⟨told, ex, ey, w, st, rfl, ⟨rfl, ⟨w0, w1⟩, s0, s1⟩, hR⟩ := h
  have gd := goodDisc_of w0 w1 s0 s1
  unfold goodDisc at gd
  simp only [Bool.and_eq_true, decide_eq_true_eq] at gd
  obtain ⟨⟨⟨⟨⟨g1, g2⟩, g3⟩, g4⟩, g5⟩, g6⟩ := gd
  have hdd : discD ex ey w st = ((ringL w st).map fun p => (ex + p.1, ey + p.2)).map pt := by
    unfold discD
    rw [List.map_map]; rfl
  unfold Lw_disc_right
  dsimp only [vYs_nil, vYs_cons, vY_ret, vY_ifs, vY_asg, vY_asgT, vY_asgS, vY_sto, vY_exp, vY_for1, vY_forT, vY_whl, vY_bad, vX_int, vX_str, vX_bool, vX_var, vX_bin, vX_neg, vX_cmp, vX_ife, vX_tup, vX_lst, vX_sub, vX_rev, vX_bi, vX_fn, vX_app, vX_ext, vX_pop, vX_comp, vXs_nil, vXs_cons, vXT_cmp, vXT_chain, vXT_not, vXT_or, vXT_and, vXT_fn, vXif_nil, vXif_cons1, vVar, tat, List.map, List.replicate, List.cons_append, List.nil_append, List.append, List.getElem?_cons_zero, List.getElem?_cons_succ, List.set_cons_zero, List.set_cons_succ, vBin, vCmp, vIdx, vBi, vLen, vRange, vAbs, vMax, vMin, vInt, vMk, datsOf, vNg, vRef, vBo, vDat, vTup, vTupL, vSet, setT, setR, bind1, bindN, Option.map_some, List.length_cons, List.length_nil, vSorted]
  rw [hdd]
  refine ⟨_, H, yes, onP (fun p => (p.1 - ex, p.2 - ey)), ⟨rfl, rfl⟩, by simp; omega, ?_, ?_⟩
  · intro e he
    obtain ⟨p, rfl⟩ := pts_pt he
    refine ⟨[.int p.1, .int p.2], rfl, fun H' => ⟨(by trivial), rfl⟩, fun _ H' => ?_⟩
    dsimp only [tau2, vYs_nil, vYs_cons, vY_ret, vY_ifs, vY_asg, vY_asgT, vY_asgS, vY_sto, vY_exp, vY_for1, vY_forT, vY_whl, vY_bad, vX_int, vX_str, vX_bool, vX_var, vX_bin, vX_neg, vX_cmp, vX_ife, vX_tup, vX_lst, vX_sub, vX_rev, vX_bi, vX_fn, vX_app, vX_ext, vX_pop, vX_comp, vXs_nil, vXs_cons, vXT_cmp, vXT_chain, vXT_not, vXT_or, vXT_and, vXT_fn, vXif_nil, vXif_cons1, vVar, tat, List.map, List.replicate, List.cons_append, List.nil_append, List.append, List.getElem?_cons_zero, List.getElem?_cons_succ, List.set_cons_zero, List.set_cons_succ, vBin, vCmp, vIdx, vBi, vLen, vRange, vAbs, vMax, vMin, vInt, vMk, datsOf, vNg, vRef, vBo, vDat, vTup, vTupL, vSet, setT, setR, bind1, bindN, Option.map_some, List.length_cons, List.length_nil]
    exact ⟨by decide, _, idx0, by decide, _, idx1, by simp, (by trivial), rfl⟩
  intro c
  rw [pick_pts, unsh]
  split at g5
  · rename_i r r' hr hr'
    have hrr : r = r' := by simpa using g5
    refine ⟨ringL w st, r, .head _, g1, g2, sortQ_ok hr, fun c1 => ?_⟩
    repeat (first | simp only [vDef, h17, S_ldi_eq] | dsimp only [vYs_nil, vYs_cons, vY_ret, vY_ifs, vY_asg, vY_asgT, vY_asgS, vY_sto, vY_exp, vY_for1, vY_forT, vY_whl, vY_bad, vX_int, vX_str, vX_bool, vX_var, vX_bin, vX_neg, vX_cmp, vX_ife, vX_tup, vX_lst, vX_sub, vX_rev, vX_bi, vX_fn, vX_app, vX_ext, vX_pop, vX_comp, vXs_nil, vXs_cons, vXT_cmp, vXT_chain, vXT_not, vXT_or, vXT_and, vXT_fn, vXif_nil, vXif_cons1, vVar, tat, List.map, List.replicate, List.cons_append, List.nil_append, List.append, List.getElem?_cons_zero, List.getElem?_cons_succ, List.set_cons_zero, List.set_cons_succ, vBin, vCmp, vIdx, vBi, vLen, vRange, vAbs, vMax, vMin, vInt, vMk, datsOf, vNg, vRef, vBo, vDat, vTup, vTupL, vSet, setT, setR, bind1, bindN, Option.map_some, List.length_cons, List.length_nil])
    refine ⟨⟨(by trivial), hk⟩, ⟨⟨w0, w1⟩, s0, s1⟩, fun c2 => ?_⟩
    have hld : ldiscL w st = r := by
      unfold ldiscL
      rw [hr', hrr]; rfl
    have kq : ∀ l : List Pt, ∀ d ∈ l.map pt, kqdOk 8 d = true := fun l d hd => by
      obtain ⟨q, rfl⟩ := pts_pt hd
      rfl
    refine ⟨_, _, .tail _ (.head _), .head _, kq _, kq _, fun cc hcc => ?_⟩
    rw [hld] at hcc
    have hc0 : cc = false := by
      cases cc with
      | false => rfl
      | true => exact absurd rfl (hcc.mp rfl)
    subst hc0
    rw [if_neg Bool.false_ne_true]
    unfold Lw_disc_right_4
    dsimp only [vYs_nil, vYs_cons, vY_ret, vY_ifs, vY_asg, vY_asgT, vY_asgS, vY_sto, vY_exp, vY_for1, vY_forT, vY_whl, vY_bad, vX_int, vX_str, vX_bool, vX_var, vX_bin, vX_neg, vX_cmp, vX_ife, vX_tup, vX_lst, vX_sub, vX_rev, vX_bi, vX_fn, vX_app, vX_ext, vX_pop, vX_comp, vXs_nil, vXs_cons, vXT_cmp, vXT_chain, vXT_not, vXT_or, vXT_and, vXT_fn, vXif_nil, vXif_cons1, vVar, tat, List.map, List.replicate, List.cons_append, List.nil_append, List.append, List.getElem?_cons_zero, List.getElem?_cons_succ, List.set_cons_zero, List.set_cons_succ, vBin, vCmp, vIdx, vBi, vLen, vRange, vAbs, vMax, vMin, vInt, vMk, datsOf, vNg, vRef, vBo, vDat, vTup, vTupL, vSet, setT, setR, bind1, bindN, Option.map_some, List.length_cons, List.length_nil]
    have hm : (c, (ringL w st).map pt) ∈ (c2, (ldiscL w st).map pt) :: (c1, r.map pt) :: (c, (ringL w st).map pt) :: H := .tail _ (.tail _ (.head _))
    refine ⟨_, hm, by simp; omega, ?_⟩
    rw [List.length_map]
    refine ⟨rngD 0 ((ringL w st).length : Int), _, fun pre τ H3 => H3 = (c2, (ldiscL w st).map pt) :: (c1, r.map pt) :: (c, (ringL w st).map pt) :: H ∧
      ∃ o5 o6 o7, τ = tauR (some (.dat (.tuple (((ringL w st).map fun p => (ex + p.1, ey + p.2)).map pt)))) ex ey w st c o5 o6 o7, ⟨⟨by omega, by omega, by omega, by omega⟩, rfl, rfl⟩, ⟨rfl, none, none, none, rfl⟩, ?_, ?_⟩
    · rintro pre e post τ1 H3 he ⟨rfl, o5, o6, o7, rfl⟩
      obtain ⟨i, hi, rfl, hlt⟩ := rngD_at he
      have hi2 : i < (ringL w st).length := by omega
      have hra := List.all_eq_true.mp g6 i (List.mem_range.mpr hi2)
      dsimp only [vYs_nil, vYs_cons, vY_ret, vY_ifs, vY_asg, vY_asgT, vY_asgS, vY_sto, vY_exp, vY_for1, vY_forT, vY_whl, vY_bad, vX_int, vX_str, vX_bool, vX_var, vX_bin, vX_neg, vX_cmp, vX_ife, vX_tup, vX_lst, vX_sub, vX_rev, vX_bi, vX_fn, vX_app, vX_ext, vX_pop, vX_comp, vXs_nil, vXs_cons, vXT_cmp, vXT_chain, vXT_not, vXT_or, vXT_and, vXT_fn, vXif_nil, vXif_cons1, vVar, tat, List.map, List.replicate, List.cons_append, List.nil_append, List.append, List.getElem?_cons_zero, List.getElem?_cons_succ, List.set_cons_zero, List.set_cons_succ, vBin, vCmp, vIdx, vBi, vLen, vRange, vAbs, vMax, vMin, vInt, vMk, datsOf, vNg, vRef, vBo, vDat, vTup, vTupL, vSet, setT, setR, bind1, bindN, Option.map_some, List.length_cons, List.length_nil]
      exact v_ldr2 ⟨w0, w1⟩ hm hra (by omega) fun o6 o7 => ⟨rfl, _, o6, o7, rfl⟩
    · rintro τ1 H3 ⟨rfl, o5, o6, o7, rfl⟩
      unfold Lw_disc_right_3
      dsimp only [vYs_nil, vYs_cons, vY_ret, vY_ifs, vY_asg, vY_asgT, vY_asgS, vY_sto, vY_exp, vY_for1, vY_forT, vY_whl, vY_bad, vX_int, vX_str, vX_bool, vX_var, vX_bin, vX_neg, vX_cmp, vX_ife, vX_tup, vX_lst, vX_sub, vX_rev, vX_bi, vX_fn, vX_app, vX_ext, vX_pop, vX_comp, vXs_nil, vXs_cons, vXT_cmp, vXT_chain, vXT_not, vXT_or, vXT_and, vXT_fn, vXif_nil, vXif_cons1, vVar, tat, List.map, List.replicate, List.cons_append, List.nil_append, List.append, List.getElem?_cons_zero, List.getElem?_cons_succ, List.set_cons_zero, List.set_cons_succ, vBin, vCmp, vIdx, vBi, vLen, vRange, vAbs, vMax, vMin, vInt, vMk, datsOf, vNg, vRef, vBo, vDat, vTup, vTupL, vSet, setT, setR, bind1, bindN, Option.map_some, List.length_cons, List.length_nil]
      exact ⟨H, List.Sublist.cons _ (List.Sublist.cons _ (List.Sublist.cons _ (List.Sublist.refl _))), hR⟩
  · cases g5
end

end Mine
end

section
set_option maxRecDepth 20000
namespace Mine
section
variable {g : Gl} {Γ : Gam} {k : Nat}
noncomputable abbrev tauW (o1 o2 o3 : Option PV) (e0 e1 : Int) (o5 o6 o7 : Option PV) (n0 n1 h st : Int) (o11 o12 o13 : Option PV) : Tau :=
  [some .scr, o1, o2, o3, some (.dat (.tuple [.int e0, .int e1])), o5, o6, o7, some (.dat (.tuple [.int n0, .int n1])), some (.dat (.int h)), some (.dat (.int st)), o11, o12, o13]

theorem s_br : (("butt" : Str) = ("round" : Str)) → False := by decide +kernel
theorem s_bs : (("butt" : Str) = ("square" : Str)) → False := by decide +kernel
theorem s_sr : (("square" : Str) = ("round" : Str)) → False := by decide +kernel

theorem v_law3 (hk : 3 < k) (x12 : Str) (h12 : Γ[12]? = some (x12, 3, S_dot)) {o1 o2 o3 : Option PV} {e0 e1 n0 n1 h st : Int} {o5 o6 o7 o11 o12 o13 : Option PV} {H : Sto} {Rn : KT} {Rr : Kont}
    (hn : ∀ o11 o12 o13, Rn (tauW o1 o2 o3 e0 e1 o5 o6 o7 n0 n1 h st o11 o12 o13) H) : vYs g Γ k true Llaw_3 (tauW o1 o2 o3 e0 e1 o5 o6 o7 n0 n1 h st o11 o12 o13) H Rn Rr := by
  unfold Llaw_3
  dsimp only [vYs_nil, vYs_cons, vY_ret, vY_ifs, vY_asg, vY_asgT, vY_asgS, vY_sto, vY_exp, vY_for1, vY_forT, vY_whl, vY_bad, vX_int, vX_str, vX_bool, vX_var, vX_bin, vX_neg, vX_cmp, vX_ife, vX_tup, vX_lst, vX_sub, vX_rev, vX_bi, vX_fn, vX_app, vX_ext, vX_pop, vX_comp, vXs_nil, vXs_cons, vXT_cmp, vXT_chain, vXT_not, vXT_or, vXT_and, vXT_fn, vXif_nil, vXif_cons1, vVar, tat, List.map, List.replicate, List.cons_append, List.nil_append, List.append, List.getElem?_cons_zero, List.getElem?_cons_succ, List.set_cons_zero, List.set_cons_succ, vBin, vCmp, vIdx, vBi, vLen, vRange, vAbs, vMax, vMin, vInt, vMk, datsOf, vNg, vRef, vBo, vDat, vTup, vTupL, vSet, setT, setR, bind1, bindN, Option.map_some, List.length_cons, List.length_nil]
  refine ⟨by decide, _, idx0, by decide, _, idx1, by simp, (by trivial), ?_⟩
  unfold Llaw_2
  dsimp only [vYs_nil, vYs_cons, vY_ret, vY_ifs, vY_asg, vY_asgT, vY_asgS, vY_sto, vY_exp, vY_for1, vY_forT, vY_whl, vY_bad, vX_int, vX_str, vX_bool, vX_var, vX_bin, vX_neg, vX_cmp, vX_ife, vX_tup, vX_lst, vX_sub, vX_rev, vX_bi, vX_fn, vX_app, vX_ext, vX_pop, vX_comp, vXs_nil, vXs_cons, vXT_cmp, vXT_chain, vXT_not, vXT_or, vXT_and, vXT_fn, vXif_nil, vXif_cons1, vVar, tat, List.map, List.replicate, List.cons_append, List.nil_append, List.append, List.getElem?_cons_zero, List.getElem?_cons_succ, List.set_cons_zero, List.set_cons_succ, vBin, vCmp, vIdx, vBi, vLen, vRange, vAbs, vMax, vMin, vInt, vMk, datsOf, vNg, vRef, vBo, vDat, vTup, vTupL, vSet, setT, setR, bind1, bindN, Option.map_some, List.length_cons, List.length_nil]
  refine ⟨by simp, .inl (by decide), by simp, .inl (by decide), .inl (by decide), by simp, .inl (by decide), by simp, by simp, ?_⟩
  unfold Llaw_1
  dsimp only [vYs_nil, vYs_cons, vY_ret, vY_ifs, vY_asg, vY_asgT, vY_asgS, vY_sto, vY_exp, vY_for1, vY_forT, vY_whl, vY_bad, vX_int, vX_str, vX_bool, vX_var, vX_bin, vX_neg, vX_cmp, vX_ife, vX_tup, vX_lst, vX_sub, vX_rev, vX_bi, vX_fn, vX_app, vX_ext, vX_pop, vX_comp, vXs_nil, vXs_cons, vXT_cmp, vXT_chain, vXT_not, vXT_or, vXT_and, vXT_fn, vXif_nil, vXif_cons1, vVar, tat, List.map, List.replicate, List.cons_append, List.nil_append, List.append, List.getElem?_cons_zero, List.getElem?_cons_succ, List.set_cons_zero, List.set_cons_succ, vBin, vCmp, vIdx, vBi, vLen, vRange, vAbs, vMax, vMin, vInt, vMk, datsOf, vNg, vRef, vBo, vDat, vTup, vTupL, vSet, setT, setR, bind1, bindN, Option.map_some, List.length_cons, List.length_nil]
  repeat (first | simp only [vDef, h12, S_dot_eq] | dsimp only [vYs_nil, vYs_cons, vY_ret, vY_ifs, vY_asg, vY_asgT, vY_asgS, vY_sto, vY_exp, vY_for1, vY_forT, vY_whl, vY_bad, vX_int, vX_str, vX_bool, vX_var, vX_bin, vX_neg, vX_cmp, vX_ife, vX_tup, vX_lst, vX_sub, vX_rev, vX_bi, vX_fn, vX_app, vX_ext, vX_pop, vX_comp, vXs_nil, vXs_cons, vXT_cmp, vXT_chain, vXT_not, vXT_or, vXT_and, vXT_fn, vXif_nil, vXif_cons1, vVar, tat, List.map, List.replicate, List.cons_append, List.nil_append, List.append, List.getElem?_cons_zero, List.getElem?_cons_succ, List.set_cons_zero, List.set_cons_succ, vBin, vCmp, vIdx, vBi, vLen, vRange, vAbs, vMax, vMin, vInt, vMk, datsOf, vNg, vRef, vBo, vDat, vTup, vTupL, vSet, setT, setR, bind1, bindN, Option.map_some, List.length_cons, List.length_nil])
  refine ⟨⟨(by trivial), hk⟩, fun e => (s_sr e).elim, fun _ _ => ?_, fun _ e => absurd rfl e⟩
  refine ⟨⟨rfl, rfl⟩, fun c hc => ?_⟩
  have : c = false := by
    cases c with
    | false => rfl
    | true =>
      refine absurd ?_ (hc.mp rfl)
      have a0 : e0 + h = e0 - h + 2 * h := by omega
      have a1 : e1 + h = e1 - h + 2 * h := by omega
      rw [a0, a1]
  subst this
  rw [if_neg Bool.false_ne_true]
  exact hn _ _ _

theorem v_law7 (hk : 3 < k) (x11 x12 x18 x19 : Str) (h11 : Γ[11]? = some (x11, 3, S_cap)) (h12 : Γ[12]? = some (x12, 3, S_dot)) (h18 : Γ[18]? = some (x18, 1, S_ldr)) (h19 : Γ[19]? = some (x19, 1, S_lsq))
    {o1 o2 o3 : Option PV} {e0 e1 n0 n1 h st : Int} {o5 o6 o7 o11 o12 o13 : Option PV} {H : Sto} {Rn : KT} {Rr : Kont} (hb : boundsP e0 e1 n0 n1 h) (hh : 1 ≤ h ∧ h ≤ 9) (hs : 1 ≤ st ∧ st ≤ 4)
    (hn : ∀ o11 o12 o13, Rn (tauW o1 o2 o3 e0 e1 o5 o6 o7 n0 n1 h st o11 o12 o13) H) : vYs g Γ k true Llaw_7 (tauW o1 o2 o3 e0 e1 o5 o6 o7 n0 n1 h st o11 o12 o13) H Rn Rr := by
  unfold Llaw_7
  dsimp only [vYs_nil, vYs_cons, vY_ret, vY_ifs, vY_asg, vY_asgT, vY_asgS, vY_sto, vY_exp, vY_for1, vY_forT, vY_whl, vY_bad, vX_int, vX_str, vX_bool, vX_var, vX_bin, vX_neg, vX_cmp, vX_ife, vX_tup, vX_lst, vX_sub, vX_rev, vX_bi, vX_fn, vX_app, vX_ext, vX_pop, vX_comp, vXs_nil, vXs_cons, vXT_cmp, vXT_chain, vXT_not, vXT_or, vXT_and, vXT_fn, vXif_nil, vXif_cons1, vVar, tat, List.map, List.replicate, List.cons_append, List.nil_append, List.append, List.getElem?_cons_zero, List.getElem?_cons_succ, List.set_cons_zero, List.set_cons_succ, vBin, vCmp, vIdx, vBi, vLen, vRange, vAbs, vMax, vMin, vInt, vMk, datsOf, vNg, vRef, vBo, vDat, vTup, vTupL, vSet, setT, setR, bind1, bindN, Option.map_some, List.length_cons, List.length_nil]
  repeat (first | simp only [vDef, h11, h12, S_cap_eq, S_dot_eq] | dsimp only [vYs_nil, vYs_cons, vY_ret, vY_ifs, vY_asg, vY_asgT, vY_asgS, vY_sto, vY_exp, vY_for1, vY_forT, vY_whl, vY_bad, vX_int, vX_str, vX_bool, vX_var, vX_bin, vX_neg, vX_cmp, vX_ife, vX_tup, vX_lst, vX_sub, vX_rev, vX_bi, vX_fn, vX_app, vX_ext, vX_pop, vX_comp, vXs_nil, vXs_cons, vXT_cmp, vXT_chain, vXT_not, vXT_or, vXT_and, vXT_fn, vXif_nil, vXif_cons1, vVar, tat, List.map, List.replicate, List.cons_append, List.nil_append, List.append, List.getElem?_cons_zero, List.getElem?_cons_succ, List.set_cons_zero, List.set_cons_succ, vBin, vCmp, vIdx, vBi, vLen, vRange, vAbs, vMax, vMin, vInt, vMk, datsOf, vNg, vRef, vBo, vDat, vTup, vTupL, vSet, setT, setR, bind1, bindN, Option.map_some, List.length_cons, List.length_nil])
  refine ⟨⟨(by trivial), hk⟩, fun e => (s_br e).elim, fun _ e => (s_bs e).elim, fun _ _ => ?_⟩
  refine ⟨by decide, ⟨rfl, rfl⟩, fun c hc => ?_⟩
  have : c = false := by
    cases c with
    | false => rfl
    | true => exact absurd rfl (hc.mp rfl)
  subst this
  rw [if_neg Bool.false_ne_true]
  refine ⟨⟨(by trivial), hk⟩, fun e => (s_br e).elim, fun _ e => (s_bs e).elim, fun _ _ => ?_⟩
  refine ⟨by decide, ⟨rfl, rfl⟩, fun c hc => ?_⟩
  have : c = false := by
    cases c with
    | false => rfl
    | true => exact absurd rfl (hc.mp rfl)
  subst this
  rw [if_neg Bool.false_ne_true]
  unfold Llaw_6
  dsimp only [vYs_nil, vYs_cons, vY_ret, vY_ifs, vY_asg, vY_asgT, vY_asgS, vY_sto, vY_exp, vY_for1, vY_forT, vY_whl, vY_bad, vX_int, vX_str, vX_bool, vX_var, vX_bin, vX_neg, vX_cmp, vX_ife, vX_tup, vX_lst, vX_sub, vX_rev, vX_bi, vX_fn, vX_app, vX_ext, vX_pop, vX_comp, vXs_nil, vXs_cons, vXT_cmp, vXT_chain, vXT_not, vXT_or, vXT_and, vXT_fn, vXif_nil, vXif_cons1, vVar, tat, List.map, List.replicate, List.cons_append, List.nil_append, List.append, List.getElem?_cons_zero, List.getElem?_cons_succ, List.set_cons_zero, List.set_cons_succ, vBin, vCmp, vIdx, vBi, vLen, vRange, vAbs, vMax, vMin, vInt, vMk, datsOf, vNg, vRef, vBo, vDat, vTup, vTupL, vSet, setT, setR, bind1, bindN, Option.map_some, List.length_cons, List.length_nil]
  repeat (first | simp only [vDef, h11, h19, S_cap_eq, S_lsq_eq] | dsimp only [vYs_nil, vYs_cons, vY_ret, vY_ifs, vY_asg, vY_asgT, vY_asgS, vY_sto, vY_exp, vY_for1, vY_forT, vY_whl, vY_bad, vX_int, vX_str, vX_bool, vX_var, vX_bin, vX_neg, vX_cmp, vX_ife, vX_tup, vX_lst, vX_sub, vX_rev, vX_bi, vX_fn, vX_app, vX_ext, vX_pop, vX_comp, vXs_nil, vXs_cons, vXT_cmp, vXT_chain, vXT_not, vXT_or, vXT_and, vXT_fn, vXif_nil, vXif_cons1, vVar, tat, List.map, List.replicate, List.cons_append, List.nil_append, List.append, List.getElem?_cons_zero, List.getElem?_cons_succ, List.set_cons_zero, List.set_cons_succ, vBin, vCmp, vIdx, vBi, vLen, vRange, vAbs, vMax, vMin, vInt, vMk, datsOf, vNg, vRef, vBo, vDat, vTup, vTupL, vSet, setT, setR, bind1, bindN, Option.map_some, List.length_cons, List.length_nil])
  refine ⟨⟨(by trivial), hk⟩, fun e => (s_sr e).elim, fun _ _ => ⟨hb, fun u v hu hv => ?_⟩, fun _ e => absurd rfl e⟩
  refine ⟨⟨(by trivial), by omega⟩, ⟨hb, by omega⟩, fun u' v' hu' hv' => ?_⟩
  refine ⟨⟨rfl, rfl⟩, fun c hc => ?_⟩
  have q0 := hb.2.2.2
  have eu := NR_uniq q0 hu hu'
  have ev := NR_uniq q0 hv hv'
  subst eu
  subst ev
  have : c = false := by
    cases c with
    | false => rfl
    | true => exact absurd (sqD_cap n0 n1 u v) (hc.mp rfl)
  subst this
  rw [if_neg Bool.false_ne_true]
  unfold Llaw_5
  dsimp only [vYs_nil, vYs_cons, vY_ret, vY_ifs, vY_asg, vY_asgT, vY_asgS, vY_sto, vY_exp, vY_for1, vY_forT, vY_whl, vY_bad, vX_int, vX_str, vX_bool, vX_var, vX_bin, vX_neg, vX_cmp, vX_ife, vX_tup, vX_lst, vX_sub, vX_rev, vX_bi, vX_fn, vX_app, vX_ext, vX_pop, vX_comp, vXs_nil, vXs_cons, vXT_cmp, vXT_chain, vXT_not, vXT_or, vXT_and, vXT_fn, vXif_nil, vXif_cons1, vVar, tat, List.map, List.replicate, List.cons_append, List.nil_append, List.append, List.getElem?_cons_zero, List.getElem?_cons_succ, List.set_cons_zero, List.set_cons_succ, vBin, vCmp, vIdx, vBi, vLen, vRange, vAbs, vMax, vMin, vInt, vMk, datsOf, vNg, vRef, vBo, vDat, vTup, vTupL, vSet, setT, setR, bind1, bindN, Option.map_some, List.length_cons, List.length_nil]
  repeat (first | simp only [vDef, h11, h18, S_cap_eq, S_ldr_eq] | dsimp only [vYs_nil, vYs_cons, vY_ret, vY_ifs, vY_asg, vY_asgT, vY_asgS, vY_sto, vY_exp, vY_for1, vY_forT, vY_whl, vY_bad, vX_int, vX_str, vX_bool, vX_var, vX_bin, vX_neg, vX_cmp, vX_ife, vX_tup, vX_lst, vX_sub, vX_rev, vX_bi, vX_fn, vX_app, vX_ext, vX_pop, vX_comp, vXs_nil, vXs_cons, vXT_cmp, vXT_chain, vXT_not, vXT_or, vXT_and, vXT_fn, vXif_nil, vXif_cons1, vVar, tat, List.map, List.replicate, List.cons_append, List.nil_append, List.append, List.getElem?_cons_zero, List.getElem?_cons_succ, List.set_cons_zero, List.set_cons_succ, vBin, vCmp, vIdx, vBi, vLen, vRange, vAbs, vMax, vMin, vInt, vMk, datsOf, vNg, vRef, vBo, vDat, vTup, vTupL, vSet, setT, setR, bind1, bindN, Option.map_some, List.length_cons, List.length_nil])
  refine ⟨⟨(by trivial), hk⟩, fun _ => ⟨⟨hh, hs⟩, ?_⟩, fun e => absurd rfl e, fun e => absurd rfl e⟩
  refine ⟨⟨(by trivial), by omega⟩, ⟨(by trivial), hh, hs⟩, ?_⟩
  rw [if_neg (by decide)]
  unfold Llaw_4
  dsimp only [vYs_nil, vYs_cons, vY_ret, vY_ifs, vY_asg, vY_asgT, vY_asgS, vY_sto, vY_exp, vY_for1, vY_forT, vY_whl, vY_bad, vX_int, vX_str, vX_bool, vX_var, vX_bin, vX_neg, vX_cmp, vX_ife, vX_tup, vX_lst, vX_sub, vX_rev, vX_bi, vX_fn, vX_app, vX_ext, vX_pop, vX_comp, vXs_nil, vXs_cons, vXT_cmp, vXT_chain, vXT_not, vXT_or, vXT_and, vXT_fn, vXif_nil, vXif_cons1, vVar, tat, List.map, List.replicate, List.cons_append, List.nil_append, List.append, List.getElem?_cons_zero, List.getElem?_cons_succ, List.set_cons_zero, List.set_cons_succ, vBin, vCmp, vIdx, vBi, vLen, vRange, vAbs, vMax, vMin, vInt, vMk, datsOf, vNg, vRef, vBo, vDat, vTup, vTupL, vSet, setT, setR, bind1, bindN, Option.map_some, List.length_cons, List.length_nil]
  repeat (first | simp only [vDef, h12, h18, S_dot_eq, S_ldr_eq] | dsimp only [vYs_nil, vYs_cons, vY_ret, vY_ifs, vY_asg, vY_asgT, vY_asgS, vY_sto, vY_exp, vY_for1, vY_forT, vY_whl, vY_bad, vX_int, vX_str, vX_bool, vX_var, vX_bin, vX_neg, vX_cmp, vX_ife, vX_tup, vX_lst, vX_sub, vX_rev, vX_bi, vX_fn, vX_app, vX_ext, vX_pop, vX_comp, vXs_nil, vXs_cons, vXT_cmp, vXT_chain, vXT_not, vXT_or, vXT_and, vXT_fn, vXif_nil, vXif_cons1, vVar, tat, List.map, List.replicate, List.cons_append, List.nil_append, List.append, List.getElem?_cons_zero, List.getElem?_cons_succ, List.set_cons_zero, List.set_cons_succ, vBin, vCmp, vIdx, vBi, vLen, vRange, vAbs, vMax, vMin, vInt, vMk, datsOf, vNg, vRef, vBo, vDat, vTup, vTupL, vSet, setT, setR, bind1, bindN, Option.map_some, List.length_cons, List.length_nil])
  refine ⟨⟨(by trivial), hk⟩, fun _ => ⟨⟨hh, hs⟩, ?_⟩, fun e => absurd rfl e, fun e => absurd rfl e⟩
  refine ⟨⟨(by trivial), by omega⟩, ⟨(by trivial), hh, hs⟩, ?_⟩
  rw [if_neg (by decide)]
  exact v_law3 hk x12 h12 hn

noncomputable def srcOk (a : Addr) (post H : Sto) : Prop := ∃ G A B, H = G ++ (a, [.int A, .int B]) :: post ∧ 0 ≤ A ∧ 0 ≤ B ∧ B < 2147483647

theorem v_law11 (hk : 3 < k) (x11 x12 x14 x15 x18 x19 : Str) (h11 : Γ[11]? = some (x11, 3, S_cap)) (h12 : Γ[12]? = some (x12, 3, S_dot)) (h14 : Γ[14]? = some (x14, 0, S_take)) (h15 : Γ[15]? = some (x15, 1, S_one)) (h18 : Γ[18]? = some (x18, 1, S_ldr)) (h19 : Γ[19]? = some (x19, 1, S_lsq))
    {o1 o3 o4 o5 o6 o7 o8 o9 o10 o11 o12 o13 : Option PV} {a : Addr} {post H : Sto} {Rn : KT} {Rr : Kont} (hs : srcOk a post H)
    (hn : ∀ o4 o5 o6 o7 o8 o9 o10 o11 o12 o13 H', srcOk a post H' → Rn [some .scr, o1, some (.ref a), o3, o4, o5, o6, o7, o8, o9, o10, o11, o12, o13] H') :
    vYs g Γ k true Llaw_11 [some .scr, o1, some (.ref a), o3, o4, o5, o6, o7, o8, o9, o10, o11, o12, o13] H Rn Rr := by
  obtain ⟨G, A, B, rfl, hA, hB, hB'⟩ := hs
  unfold Llaw_11
  dsimp only [vYs_nil, vYs_cons, vY_ret, vY_ifs, vY_asg, vY_asgT, vY_asgS, vY_sto, vY_exp, vY_for1, vY_forT, vY_whl, vY_bad, vX_int, vX_str, vX_bool, vX_var, vX_bin, vX_neg, vX_cmp, vX_ife, vX_tup, vX_lst, vX_sub, vX_rev, vX_bi, vX_fn, vX_app, vX_ext, vX_pop, vX_comp, vXs_nil, vXs_cons, vXT_cmp, vXT_chain, vXT_not, vXT_or, vXT_and, vXT_fn, vXif_nil, vXif_cons1, vVar, tat, List.map, List.replicate, List.cons_append, List.nil_append, List.append, List.getElem?_cons_zero, List.getElem?_cons_succ, List.set_cons_zero, List.set_cons_succ, vBin, vCmp, vIdx, vBi, vLen, vRange, vAbs, vMax, vMin, vInt, vMk, datsOf, vNg, vRef, vBo, vDat, vTup, vTupL, vSet, setT, setR, bind1, bindN, Option.map_some, List.length_cons, List.length_nil]
  repeat (first | simp only [vDef, h14, S_take_eq] | dsimp only [vYs_nil, vYs_cons, vY_ret, vY_ifs, vY_asg, vY_asgT, vY_asgS, vY_sto, vY_exp, vY_for1, vY_forT, vY_whl, vY_bad, vX_int, vX_str, vX_bool, vX_var, vX_bin, vX_neg, vX_cmp, vX_ife, vX_tup, vX_lst, vX_sub, vX_rev, vX_bi, vX_fn, vX_app, vX_ext, vX_pop, vX_comp, vXs_nil, vXs_cons, vXT_cmp, vXT_chain, vXT_not, vXT_or, vXT_and, vXT_fn, vXif_nil, vXif_cons1, vVar, tat, List.map, List.replicate, List.cons_append, List.nil_append, List.append, List.getElem?_cons_zero, List.getElem?_cons_succ, List.set_cons_zero, List.set_cons_succ, vBin, vCmp, vIdx, vBi, vLen, vRange, vAbs, vMax, vMin, vInt, vMk, datsOf, vNg, vRef, vBo, vDat, vTup, vTupL, vSet, setT, setR, bind1, bindN, Option.map_some, List.length_cons, List.length_nil])
  refine ⟨⟨(by trivial), by omega⟩, G, A, B, post, rfl, ⟨hA, hB, hB'⟩, by decide, fun r1 A1 B1 r1a r1b hA1 hB1 hB1' => ?_⟩
  refine ⟨⟨(by trivial), by omega⟩, G, A1, B1, post, rfl, ⟨hA1, hB1, hB1'⟩, by decide, fun r2 A2 B2 r2a r2b hA2 hB2 hB2' => ?_⟩
  refine ⟨by simp, ?_⟩
  clear hA hB hB' hA1 hB1 hB1'
  unfold Llaw_10
  dsimp only [vYs_nil, vYs_cons, vY_ret, vY_ifs, vY_asg, vY_asgT, vY_asgS, vY_sto, vY_exp, vY_for1, vY_forT, vY_whl, vY_bad, vX_int, vX_str, vX_bool, vX_var, vX_bin, vX_neg, vX_cmp, vX_ife, vX_tup, vX_lst, vX_sub, vX_rev, vX_bi, vX_fn, vX_app, vX_ext, vX_pop, vX_comp, vXs_nil, vXs_cons, vXT_cmp, vXT_chain, vXT_not, vXT_or, vXT_and, vXT_fn, vXif_nil, vXif_cons1, vVar, tat, List.map, List.replicate, List.cons_append, List.nil_append, List.append, List.getElem?_cons_zero, List.getElem?_cons_succ, List.set_cons_zero, List.set_cons_succ, vBin, vCmp, vIdx, vBi, vLen, vRange, vAbs, vMax, vMin, vInt, vMk, datsOf, vNg, vRef, vBo, vDat, vTup, vTupL, vSet, setT, setR, bind1, bindN, Option.map_some, List.length_cons, List.length_nil]
  repeat (first | simp only [vDef, h14, S_take_eq] | dsimp only [vYs_nil, vYs_cons, vY_ret, vY_ifs, vY_asg, vY_asgT, vY_asgS, vY_sto, vY_exp, vY_for1, vY_forT, vY_whl, vY_bad, vX_int, vX_str, vX_bool, vX_var, vX_bin, vX_neg, vX_cmp, vX_ife, vX_tup, vX_lst, vX_sub, vX_rev, vX_bi, vX_fn, vX_app, vX_ext, vX_pop, vX_comp, vXs_nil, vXs_cons, vXT_cmp, vXT_chain, vXT_not, vXT_or, vXT_and, vXT_fn, vXif_nil, vXif_cons1, vVar, tat, List.map, List.replicate, List.cons_append, List.nil_append, List.append, List.getElem?_cons_zero, List.getElem?_cons_succ, List.set_cons_zero, List.set_cons_succ, vBin, vCmp, vIdx, vBi, vLen, vRange, vAbs, vMax, vMin, vInt, vMk, datsOf, vNg, vRef, vBo, vDat, vTup, vTupL, vSet, setT, setR, bind1, bindN, Option.map_some, List.length_cons, List.length_nil])
  refine ⟨⟨(by trivial), by omega⟩, G, A2, B2, post, rfl, ⟨hA2, hB2, hB2'⟩, by decide, fun r3 A3 B3 r3a r3b hA3 hB3 hB3' => ?_⟩
  refine ⟨⟨(by trivial), by omega⟩, G, A3, B3, post, rfl, ⟨hA3, hB3, hB3'⟩, by decide, fun r4 A4 B4 r4a r4b hA4 hB4 hB4' => ?_⟩
  refine ⟨by simp, ?_⟩
  clear hA2 hB2 hB2' hA3 hB3 hB3'
  unfold Llaw_9
  dsimp only [vYs_nil, vYs_cons, vY_ret, vY_ifs, vY_asg, vY_asgT, vY_asgS, vY_sto, vY_exp, vY_for1, vY_forT, vY_whl, vY_bad, vX_int, vX_str, vX_bool, vX_var, vX_bin, vX_neg, vX_cmp, vX_ife, vX_tup, vX_lst, vX_sub, vX_rev, vX_bi, vX_fn, vX_app, vX_ext, vX_pop, vX_comp, vXs_nil, vXs_cons, vXT_cmp, vXT_chain, vXT_not, vXT_or, vXT_and, vXT_fn, vXif_nil, vXif_cons1, vVar, tat, List.map, List.replicate, List.cons_append, List.nil_append, List.append, List.getElem?_cons_zero, List.getElem?_cons_succ, List.set_cons_zero, List.set_cons_succ, vBin, vCmp, vIdx, vBi, vLen, vRange, vAbs, vMax, vMin, vInt, vMk, datsOf, vNg, vRef, vBo, vDat, vTup, vTupL, vSet, setT, setR, bind1, bindN, Option.map_some, List.length_cons, List.length_nil]
  refine ⟨by simp, by simp, by simp, by simp, by simp, fun lt => ?_⟩
  repeat (first | simp only [vDef, h15, S_one_eq] | dsimp only [vYs_nil, vYs_cons, vY_ret, vY_ifs, vY_asg, vY_asgT, vY_asgS, vY_sto, vY_exp, vY_for1, vY_forT, vY_whl, vY_bad, vX_int, vX_str, vX_bool, vX_var, vX_bin, vX_neg, vX_cmp, vX_ife, vX_tup, vX_lst, vX_sub, vX_rev, vX_bi, vX_fn, vX_app, vX_ext, vX_pop, vX_comp, vXs_nil, vXs_cons, vXT_cmp, vXT_chain, vXT_not, vXT_or, vXT_and, vXT_fn, vXif_nil, vXif_cons1, vVar, tat, List.map, List.replicate, List.cons_append, List.nil_append, List.append, List.getElem?_cons_zero, List.getElem?_cons_succ, List.set_cons_zero, List.set_cons_succ, vBin, vCmp, vIdx, vBi, vLen, vRange, vAbs, vMax, vMin, vInt, vMk, datsOf, vNg, vRef, vBo, vDat, vTup, vTupL, vSet, setT, setR, bind1, bindN, Option.map_some, List.length_cons, List.length_nil])
  refine ⟨⟨(by trivial), by omega⟩, (lt, _) :: G, A4, B4, post, _, rfl, .head _, ⟨hA4, hB4, hB4'⟩, by simp, fun e A5 B5 he hA5 hB5 hB5' => ?_⟩
  obtain ⟨x, y, rfl, x0, x1, y0, y1, xy⟩ : ∃ x y, e = .tuple [.int x, .int y] ∧ -10 ≤ x ∧ x ≤ 10 ∧ -10 ≤ y ∧ y ≤ 10 ∧ (x ≠ 0 ∨ y ≠ 0) := by
    simp only [List.mem_cons, List.not_mem_nil, or_false] at he
    rcases he with rfl | rfl | rfl | rfl | rfl | rfl
    · exact ⟨_, _, rfl, by omega, by omega, by omega, by omega, by omega⟩
    · exact ⟨_, _, rfl, by omega, by omega, by omega, by omega, by omega⟩
    · exact ⟨_, _, rfl, by omega, by omega, by omega, by omega, by omega⟩
    · exact ⟨_, _, rfl, by omega, by omega, by omega, by omega, by omega⟩
    · exact ⟨_, _, rfl, by omega, by omega, by omega, by omega, by omega⟩
    · exact ⟨_, _, rfl, by omega, by omega, by omega, by omega, by omega⟩
  dsimp only [vYs_nil, vYs_cons, vY_ret, vY_ifs, vY_asg, vY_asgT, vY_asgS, vY_sto, vY_exp, vY_for1, vY_forT, vY_whl, vY_bad, vX_int, vX_str, vX_bool, vX_var, vX_bin, vX_neg, vX_cmp, vX_ife, vX_tup, vX_lst, vX_sub, vX_rev, vX_bi, vX_fn, vX_app, vX_ext, vX_pop, vX_comp, vXs_nil, vXs_cons, vXT_cmp, vXT_chain, vXT_not, vXT_or, vXT_and, vXT_fn, vXif_nil, vXif_cons1, vVar, tat, List.map, List.replicate, List.cons_append, List.nil_append, List.append, List.getElem?_cons_zero, List.getElem?_cons_succ, List.set_cons_zero, List.set_cons_succ, vBin, vCmp, vIdx, vBi, vLen, vRange, vAbs, vMax, vMin, vInt, vMk, datsOf, vNg, vRef, vBo, vDat, vTup, vTupL, vSet, setT, setR, bind1, bindN, Option.map_some, List.length_cons, List.length_nil]
  clear he hA4 hB4 hB4'
  unfold Llaw_8
  dsimp only [vYs_nil, vYs_cons, vY_ret, vY_ifs, vY_asg, vY_asgT, vY_asgS, vY_sto, vY_exp, vY_for1, vY_forT, vY_whl, vY_bad, vX_int, vX_str, vX_bool, vX_var, vX_bin, vX_neg, vX_cmp, vX_ife, vX_tup, vX_lst, vX_sub, vX_rev, vX_bi, vX_fn, vX_app, vX_ext, vX_pop, vX_comp, vXs_nil, vXs_cons, vXT_cmp, vXT_chain, vXT_not, vXT_or, vXT_and, vXT_fn, vXif_nil, vXif_cons1, vVar, tat, List.map, List.replicate, List.cons_append, List.nil_append, List.append, List.getElem?_cons_zero, List.getElem?_cons_succ, List.set_cons_zero, List.set_cons_succ, vBin, vCmp, vIdx, vBi, vLen, vRange, vAbs, vMax, vMin, vInt, vMk, datsOf, vNg, vRef, vBo, vDat, vTup, vTupL, vSet, setT, setR, bind1, bindN, Option.map_some, List.length_cons, List.length_nil]
  refine ⟨by decide, _, idx0, by decide, _, idx1, by simp, ?_⟩
  repeat (first | simp only [vDef, h14, S_take_eq] | dsimp only [vYs_nil, vYs_cons, vY_ret, vY_ifs, vY_asg, vY_asgT, vY_asgS, vY_sto, vY_exp, vY_for1, vY_forT, vY_whl, vY_bad, vX_int, vX_str, vX_bool, vX_var, vX_bin, vX_neg, vX_cmp, vX_ife, vX_tup, vX_lst, vX_sub, vX_rev, vX_bi, vX_fn, vX_app, vX_ext, vX_pop, vX_comp, vXs_nil, vXs_cons, vXT_cmp, vXT_chain, vXT_not, vXT_or, vXT_and, vXT_fn, vXif_nil, vXif_cons1, vVar, tat, List.map, List.replicate, List.cons_append, List.nil_append, List.append, List.getElem?_cons_zero, List.getElem?_cons_succ, List.set_cons_zero, List.set_cons_succ, vBin, vCmp, vIdx, vBi, vLen, vRange, vAbs, vMax, vMin, vInt, vMk, datsOf, vNg, vRef, vBo, vDat, vTup, vTupL, vSet, setT, setR, bind1, bindN, Option.map_some, List.length_cons, List.length_nil])
  refine ⟨⟨(by trivial), by omega⟩, (lt, _) :: G, A5, B5, post, rfl, ⟨hA5, hB5, hB5'⟩, by decide, fun r5 A6 B6 r5a r5b hA6 hB6 hB6' => ?_⟩
  refine ⟨⟨(by trivial), by omega⟩, (lt, _) :: G, A6, B6, post, rfl, ⟨hA6, hB6, hB6'⟩, by decide, fun r6 A7 B7 r6a r6b hA7 hB7 hB7' => ?_⟩
  refine ⟨by simp, by simp, ?_⟩
  dsimp only [vYs_nil, vYs_cons, vY_ret, vY_ifs, vY_asg, vY_asgT, vY_asgS, vY_sto, vY_exp, vY_for1, vY_forT, vY_whl, vY_bad, vX_int, vX_str, vX_bool, vX_var, vX_bin, vX_neg, vX_cmp, vX_ife, vX_tup, vX_lst, vX_sub, vX_rev, vX_bi, vX_fn, vX_app, vX_ext, vX_pop, vX_comp, vXs_nil, vXs_cons, vXT_cmp, vXT_chain, vXT_not, vXT_or, vXT_and, vXT_fn, vXif_nil, vXif_cons1, vVar, tat, List.map, List.replicate, List.cons_append, List.nil_append, List.append, List.getElem?_cons_zero, List.getElem?_cons_succ, List.set_cons_zero, List.set_cons_succ, vBin, vCmp, vIdx, vBi, vLen, vRange, vAbs, vMax, vMin, vInt, vMk, datsOf, vNg, vRef, vBo, vDat, vTup, vTupL, vSet, setT, setR, bind1, bindN, Option.map_some, List.length_cons, List.length_nil]
  have nn : ∀ t : Int, 0 ≤ t * t := fun t => by
    rcases Int.le_total 0 t with h | h
    · exact Int.mul_nonneg h h
    · exact Int.mul_nonneg_of_nonpos_of_nonpos h h
  have np : ∀ t : Int, t ≠ 0 → 0 < t * t := fun t ht => by
    rcases Int.lt_or_gt_of_ne ht with h | h
    · exact Int.mul_pos_of_neg_of_neg h h
    · exact Int.mul_pos h h
  have q0 : 0 < x * x + y * y := by
    have := nn x
    have := nn y
    rcases xy with h | h
    · have := np x h
      omega
    · have := np y h
      omega
  have ex : r1 - 20 + x - (r1 - 20) = x := by omega
  have ey : r2 - 20 + y - (r2 - 20) = y := by omega
  refine v_law7 hk x11 x12 x18 x19 h11 h12 h18 h19 ?_ (by omega) (by omega) fun o11 o12 o13 => hn _ _ _ _ _ _ _ _ _ _ _ ⟨(lt, _) :: G, A7, B7, rfl, hA7, hB7, hB7'⟩
  unfold boundsP
  rw [ex, ey]
  exact ⟨by omega, by omega, by omega, q0⟩
end

end Mine
end

section
set_option maxRecDepth 20000
namespace Mine
section
variable {g : Gl} {Γ : Gam} {k : Nat}

theorem NR_a : NR ((0 - 0) * 2) ((9 - 0) * (9 - 0) + (0 - 0) * (0 - 0)) 0 := ⟨0, by decide, by decide, by decide, by decide⟩
theorem NR_b : NR (-(9 - 0) * 2) ((9 - 0) * (9 - 0) + (0 - 0) * (0 - 0)) (-2) := ⟨2, by decide, by decide, by decide, by decide⟩

theorem v_law (hk : 3 < k) (x11 x12 x13 x14 x15 x18 x19 : Str) (h11 : Γ[11]? = some (x11, 3, S_cap)) (h12 : Γ[12]? = some (x12, 3, S_dot)) (h13 : Γ[13]? = some (x13, 0, S_pool)) (h14 : Γ[14]? = some (x14, 0, S_take)) (h15 : Γ[15]? = some (x15, 1, S_one)) (h18 : Γ[18]? = some (x18, 1, S_ldr)) (h19 : Γ[19]? = some (x19, 1, S_lsq)) (H : Sto) :
    vYs g Γ k true Llaw ([PV.scr].map some ++ List.replicate 13 none) H (fun _ _ => False) (fun p _ => p = .dat (.bool true)) := by
  unfold Llaw
  dsimp only [vYs_nil, vYs_cons, vY_ret, vY_ifs, vY_asg, vY_asgT, vY_asgS, vY_sto, vY_exp, vY_for1, vY_forT, vY_whl, vY_bad, vX_int, vX_str, vX_bool, vX_var, vX_bin, vX_neg, vX_cmp, vX_ife, vX_tup, vX_lst, vX_sub, vX_rev, vX_bi, vX_fn, vX_app, vX_ext, vX_pop, vX_comp, vXs_nil, vXs_cons, vXT_cmp, vXT_chain, vXT_not, vXT_or, vXT_and, vXT_fn, vXif_nil, vXif_cons1, vVar, tat, List.map, List.replicate, List.cons_append, List.nil_append, List.append, List.getElem?_cons_zero, List.getElem?_cons_succ, List.set_cons_zero, List.set_cons_succ, vBin, vCmp, vIdx, vBi, vLen, vRange, vAbs, vMax, vMin, vInt, vMk, datsOf, vNg, vRef, vBo, vDat, vTup, vTupL, vSet, setT, setR, bind1, bindN, Option.map_some, List.length_cons, List.length_nil]
  generalize hm : (if (if (2 : Int) < ↑g.scrN.length then (2 : Int) else ↑g.scrN.length) > 1 then (if (2 : Int) < ↑g.scrN.length then (2 : Int) else ↑g.scrN.length) else 1) = m
  have hm2 : 1 ≤ m ∧ m ≤ 2 := by
    split at hm <;> split at hm <;> omega
  refine ⟨rngD 0 m, H, fun pre τ H3 => ∃ o1 o2 o3 o4 o5 o6 o7 o8 o9 o10 o11 o12 o13, τ = [some .scr, o1, o2, o3, o4, o5, o6, o7, o8, o9, o10, o11, o12, o13], ?_, ⟨none, none, none, none, none, none, none, none, none, none, none, none, none, rfl⟩, ?_, ?_⟩
  · refine ⟨⟨by omega, by omega, by omega, by omega⟩, ?_, rfl⟩
    first | rfl | (rw [← hm]) | (subst hm; rfl)
  · rintro pre e post τ1 H3 he ⟨o1, o2, o3, o4, o5, o6, o7, o8, o9, o10, o11, o12, o13, rfl⟩
    obtain ⟨i, hi, rfl, hlt⟩ := rngD_at he
    unfold Llaw_13
    dsimp only [vYs_nil, vYs_cons, vY_ret, vY_ifs, vY_asg, vY_asgT, vY_asgS, vY_sto, vY_exp, vY_for1, vY_forT, vY_whl, vY_bad, vX_int, vX_str, vX_bool, vX_var, vX_bin, vX_neg, vX_cmp, vX_ife, vX_tup, vX_lst, vX_sub, vX_rev, vX_bi, vX_fn, vX_app, vX_ext, vX_pop, vX_comp, vXs_nil, vXs_cons, vXT_cmp, vXT_chain, vXT_not, vXT_or, vXT_and, vXT_fn, vXif_nil, vXif_cons1, vVar, tat, List.map, List.replicate, List.cons_append, List.nil_append, List.append, List.getElem?_cons_zero, List.getElem?_cons_succ, List.set_cons_zero, List.set_cons_succ, vBin, vCmp, vIdx, vBi, vLen, vRange, vAbs, vMax, vMin, vInt, vMk, datsOf, vNg, vRef, vBo, vDat, vTup, vTupL, vSet, setT, setR, bind1, bindN, Option.map_some, List.length_cons, List.length_nil]
    repeat (first | simp only [vDef, h13, S_pool_eq] | dsimp only [vYs_nil, vYs_cons, vY_ret, vY_ifs, vY_asg, vY_asgT, vY_asgS, vY_sto, vY_exp, vY_for1, vY_forT, vY_whl, vY_bad, vX_int, vX_str, vX_bool, vX_var, vX_bin, vX_neg, vX_cmp, vX_ife, vX_tup, vX_lst, vX_sub, vX_rev, vX_bi, vX_fn, vX_app, vX_ext, vX_pop, vX_comp, vXs_nil, vXs_cons, vXT_cmp, vXT_chain, vXT_not, vXT_or, vXT_and, vXT_fn, vXif_nil, vXif_cons1, vVar, tat, List.map, List.replicate, List.cons_append, List.nil_append, List.append, List.getElem?_cons_zero, List.getElem?_cons_succ, List.set_cons_zero, List.set_cons_succ, vBin, vCmp, vIdx, vBi, vLen, vRange, vAbs, vMax, vMin, vInt, vMk, datsOf, vNg, vRef, vBo, vDat, vTup, vTupL, vSet, setT, setR, bind1, bindN, Option.map_some, List.length_cons, List.length_nil])
    refine ⟨⟨(by trivial), by omega⟩, ⟨by omega, by omega⟩, fun a A B hA hB hB' => ?_⟩
    unfold Llaw_12
    dsimp only [vYs_nil, vYs_cons, vY_ret, vY_ifs, vY_asg, vY_asgT, vY_asgS, vY_sto, vY_exp, vY_for1, vY_forT, vY_whl, vY_bad, vX_int, vX_str, vX_bool, vX_var, vX_bin, vX_neg, vX_cmp, vX_ife, vX_tup, vX_lst, vX_sub, vX_rev, vX_bi, vX_fn, vX_app, vX_ext, vX_pop, vX_comp, vXs_nil, vXs_cons, vXT_cmp, vXT_chain, vXT_not, vXT_or, vXT_and, vXT_fn, vXif_nil, vXif_cons1, vVar, tat, List.map, List.replicate, List.cons_append, List.nil_append, List.append, List.getElem?_cons_zero, List.getElem?_cons_succ, List.set_cons_zero, List.set_cons_succ, vBin, vCmp, vIdx, vBi, vLen, vRange, vAbs, vMax, vMin, vInt, vMk, datsOf, vNg, vRef, vBo, vDat, vTup, vTupL, vSet, setT, setR, bind1, bindN, Option.map_some, List.length_cons, List.length_nil]
    refine ⟨rngD 0 3, (a, [.int A, .int B]) :: H3, fun pre τ H4 => srcOk a H3 H4 ∧ ∃ o1 o3 o4 o5 o6 o7 o8 o9 o10 o11 o12 o13, τ = [some .scr, o1, some (.ref a), o3, o4, o5, o6, o7, o8, o9, o10, o11, o12, o13], ⟨⟨by omega, by omega, by omega, by omega⟩, rfl, rfl⟩,
      ⟨⟨[], A, B, rfl, hA, hB, hB'⟩, _, _, _, _, _, _, _, _, _, _, _, _, rfl⟩, ?_, ?_⟩
    · rintro pre2 e2 post2 τ2 H4 he2 ⟨hs, o1, o3, o4, o5, o6, o7, o8, o9, o10, o11, o12, o13, rfl⟩
      obtain ⟨i2, hi2, rfl, hlt2⟩ := rngD_at he2
      simp only [bind1, vSet, List.set_cons_zero, List.set_cons_succ]
      exact v_law11 hk x11 x12 x14 x15 x18 x19 h11 h12 h14 h15 h18 h19 hs fun o4 o5 o6 o7 o8 o9 o10 o11 o12 o13 H' hs' => ⟨hs', _, _, _, _, _, _, _, _, _, _, _, _, rfl⟩
    · rintro τ2 H4 ⟨hs, o1, o3, o4, o5, o6, o7, o8, o9, o10, o11, o12, o13, rfl⟩
      exact ⟨_, _, _, _, _, _, _, _, _, _, _, _, _, rfl⟩
  · rintro τ1 H3 ⟨o1, o2, o3, o4, o5, o6, o7, o8, o9, o10, o11, o12, o13, rfl⟩
    unfold Llaw_14
    dsimp only [vYs_nil, vYs_cons, vY_ret, vY_ifs, vY_asg, vY_asgT, vY_asgS, vY_sto, vY_exp, vY_for1, vY_forT, vY_whl, vY_bad, vX_int, vX_str, vX_bool, vX_var, vX_bin, vX_neg, vX_cmp, vX_ife, vX_tup, vX_lst, vX_sub, vX_rev, vX_bi, vX_fn, vX_app, vX_ext, vX_pop, vX_comp, vXs_nil, vXs_cons, vXT_cmp, vXT_chain, vXT_not, vXT_or, vXT_and, vXT_fn, vXif_nil, vXif_cons1, vVar, tat, List.map, List.replicate, List.cons_append, List.nil_append, List.append, List.getElem?_cons_zero, List.getElem?_cons_succ, List.set_cons_zero, List.set_cons_succ, vBin, vCmp, vIdx, vBi, vLen, vRange, vAbs, vMax, vMin, vInt, vMk, datsOf, vNg, vRef, vBo, vDat, vTup, vTupL, vSet, setT, setR, bind1, bindN, Option.map_some, List.length_cons, List.length_nil]
    refine ⟨by simp, by simp, ?_⟩
    repeat (first | simp only [vDef, h11, S_cap_eq] | dsimp only [vYs_nil, vYs_cons, vY_ret, vY_ifs, vY_asg, vY_asgT, vY_asgS, vY_sto, vY_exp, vY_for1, vY_forT, vY_whl, vY_bad, vX_int, vX_str, vX_bool, vX_var, vX_bin, vX_neg, vX_cmp, vX_ife, vX_tup, vX_lst, vX_sub, vX_rev, vX_bi, vX_fn, vX_app, vX_ext, vX_pop, vX_comp, vXs_nil, vXs_cons, vXT_cmp, vXT_chain, vXT_not, vXT_or, vXT_and, vXT_fn, vXif_nil, vXif_cons1, vVar, tat, List.map, List.replicate, List.cons_append, List.nil_append, List.append, List.getElem?_cons_zero, List.getElem?_cons_succ, List.set_cons_zero, List.set_cons_succ, vBin, vCmp, vIdx, vBi, vLen, vRange, vAbs, vMax, vMin, vInt, vMk, datsOf, vNg, vRef, vBo, vDat, vTup, vTupL, vSet, setT, setR, bind1, bindN, Option.map_some, List.length_cons, List.length_nil])
    refine ⟨⟨(by trivial), hk⟩, fun e => (s_sr e).elim, fun _ _ => ⟨?_, fun u v hu hv => ?_⟩, fun _ e => absurd rfl e⟩
    · unfold boundsP
      decide
    have q0 : (0 : Int) < (9 - 0) * (9 - 0) + (0 - 0) * (0 - 0) := by decide
    have eu := NR_uniq q0 hu NR_a
    have ev := NR_uniq q0 hv NR_b
    subst eu
    subst ev
    refine ⟨by simp, by simp, by simp, by simp, by simp, ⟨rfl, rfl⟩, fun c hc => ?_⟩
    have : c = true := hc.mpr rfl
    rw [this]
end

end Mine
end

section
set_option maxRecDepth 20000
namespace Mine
/-! The head by hand: the view (all top statements but the six assigns that the law does not reach), a small piece of the heap after the top, its hook. -/
noncomputable abbrev rrow : RowW := PySem.Challenge.rw_on0230_01.row.toRowW
noncomputable def stsOf : List Stmt := rrow.prog.main.body
noncomputable def vw : Program := { rrow.prog with main := { rrow.prog.main with body := (stsOf.drop 1).take 2 ++ ((stsOf.drop 4).take 1 ++ ((stsOf.drop 6).take 7 ++ ((stsOf.drop 14).take 2 ++ ((stsOf.drop 17).take 3 ++ stsOf.drop 21)))) } }
noncomputable def defAt (n : Str) := (rrow.prog.theDef n).getD (⟨[],[],none,[],[],none,[]⟩, [], { kind := .function, names := [], isGenerator := false, isCoroutine := false })
noncomputable def fO (n m : Str) (t : Nat) (c : Addr) : Obj := { cls := Value.type "function", data := Data.func { name := n, qualname := n, params := (defAt n).1, body := .stmts (defAt n).2.1, scope := (defAt n).2.2, globals := 3, closure := [], defaults := Value.none, kwdefaults := Value.none, pyModule := Value.str m t, code := Value.ref c } }
noncomputable def dE (P : Params) (n : Str) (t : Nat) (v : Value) : DictEntry := { hash := PyData.keyHash P n, key := Value.str n t, val := v }
noncomputable def heapK : Params → Frag := fun P =>
  [(3, { cls := Value.type "dict", data := Data.dict #[dE P "__name__" 165 (Value.str "law_on0230_01" 369),
      dE P "__doc__" 166 (Value.none),
      dE P "__package__" 167 (Value.none),
      dE P "__loader__" 168 (Value.builtin "__main__.__loader__#opaque"),
      dE P "__spec__" 169 (Value.none),
      dE P "__annotations__" 170 (Value.ref 6),
      dE P "__builtins__" 171 (Value.ref 4),
      dE P "__file__" 173 (Value.str "/claim/cut.py" 172),
      dE P "__cached__" 174 (Value.none),
      dE P "MillError" 217 (Value.ref 31),
      dE P "NumberFault" 233 (Value.ref 44),
      dE P "root_floor" 244 (Value.ref 53),
      dE P "nearest_root_share" 256 (Value.ref 60),
      dE P "nearest_share" 265 (Value.ref 67),
      dE P "way_of" 273 (Value.ref 74),
      dE P "moved_by" 281 (Value.ref 81),
      dE P "turned_about" 288 (Value.ref 88),
      dE P "normal_of" 300 (Value.ref 95),
      dE P "along_of" 307 (Value.ref 102),
      dE P "eighth" 324 (Value.ref 109),
      dE P "disc_about" 330 (Value.ref 114),
      dE P "square_about" 342 (Value.ref 121),
      dE P "cap_spots" 358 (Value.ref 128),
      dE P "dot_spots" 368 (Value.ref 135),
      dE P "_law_pool" 381 (Value.ref 142),
      dE P "_law_take" 390 (Value.ref 149),
      dE P "_law_one" 398 (Value.ref 156),
      dE P "_law_normal" 404 (Value.ref 161),
      dE P "_law_disc" 422 (Value.ref 168),
      dE P "_law_disc_right" 428 (Value.ref 173),
      dE P "_law_square" 441 (Value.ref 180),
      dE P "law" 461 (Value.ref 187)] 32 }),
   (52, { cls := Value.type "code", data := Data.fields #[Value.str "root_floor" 236, Value.str "root_floor" 237, Value.str "/claim/cut.py" 238, Value.int 9 0, Value.int 1 0, Value.int 0 0, Value.int 0 0, Value.int 3 0, Value.ref 47, Value.bool true, Value.int 181 0, Value.ref 48, Value.none, Value.ref 49, Value.ref 50, Value.ref 51, Value.int 242 0, Value.int 9 0, Value.str "/claim/cut.py" 243] }),
   (53, fO "root_floor" "outlinemill.exact" 234 52),
   (59, { cls := Value.type "code", data := Data.fields #[Value.str "nearest_root_share" 247, Value.str "nearest_root_share" 248, Value.str "/claim/cut.py" 249, Value.int 23 0, Value.int 2 0, Value.int 0 0, Value.int 0 0, Value.int 3 0, Value.ref 54, Value.bool true, Value.int 181 0, Value.ref 55, Value.none, Value.ref 56, Value.ref 57, Value.ref 58, Value.int 254 0, Value.int 23 0, Value.str "/claim/cut.py" 255] }),
   (60, fO "nearest_root_share" "outlinemill.offsets" 245 59),
   (66, { cls := Value.type "code", data := Data.fields #[Value.str "nearest_share" 257, Value.str "nearest_share" 258, Value.str "/claim/cut.py" 259, Value.int 27 0, Value.int 2 0, Value.int 0 0, Value.int 0 0, Value.int 3 0, Value.ref 61, Value.bool true, Value.int 181 0, Value.ref 62, Value.none, Value.ref 63, Value.ref 64, Value.ref 65, Value.int 263 0, Value.int 27 0, Value.str "/claim/cut.py" 264] }),
   (67, fO "nearest_share" "outlinemill.offsets" 245 66),
   (73, { cls := Value.type "code", data := Data.fields #[Value.str "way_of" 266, Value.str "way_of" 267, Value.str "/claim/cut.py" 268, Value.int 30 0, Value.int 2 0, Value.int 0 0, Value.int 0 0, Value.int 3 0, Value.ref 68, Value.bool true, Value.int 181 0, Value.ref 69, Value.none, Value.ref 70, Value.ref 71, Value.ref 72, Value.int 271 0, Value.int 30 0, Value.str "/claim/cut.py" 272] }),
   (74, fO "way_of" "outlinemill.offsets" 245 73),
   (80, { cls := Value.type "code", data := Data.fields #[Value.str "moved_by" 274, Value.str "moved_by" 275, Value.str "/claim/cut.py" 276, Value.int 32 0, Value.int 2 0, Value.int 0 0, Value.int 0 0, Value.int 3 0, Value.ref 75, Value.bool true, Value.int 181 0, Value.ref 76, Value.none, Value.ref 77, Value.ref 78, Value.ref 79, Value.int 279 0, Value.int 32 0, Value.str "/claim/cut.py" 280] }),
   (81, fO "moved_by" "outlinemill.offsets" 245 80),
   (87, { cls := Value.type "code", data := Data.fields #[Value.str "turned_about" 282, Value.str "turned_about" 283, Value.str "/claim/cut.py" 284, Value.int 34 0, Value.int 1 0, Value.int 0 0, Value.int 0 0, Value.int 3 0, Value.ref 82, Value.bool true, Value.int 181 0, Value.ref 83, Value.none, Value.ref 84, Value.ref 85, Value.ref 86, Value.int 286 0, Value.int 34 0, Value.str "/claim/cut.py" 287] }),
   (88, fO "turned_about" "outlinemill.offsets" 245 87),
   (94, { cls := Value.type "code", data := Data.fields #[Value.str "normal_of" 289, Value.str "normal_of" 290, Value.str "/claim/cut.py" 291, Value.int 36 0, Value.int 3 0, Value.int 0 0, Value.int 0 0, Value.int 3 0, Value.ref 89, Value.bool true, Value.int 181 0, Value.ref 90, Value.none, Value.ref 91, Value.ref 92, Value.ref 93, Value.int 298 0, Value.int 36 0, Value.str "/claim/cut.py" 299] }),
   (95, fO "normal_of" "outlinemill.offsets" 245 94),
   (101, { cls := Value.type "code", data := Data.fields #[Value.str "along_of" 301, Value.str "along_of" 302, Value.str "/claim/cut.py" 303, Value.int 40 0, Value.int 1 0, Value.int 0 0, Value.int 0 0, Value.int 3 0, Value.ref 96, Value.bool true, Value.int 181 0, Value.ref 97, Value.none, Value.ref 98, Value.ref 99, Value.ref 100, Value.int 305 0, Value.int 40 0, Value.str "/claim/cut.py" 306] }),
   (102, fO "along_of" "outlinemill.offsets" 245 101),
   (108, { cls := Value.type "code", data := Data.fields #[Value.str "eighth" 310, Value.str "eighth" 311, Value.str "/claim/cut.py" 312, Value.int 43 0, Value.int 2 0, Value.int 0 0, Value.int 0 0, Value.int 3 0, Value.ref 103, Value.bool true, Value.int 181 0, Value.ref 104, Value.none, Value.ref 105, Value.ref 106, Value.ref 107, Value.int 322 0, Value.int 43 0, Value.str "/claim/cut.py" 323] }),
   (109, fO "eighth" "outlinemill.joins" 308 108),
   (113, { cls := Value.type "code", data := Data.fields #[Value.str "disc_about" 325, Value.str "disc_about" 326, Value.str "/claim/cut.py" 327, Value.int 52 0, Value.int 3 0, Value.int 0 0, Value.int 0 0, Value.int 3 0, Value.ref 110, Value.bool true, Value.int 181 0, Value.ref 111, Value.none, Value.none, Value.none, Value.ref 112, Value.int 328 0, Value.int 52 0, Value.str "/claim/cut.py" 329] }),
   (114, fO "disc_about" "outlinemill.joins" 308 113),
   (120, { cls := Value.type "code", data := Data.fields #[Value.str "square_about" 333, Value.str "square_about" 334, Value.str "/claim/cut.py" 335, Value.int 68 0, Value.int 2 0, Value.int 0 0, Value.int 0 0, Value.int 3 0, Value.ref 115, Value.bool true, Value.int 181 0, Value.ref 116, Value.none, Value.ref 117, Value.ref 118, Value.ref 119, Value.int 340 0, Value.int 68 0, Value.str "/claim/cut.py" 341] }),
   (121, fO "square_about" "outlinemill.caps" 331 120),
   (127, { cls := Value.type "code", data := Data.fields #[Value.str "cap_spots" 343, Value.str "cap_spots" 344, Value.str "/claim/cut.py" 345, Value.int 71 0, Value.int 5 0, Value.int 0 0, Value.int 0 0, Value.int 3 0, Value.ref 122, Value.bool true, Value.int 181 0, Value.ref 123, Value.none, Value.ref 124, Value.ref 125, Value.ref 126, Value.int 356 0, Value.int 71 0, Value.str "/claim/cut.py" 357] }),
   (128, fO "cap_spots" "outlinemill.caps" 331 127),
   (134, { cls := Value.type "code", data := Data.fields #[Value.str "dot_spots" 359, Value.str "dot_spots" 360, Value.str "/claim/cut.py" 361, Value.int 81 0, Value.int 4 0, Value.int 0 0, Value.int 0 0, Value.int 3 0, Value.ref 129, Value.bool true, Value.int 181 0, Value.ref 130, Value.none, Value.ref 131, Value.ref 132, Value.ref 133, Value.int 366 0, Value.int 81 0, Value.str "/claim/cut.py" 367] }),
   (135, fO "dot_spots" "outlinemill.caps" 331 134),
   (141, { cls := Value.type "code", data := Data.fields #[Value.str "_law_pool" 371, Value.str "_law_pool" 372, Value.str "/claim/cut.py" 373, Value.int 86 0, Value.int 2 0, Value.int 0 0, Value.int 0 0, Value.int 3 0, Value.ref 136, Value.bool true, Value.int 181 0, Value.ref 137, Value.none, Value.ref 138, Value.ref 139, Value.ref 140, Value.int 379 0, Value.int 86 0, Value.str "/claim/cut.py" 380] }),
   (142, fO "_law_pool" "law_on0230_01" 369 141),
   (148, { cls := Value.type "code", data := Data.fields #[Value.str "_law_take" 382, Value.str "_law_take" 383, Value.str "/claim/cut.py" 384, Value.int 91 0, Value.int 2 0, Value.int 0 0, Value.int 0 0, Value.int 3 0, Value.ref 143, Value.bool true, Value.int 181 0, Value.ref 144, Value.none, Value.ref 145, Value.ref 146, Value.ref 147, Value.int 388 0, Value.int 91 0, Value.str "/claim/cut.py" 389] }),
   (149, fO "_law_take" "law_on0230_01" 369 148),
   (155, { cls := Value.type "code", data := Data.fields #[Value.str "_law_one" 391, Value.str "_law_one" 392, Value.str "/claim/cut.py" 393, Value.int 98 0, Value.int 2 0, Value.int 0 0, Value.int 0 0, Value.int 3 0, Value.ref 150, Value.bool true, Value.int 181 0, Value.ref 151, Value.none, Value.ref 152, Value.ref 153, Value.ref 154, Value.int 396 0, Value.int 98 0, Value.str "/claim/cut.py" 397] }),
   (156, fO "_law_one" "law_on0230_01" 369 155),
   (160, { cls := Value.type "code", data := Data.fields #[Value.str "_law_normal" 399, Value.str "_law_normal" 400, Value.str "/claim/cut.py" 401, Value.int 100 0, Value.int 3 0, Value.int 0 0, Value.int 0 0, Value.int 3 0, Value.ref 157, Value.bool true, Value.int 181 0, Value.ref 158, Value.none, Value.none, Value.none, Value.ref 159, Value.int 402 0, Value.int 100 0, Value.str "/claim/cut.py" 403] }),
   (161, fO "_law_normal" "law_on0230_01" 369 160),
   (167, { cls := Value.type "code", data := Data.fields #[Value.str "_law_disc" 405, Value.str "_law_disc" 406, Value.str "/claim/cut.py" 407, Value.int 107 0, Value.int 2 0, Value.int 0 0, Value.int 0 0, Value.int 3 0, Value.ref 162, Value.bool true, Value.int 181 0, Value.ref 163, Value.none, Value.ref 164, Value.ref 165, Value.ref 166, Value.int 420 0, Value.int 107 0, Value.str "/claim/cut.py" 421] }),
   (168, fO "_law_disc" "law_on0230_01" 369 167),
   (172, { cls := Value.type "code", data := Data.fields #[Value.str "_law_disc_right" 423, Value.str "_law_disc_right" 424, Value.str "/claim/cut.py" 425, Value.int 119 0, Value.int 4 0, Value.int 0 0, Value.int 0 0, Value.int 3 0, Value.ref 169, Value.bool true, Value.int 181 0, Value.ref 170, Value.none, Value.none, Value.none, Value.ref 171, Value.int 426 0, Value.int 119 0, Value.str "/claim/cut.py" 427] }),
   (173, fO "_law_disc_right" "law_on0230_01" 369 172),
   (179, { cls := Value.type "code", data := Data.fields #[Value.str "_law_square" 429, Value.str "_law_square" 430, Value.str "/claim/cut.py" 431, Value.int 130 0, Value.int 3 0, Value.int 0 0, Value.int 0 0, Value.int 3 0, Value.ref 174, Value.bool true, Value.int 181 0, Value.ref 175, Value.none, Value.ref 176, Value.ref 177, Value.ref 178, Value.int 439 0, Value.int 130 0, Value.str "/claim/cut.py" 440] }),
   (180, fO "_law_square" "law_on0230_01" 369 179)]
noncomputable abbrev asK : List Addr := [3, 52, 53, 59, 60, 66, 67, 73, 74, 80, 81, 87, 88, 94, 95, 101, 102, 108, 109, 113, 114, 120, 121, 127, 128, 134, 135, 141, 142, 148, 149, 155, 156, 160, 161, 167, 168, 172, 173, 179, 180]
noncomputable abbrev HK : Hook := kHook heapK asK (fun _ => by kernel_rfl)
end Mine
end

section
set_option maxRecDepth 100000
set_option maxHeartbeats 8000000
namespace Mine
noncomputable def runG (ok : Thread → Bool) (st : SharedT → Thread → Option (SharedT × Thread)) : Nat → SharedT → Thread → Option SharedT
  | 0, _, _ => none
  | n + 1, s, t => match through t with
    | true => some s
    | false => match ok t with
      | false => none
      | true => match st s t with
        | some (s', t') => runG ok st n s' t'
        | none => none
theorem runG_of {tb : String → Option Builtin} {p : Program} {w : World} {n₀ : Nat} {ann : Option Value} : ∀ {n : Nat} {s s' : SharedT} {t : Thread}, runG (stepOk n₀ ann) (stepT (denote tb) p w) n s t = some s' → topRun tb p w n₀ ann n s.abs t = some s'.abs
  | 0, _, _, _, h => by cases h
  | n + 1, s, s', t, h => by
    unfold runG at h
    unfold topRun
    cases he : through t with
    | true => rw [he] at h; cases h; rfl
    | false =>
      rw [he] at h
      cases hk : stepOk n₀ ann t with
      | false => rw [hk] at h; cases h
      | true =>
        rw [hk] at h
        cases hs : stepT (denote tb) p w s t with
        | none => rw [hs] at h; cases h
        | some r => obtain ⟨s₂, t₂⟩ := r; rw [hs] at h; rw [stepT_spec hs]; exact runG_of h
noncomputable def insAll : List Obj → Nat → BT → BT
  | [], _, t => t
  | o :: l, n, t => insAll l (n + 1) (t.ins n o)
noncomputable def bootT (P : Params) : BT := insAll (boot_heap P).objs.toList 0 .nil
theorem bootT_abs (P : Params) : absHeap (bootT P) (boot_heap P).objs.size (boot_heap P).life = boot_heap P := by kernel_rfl
theorem left_of_run {p q : Program} {loose : List Str} {Xt : Shared → Bool} {α : Type} {Yf : Shared → α} {Ya : World → α} {N : Nat}
    (e : opening p = plainProg p.main.scope.names) (hN : Nat.ble 600 N = true) (f : ∀ s, fenceModules? p s = some s)
    (run : ∀ (w : World) (os : OsState), (runG (stepOk (boot_heap w.params).objs.size ((boot_heap w.params).nsMap mainGlobals "__annotations__")) (stepT (denote treeTable) p w) N
        ⟨bootT w.params, (boot_heap w.params).objs.size, (boot_heap w.params).life, Array.mk [], boot_drawn, boot_toks, os⟩ (topStub p)).map
        (fun s => ((staticsOk (importedModules p.main.body) (boot_heap w.params) s.abs.heap && namesBound p s.abs.heap && gensDone s.abs && laidKept (boot_heap w.params) s.abs.heap),
          openSeen q loose (importedModules p.main.body) Xt true s.abs, Yf s.abs)) = some (true, openGood q loose, Ya w)) : LeftO p q loose Xt Yf Ya N := fun w => by
  obtain ⟨⟨h, gs, d, k, os⟩, e1, e2⟩ := Option.map_eq_some_iff.mp (boot_open e hN f w)
  obtain ⟨rfl, rfl, rfl, rfl⟩ : h = boot_heap w.params ∧ gs = Array.mk [] ∧ d = boot_drawn ∧ k = boot_toks := by simpa using e2
  obtain ⟨s, e3, e4⟩ := Option.map_eq_some_iff.mp (run w os)
  obtain ⟨l1, l2, l3⟩ : _ ∧ _ ∧ _ := by simpa only [Prod.mk.injEq] using e4
  have r := runG_of e3
  have z : (boot_heap w.params).isNs mainGlobals = true := by kernel_rfl
  have t : topFrom treeTable p w N ⟨boot_heap w.params, Array.mk [], boot_drawn, boot_toks, os⟩ = some s.abs := by
    unfold topFrom
    have r' : topRun treeTable p w (boot_heap w.params).objs.size ((boot_heap w.params).nsMap mainGlobals "__annotations__") N ⟨boot_heap w.params, Array.mk [], boot_drawn, boot_toks, os⟩ (topStub p) = some s.abs := by
      have a := r
      unfold SharedT.abs at a
      dsimp only at a
      rw [bootT_abs] at a
      exact a
    dsimp only
    rw [z, r']
    show (match staticsOk (importedModules p.main.body) (boot_heap w.params) s.abs.heap && namesBound p s.abs.heap && gensDone s.abs && laidKept (boot_heap w.params) s.abs.heap with | true => _ | false => _) = _
    rw [l1]
  unfold openEnds
  rw [e1]
  show (topFrom treeTable p w N ⟨boot_heap w.params, Array.mk [], boot_drawn, boot_toks, os⟩).map _ = _
  rw [t]
  exact congrArg some (Prod.ext l2 l3)
end Mine
end

section
set_option maxRecDepth 100000
set_option maxHeartbeats 8000000
namespace Mine
theorem leftW : LeftO rrow.prog vw [] (fun s => xlAt vw [] s && recOk (RowW.records rrow) s) (Hook.obs HK) (Hook.val HK) 2464 := by
  refine left_of_run rfl (by decide) (fun s => rfl) fun w os => ?_
  first
    | rw [PySem.W.Fast.te6613529449190102663, PySem.W.Fast.te11892475500146522536, PySem.W.Fast.te10156331382660048174, PySem.W.Fast.te14364793385576792824, PySem.W.Fast.te4187177175401517315]
    | skip
  kernel_rfl
end Mine
end

section
set_option maxRecDepth 20000
namespace Mine
open PySem.Calls
noncomputable abbrev Kq (P : Params) : Frag := heapK P

noncomputable def q0 : Str × (Nat × Spec) := ("root_floor", (0, S_root))
noncomputable def q1 : Str × (Nat × Spec) := ("nearest_root_share", (1, S_nrs))
noncomputable def q2 : Str × (Nat × Spec) := ("nearest_share", (0, S_ns))
noncomputable def q3 : Str × (Nat × Spec) := ("way_of", (0, S_way))
noncomputable def q4 : Str × (Nat × Spec) := ("moved_by", (0, S_mov))
noncomputable def q5 : Str × (Nat × Spec) := ("turned_about", (0, S_tur))
noncomputable def q6 : Str × (Nat × Spec) := ("normal_of", (2, S_nor))
noncomputable def q7 : Str × (Nat × Spec) := ("along_of", (0, S_alo))
noncomputable def q8 : Str × (Nat × Spec) := ("eighth", (1, S_eig))
noncomputable def q9 : Str × (Nat × Spec) := ("disc_about", (2, S_dis))
noncomputable def q10 : Str × (Nat × Spec) := ("square_about", (0, S_sqa))
noncomputable def q11 : Str × (Nat × Spec) := ("cap_spots", (3, S_cap))
noncomputable def q12 : Str × (Nat × Spec) := ("dot_spots", (3, S_dot))
noncomputable def q13 : Str × (Nat × Spec) := ("_law_pool", (0, S_pool))
noncomputable def q14 : Str × (Nat × Spec) := ("_law_take", (0, S_take))
noncomputable def q15 : Str × (Nat × Spec) := ("_law_one", (1, S_one))
noncomputable def q16 : Str × (Nat × Spec) := ("_law_normal", (0, S_lnor))
noncomputable def q17 : Str × (Nat × Spec) := ("_law_disc", (0, S_ldi))
noncomputable def q18 : Str × (Nat × Spec) := ("_law_disc_right", (1, S_ldr))
noncomputable def q19 : Str × (Nat × Spec) := ("_law_square", (1, S_lsq))
noncomputable def Ga0 : Gam := []
noncomputable def fn0 : List Str := []
noncomputable def Ga1 : Gam := [q0]
noncomputable def fn1 : List Str := ["root_floor"]
noncomputable def Ga2 : Gam := [q0, q1]
noncomputable def fn2 : List Str := ["root_floor", "nearest_root_share"]
noncomputable def Ga3 : Gam := [q0, q1, q2]
noncomputable def fn3 : List Str := ["root_floor", "nearest_root_share", "nearest_share"]
noncomputable def Ga4 : Gam := [q0, q1, q2, q3]
noncomputable def fn4 : List Str := ["root_floor", "nearest_root_share", "nearest_share", "way_of"]
noncomputable def Ga5 : Gam := [q0, q1, q2, q3, q4]
noncomputable def fn5 : List Str := ["root_floor", "nearest_root_share", "nearest_share", "way_of", "moved_by"]
noncomputable def Ga6 : Gam := [q0, q1, q2, q3, q4, q5]
noncomputable def fn6 : List Str := ["root_floor", "nearest_root_share", "nearest_share", "way_of", "moved_by", "turned_about"]
noncomputable def Ga7 : Gam := [q0, q1, q2, q3, q4, q5, q6]
noncomputable def fn7 : List Str := ["root_floor", "nearest_root_share", "nearest_share", "way_of", "moved_by", "turned_about", "normal_of"]
noncomputable def Ga8 : Gam := [q0, q1, q2, q3, q4, q5, q6, q7]
noncomputable def fn8 : List Str := ["root_floor", "nearest_root_share", "nearest_share", "way_of", "moved_by", "turned_about", "normal_of", "along_of"]
noncomputable def Ga9 : Gam := [q0, q1, q2, q3, q4, q5, q6, q7, q8]
noncomputable def fn9 : List Str := ["root_floor", "nearest_root_share", "nearest_share", "way_of", "moved_by", "turned_about", "normal_of", "along_of", "eighth"]
noncomputable def Ga10 : Gam := [q0, q1, q2, q3, q4, q5, q6, q7, q8, q9]
noncomputable def fn10 : List Str := ["root_floor", "nearest_root_share", "nearest_share", "way_of", "moved_by", "turned_about", "normal_of", "along_of", "eighth", "disc_about"]
noncomputable def Ga11 : Gam := [q0, q1, q2, q3, q4, q5, q6, q7, q8, q9, q10]
noncomputable def fn11 : List Str := ["root_floor", "nearest_root_share", "nearest_share", "way_of", "moved_by", "turned_about", "normal_of", "along_of", "eighth", "disc_about", "square_about"]
noncomputable def Ga12 : Gam := [q0, q1, q2, q3, q4, q5, q6, q7, q8, q9, q10, q11]
noncomputable def fn12 : List Str := ["root_floor", "nearest_root_share", "nearest_share", "way_of", "moved_by", "turned_about", "normal_of", "along_of", "eighth", "disc_about", "square_about", "cap_spots"]
noncomputable def Ga13 : Gam := [q0, q1, q2, q3, q4, q5, q6, q7, q8, q9, q10, q11, q12]
noncomputable def fn13 : List Str := ["root_floor", "nearest_root_share", "nearest_share", "way_of", "moved_by", "turned_about", "normal_of", "along_of", "eighth", "disc_about", "square_about", "cap_spots", "dot_spots"]
noncomputable def Ga14 : Gam := [q0, q1, q2, q3, q4, q5, q6, q7, q8, q9, q10, q11, q12, q13]
noncomputable def fn14 : List Str := ["root_floor", "nearest_root_share", "nearest_share", "way_of", "moved_by", "turned_about", "normal_of", "along_of", "eighth", "disc_about", "square_about", "cap_spots", "dot_spots", "_law_pool"]
noncomputable def Ga15 : Gam := [q0, q1, q2, q3, q4, q5, q6, q7, q8, q9, q10, q11, q12, q13, q14]
noncomputable def fn15 : List Str := ["root_floor", "nearest_root_share", "nearest_share", "way_of", "moved_by", "turned_about", "normal_of", "along_of", "eighth", "disc_about", "square_about", "cap_spots", "dot_spots", "_law_pool", "_law_take"]
noncomputable def Ga16 : Gam := [q0, q1, q2, q3, q4, q5, q6, q7, q8, q9, q10, q11, q12, q13, q14, q15]
noncomputable def fn16 : List Str := ["root_floor", "nearest_root_share", "nearest_share", "way_of", "moved_by", "turned_about", "normal_of", "along_of", "eighth", "disc_about", "square_about", "cap_spots", "dot_spots", "_law_pool", "_law_take", "_law_one"]
noncomputable def Ga17 : Gam := [q0, q1, q2, q3, q4, q5, q6, q7, q8, q9, q10, q11, q12, q13, q14, q15, q16]
noncomputable def fn17 : List Str := ["root_floor", "nearest_root_share", "nearest_share", "way_of", "moved_by", "turned_about", "normal_of", "along_of", "eighth", "disc_about", "square_about", "cap_spots", "dot_spots", "_law_pool", "_law_take", "_law_one", "_law_normal"]
noncomputable def Ga18 : Gam := [q0, q1, q2, q3, q4, q5, q6, q7, q8, q9, q10, q11, q12, q13, q14, q15, q16, q17]
noncomputable def fn18 : List Str := ["root_floor", "nearest_root_share", "nearest_share", "way_of", "moved_by", "turned_about", "normal_of", "along_of", "eighth", "disc_about", "square_about", "cap_spots", "dot_spots", "_law_pool", "_law_take", "_law_one", "_law_normal", "_law_disc"]
noncomputable def Ga19 : Gam := [q0, q1, q2, q3, q4, q5, q6, q7, q8, q9, q10, q11, q12, q13, q14, q15, q16, q17, q18]
noncomputable def fn19 : List Str := ["root_floor", "nearest_root_share", "nearest_share", "way_of", "moved_by", "turned_about", "normal_of", "along_of", "eighth", "disc_about", "square_about", "cap_spots", "dot_spots", "_law_pool", "_law_take", "_law_one", "_law_normal", "_law_disc", "_law_disc_right"]
noncomputable def Ga20 : Gam := [q0, q1, q2, q3, q4, q5, q6, q7, q8, q9, q10, q11, q12, q13, q14, q15, q16, q17, q18, q19]
noncomputable def fn20 : List Str := ["root_floor", "nearest_root_share", "nearest_share", "way_of", "moved_by", "turned_about", "normal_of", "along_of", "eighth", "disc_about", "square_about", "cap_spots", "dot_spots", "_law_pool", "_law_take", "_law_one", "_law_normal", "_law_disc", "_law_disc_right", "_law_square"]

section
variable {g : Gl} {P : Params}
theorem gok_of {Γ : Gam} (hb : ∀ x v, biT.lookup x = some v → nsIn g.K mainGlobals x = some none) (h : ∀ q ∈ Γ, FnOk g q.1 q.2.1 q.2.2) : Gok g Γ := ⟨hb, fun x k S hl => h _ (lookup_mem hl)⟩
theorem gbi (hK : g.K = Kq P) : ∀ x v, biT.lookup x = some v → nsIn g.K mainGlobals x = some none := by
  intro x v h
  have hm := lookup_mem h
  clear h
  rw [hK]
  unfold biT at hm
  simp only [List.mem_cons, List.not_mem_nil, or_false, Prod.mk.injEq] at hm
  rcases hm with ⟨rfl, rfl⟩ | ⟨rfl, rfl⟩ | ⟨rfl, rfl⟩ | ⟨rfl, rfl⟩ | ⟨rfl, rfl⟩ | ⟨rfl, rfl⟩ | ⟨rfl, rfl⟩ | ⟨rfl, rfl⟩ <;> kernel_rfl
theorem m0 (hK : g.K = Kq P) : ∀ q ∈ Ga0, FnOk g q.1 q.2.1 q.2.2 := fun q hq => by cases hq

theorem f0 (hK : g.K = Kq P) : FnOk g q0.1 q0.2.1 q0.2.2 := by
  refine fnOk_c (x := "root_floor") (k := 0) (S := S_root) (Γ := Ga0) (fa := 53) (fns := fn0) (m := 30) (lit := Lroot_floor) (gok_of (gbi hK) (m0 hK)) rfl ["n"] ["found", "lower"] (by rw [hK]; kernel_rfl) (by rw [hK]; exact rfl) ?_ ?_ ?_ ?_ ?_ ?_ ?_ ?_ ?_ ?_ ?_ ?_
  · rw [hK]; kernel_rfl
  · intro vs hv
    match vs, hv with
    | [v0], _ => rfl
  · decide +kernel
  · kernel_rfl
  · decide +kernel
  · rfl
  · rfl
  · rfl
  · decide +kernel
  · kernel_rfl
  · intro ps H R h
    obtain ⟨_, rfl, _⟩ := h
    rfl
  · exact v_root
theorem m1 (hK : g.K = Kq P) : ∀ q ∈ Ga1, FnOk g q.1 q.2.1 q.2.2 := by
  intro q hq
  unfold Ga1 at hq
  simp only [List.mem_cons, List.not_mem_nil, or_false] at hq
  subst hq
  · exact f0 hK

theorem f1 (hK : g.K = Kq P) : FnOk g q1.1 q1.2.1 q1.2.2 := by
  refine fnOk_c (x := "nearest_root_share") (k := 1) (S := S_nrs) (Γ := Ga1) (fa := 60) (fns := fn1) (m := 30) (lit := Lnearest_root_share) (gok_of (gbi hK) (m1 hK)) rfl ["share", "square"] ["size", "found"] (by rw [hK]; kernel_rfl) (by rw [hK]; exact rfl) ?_ ?_ ?_ ?_ ?_ ?_ ?_ ?_ ?_ ?_ ?_ ?_
  · rw [hK]; kernel_rfl
  · intro vs hv
    match vs, hv with
    | [v0, v1], _ => rfl
  · decide +kernel
  · kernel_rfl
  · decide +kernel
  · rfl
  · rfl
  · rfl
  · decide +kernel
  · kernel_rfl
  · intro ps H R h
    obtain ⟨_, _, rfl, _⟩ := h
    rfl
  · exact v_nrs (by decide) _ rfl
theorem m2 (hK : g.K = Kq P) : ∀ q ∈ Ga2, FnOk g q.1 q.2.1 q.2.2 := by
  intro q hq
  unfold Ga2 at hq
  simp only [List.mem_cons, List.not_mem_nil, or_false] at hq
  rcases hq with rfl | rfl
  · exact f0 hK
  · exact f1 hK

theorem f2 (hK : g.K = Kq P) : FnOk g q2.1 q2.2.1 q2.2.2 := by
  refine fnOk_c (x := "nearest_share") (k := 0) (S := S_ns) (Γ := Ga2) (fa := 67) (fns := fn2) (m := 30) (lit := Lnearest_share) (gok_of (gbi hK) (m2 hK)) rfl ["top", "bottom"] ["found"] (by rw [hK]; kernel_rfl) (by rw [hK]; exact rfl) ?_ ?_ ?_ ?_ ?_ ?_ ?_ ?_ ?_ ?_ ?_ ?_
  · rw [hK]; kernel_rfl
  · intro vs hv
    match vs, hv with
    | [v0, v1], _ => rfl
  · decide +kernel
  · kernel_rfl
  · decide +kernel
  · rfl
  · rfl
  · rfl
  · decide +kernel
  · kernel_rfl
  · intro ps H R h
    obtain ⟨_, _, rfl, _⟩ := h
    rfl
  · exact v_ns
theorem m3 (hK : g.K = Kq P) : ∀ q ∈ Ga3, FnOk g q.1 q.2.1 q.2.2 := by
  intro q hq
  unfold Ga3 at hq
  simp only [List.mem_cons, List.not_mem_nil, or_false] at hq
  rcases hq with rfl | rfl | rfl
  · exact f0 hK
  · exact f1 hK
  · exact f2 hK

theorem f3 (hK : g.K = Kq P) : FnOk g q3.1 q3.2.1 q3.2.2 := by
  refine fnOk_c (x := "way_of") (k := 0) (S := S_way) (Γ := Ga3) (fa := 74) (fns := fn3) (m := 30) (lit := Lway_of) (gok_of (gbi hK) (m3 hK)) rfl ["one", "other"] [] (by rw [hK]; kernel_rfl) (by rw [hK]; exact rfl) ?_ ?_ ?_ ?_ ?_ ?_ ?_ ?_ ?_ ?_ ?_ ?_
  · rw [hK]; kernel_rfl
  · intro vs hv
    match vs, hv with
    | [v0, v1], _ => rfl
  · decide +kernel
  · kernel_rfl
  · decide +kernel
  · rfl
  · rfl
  · rfl
  · decide +kernel
  · kernel_rfl
  · intro ps H R h
    obtain ⟨_, _, _, _, rfl, _⟩ := h
    rfl
  · exact v_way
theorem m4 (hK : g.K = Kq P) : ∀ q ∈ Ga4, FnOk g q.1 q.2.1 q.2.2 := by
  intro q hq
  unfold Ga4 at hq
  simp only [List.mem_cons, List.not_mem_nil, or_false] at hq
  rcases hq with rfl | rfl | rfl | rfl
  · exact f0 hK
  · exact f1 hK
  · exact f2 hK
  · exact f3 hK

theorem f4 (hK : g.K = Kq P) : FnOk g q4.1 q4.2.1 q4.2.2 := by
  refine fnOk_c (x := "moved_by") (k := 0) (S := S_mov) (Γ := Ga4) (fa := 81) (fns := fn4) (m := 30) (lit := Lmoved_by) (gok_of (gbi hK) (m4 hK)) rfl ["spot", "vector"] [] (by rw [hK]; kernel_rfl) (by rw [hK]; exact rfl) ?_ ?_ ?_ ?_ ?_ ?_ ?_ ?_ ?_ ?_ ?_ ?_
  · rw [hK]; kernel_rfl
  · intro vs hv
    match vs, hv with
    | [v0, v1], _ => rfl
  · decide +kernel
  · kernel_rfl
  · decide +kernel
  · rfl
  · rfl
  · rfl
  · decide +kernel
  · kernel_rfl
  · intro ps H R h
    obtain ⟨_, _, _, _, rfl, _⟩ := h
    rfl
  · exact v_mov
theorem m5 (hK : g.K = Kq P) : ∀ q ∈ Ga5, FnOk g q.1 q.2.1 q.2.2 := by
  intro q hq
  unfold Ga5 at hq
  simp only [List.mem_cons, List.not_mem_nil, or_false] at hq
  rcases hq with rfl | rfl | rfl | rfl | rfl
  · exact f0 hK
  · exact f1 hK
  · exact f2 hK
  · exact f3 hK
  · exact f4 hK

theorem f5 (hK : g.K = Kq P) : FnOk g q5.1 q5.2.1 q5.2.2 := by
  refine fnOk_c (x := "turned_about") (k := 0) (S := S_tur) (Γ := Ga5) (fa := 88) (fns := fn5) (m := 30) (lit := Lturned_about) (gok_of (gbi hK) (m5 hK)) rfl ["vector"] [] (by rw [hK]; kernel_rfl) (by rw [hK]; exact rfl) ?_ ?_ ?_ ?_ ?_ ?_ ?_ ?_ ?_ ?_ ?_ ?_
  · rw [hK]; kernel_rfl
  · intro vs hv
    match vs, hv with
    | [v0], _ => rfl
  · decide +kernel
  · kernel_rfl
  · decide +kernel
  · rfl
  · rfl
  · rfl
  · decide +kernel
  · kernel_rfl
  · intro ps H R h
    obtain ⟨_, _, rfl, _⟩ := h
    rfl
  · exact v_tur
theorem m6 (hK : g.K = Kq P) : ∀ q ∈ Ga6, FnOk g q.1 q.2.1 q.2.2 := by
  intro q hq
  unfold Ga6 at hq
  simp only [List.mem_cons, List.not_mem_nil, or_false] at hq
  rcases hq with rfl | rfl | rfl | rfl | rfl | rfl
  · exact f0 hK
  · exact f1 hK
  · exact f2 hK
  · exact f3 hK
  · exact f4 hK
  · exact f5 hK

theorem f6 (hK : g.K = Kq P) : FnOk g q6.1 q6.2.1 q6.2.2 := by
  refine fnOk_c (x := "normal_of") (k := 2) (S := S_nor) (Γ := Ga6) (fa := 95) (fns := fn6) (m := 30) (lit := Lnormal_of) (gok_of (gbi hK) (m6 hK)) rfl ["one", "other", "half"] ["x", "y", "square"] (by rw [hK]; kernel_rfl) (by rw [hK]; exact rfl) ?_ ?_ ?_ ?_ ?_ ?_ ?_ ?_ ?_ ?_ ?_ ?_
  · rw [hK]; kernel_rfl
  · intro vs hv
    match vs, hv with
    | [v0, v1, v2], _ => rfl
  · decide +kernel
  · kernel_rfl
  · decide +kernel
  · rfl
  · rfl
  · rfl
  · decide +kernel
  · kernel_rfl
  · intro ps H R h
    obtain ⟨_, _, _, _, _, rfl, _⟩ := h
    rfl
  · exact v_nor (by decide) _ _ rfl rfl
theorem m7 (hK : g.K = Kq P) : ∀ q ∈ Ga7, FnOk g q.1 q.2.1 q.2.2 := by
  intro q hq
  unfold Ga7 at hq
  simp only [List.mem_cons, List.not_mem_nil, or_false] at hq
  rcases hq with rfl | rfl | rfl | rfl | rfl | rfl | rfl
  · exact f0 hK
  · exact f1 hK
  · exact f2 hK
  · exact f3 hK
  · exact f4 hK
  · exact f5 hK
  · exact f6 hK

theorem f7 (hK : g.K = Kq P) : FnOk g q7.1 q7.2.1 q7.2.2 := by
  refine fnOk_c (x := "along_of") (k := 0) (S := S_alo) (Γ := Ga7) (fa := 102) (fns := fn7) (m := 30) (lit := Lalong_of) (gok_of (gbi hK) (m7 hK)) rfl ["normal"] [] (by rw [hK]; kernel_rfl) (by rw [hK]; exact rfl) ?_ ?_ ?_ ?_ ?_ ?_ ?_ ?_ ?_ ?_ ?_ ?_
  · rw [hK]; kernel_rfl
  · intro vs hv
    match vs, hv with
    | [v0], _ => rfl
  · decide +kernel
  · kernel_rfl
  · decide +kernel
  · rfl
  · rfl
  · rfl
  · decide +kernel
  · kernel_rfl
  · intro ps H R h
    obtain ⟨_, _, rfl, _⟩ := h
    rfl
  · exact v_alo
theorem m8 (hK : g.K = Kq P) : ∀ q ∈ Ga8, FnOk g q.1 q.2.1 q.2.2 := by
  intro q hq
  unfold Ga8 at hq
  simp only [List.mem_cons, List.not_mem_nil, or_false] at hq
  rcases hq with rfl | rfl | rfl | rfl | rfl | rfl | rfl | rfl
  · exact f0 hK
  · exact f1 hK
  · exact f2 hK
  · exact f3 hK
  · exact f4 hK
  · exact f5 hK
  · exact f6 hK
  · exact f7 hK

theorem f8 (hK : g.K = Kq P) : FnOk g q8.1 q8.2.1 q8.2.2 := by
  refine fnOk_c (x := "eighth") (k := 1) (S := S_eig) (Γ := Ga8) (fa := 109) (fns := fn8) (m := 30) (lit := Leighth) (gok_of (gbi hK) (m8 hK)) rfl ["half", "steps"] ["found", "step", "top", "bottom", "square", "x", "y"] (by rw [hK]; kernel_rfl) (by rw [hK]; exact rfl) ?_ ?_ ?_ ?_ ?_ ?_ ?_ ?_ ?_ ?_ ?_ ?_
  · rw [hK]; kernel_rfl
  · intro vs hv
    match vs, hv with
    | [v0, v1], _ => rfl
  · decide +kernel
  · kernel_rfl
  · decide +kernel
  · rfl
  · rfl
  · rfl
  · decide +kernel
  · kernel_rfl
  · intro ps H R h
    obtain ⟨_, _, rfl, _⟩ := h
    rfl
  · exact v_eig (by decide) _ rfl
theorem m9 (hK : g.K = Kq P) : ∀ q ∈ Ga9, FnOk g q.1 q.2.1 q.2.2 := by
  intro q hq
  unfold Ga9 at hq
  simp only [List.mem_cons, List.not_mem_nil, or_false] at hq
  rcases hq with rfl | rfl | rfl | rfl | rfl | rfl | rfl | rfl | rfl
  · exact f0 hK
  · exact f1 hK
  · exact f2 hK
  · exact f3 hK
  · exact f4 hK
  · exact f5 hK
  · exact f6 hK
  · exact f7 hK
  · exact f8 hK

theorem f9 (hK : g.K = Kq P) : FnOk g q9.1 q9.2.1 q9.2.2 := by
  refine fnOk_c (x := "disc_about") (k := 2) (S := S_dis) (Γ := Ga9) (fa := 114) (fns := fn9) (m := 30) (lit := Ldisc_about) (gok_of (gbi hK) (m9 hK)) rfl ["centre", "half", "steps"] ["first", "x", "y", "quarter", "around", "turn", "found", "spot"] (by rw [hK]; kernel_rfl) (by rw [hK]; exact rfl) ?_ ?_ ?_ ?_ ?_ ?_ ?_ ?_ ?_ ?_ ?_ ?_
  · rw [hK]; kernel_rfl
  · intro vs hv
    match vs, hv with
    | [v0, v1, v2], _ => rfl
  · decide +kernel
  · kernel_rfl
  · decide +kernel
  · rfl
  · rfl
  · rfl
  · decide +kernel
  · kernel_rfl
  · intro ps H R h
    obtain ⟨_, _, _, _, rfl, _⟩ := h
    rfl
  · exact v_dis (by decide) _ rfl
theorem m10 (hK : g.K = Kq P) : ∀ q ∈ Ga10, FnOk g q.1 q.2.1 q.2.2 := by
  intro q hq
  unfold Ga10 at hq
  simp only [List.mem_cons, List.not_mem_nil, or_false] at hq
  rcases hq with rfl | rfl | rfl | rfl | rfl | rfl | rfl | rfl | rfl | rfl
  · exact f0 hK
  · exact f1 hK
  · exact f2 hK
  · exact f3 hK
  · exact f4 hK
  · exact f5 hK
  · exact f6 hK
  · exact f7 hK
  · exact f8 hK
  · exact f9 hK

theorem f10 (hK : g.K = Kq P) : FnOk g q10.1 q10.2.1 q10.2.2 := by
  refine fnOk_c (x := "square_about") (k := 0) (S := S_sqa) (Γ := Ga10) (fa := 121) (fns := fn10) (m := 30) (lit := Lsquare_about) (gok_of (gbi hK) (m10 hK)) rfl ["spot", "half"] ["x", "y"] (by rw [hK]; kernel_rfl) (by rw [hK]; exact rfl) ?_ ?_ ?_ ?_ ?_ ?_ ?_ ?_ ?_ ?_ ?_ ?_
  · rw [hK]; kernel_rfl
  · intro vs hv
    match vs, hv with
    | [v0, v1], _ => rfl
  · decide +kernel
  · kernel_rfl
  · decide +kernel
  · rfl
  · rfl
  · rfl
  · decide +kernel
  · kernel_rfl
  · intro ps H R h
    obtain ⟨_, _, _, rfl, _⟩ := h
    rfl
  · exact v_sqa
theorem m11 (hK : g.K = Kq P) : ∀ q ∈ Ga11, FnOk g q.1 q.2.1 q.2.2 := by
  intro q hq
  unfold Ga11 at hq
  simp only [List.mem_cons, List.not_mem_nil, or_false] at hq
  rcases hq with rfl | rfl | rfl | rfl | rfl | rfl | rfl | rfl | rfl | rfl | rfl
  · exact f0 hK
  · exact f1 hK
  · exact f2 hK
  · exact f3 hK
  · exact f4 hK
  · exact f5 hK
  · exact f6 hK
  · exact f7 hK
  · exact f8 hK
  · exact f9 hK
  · exact f10 hK

theorem f11 (hK : g.K = Kq P) : FnOk g q11.1 q11.2.1 q11.2.2 := by
  refine fnOk_c (x := "cap_spots") (k := 3) (S := S_cap) (Γ := Ga11) (fa := 128) (fns := fn11) (m := 30) (lit := Lcap_spots) (gok_of (gbi hK) (m11 hK)) rfl ["kind", "inner", "end", "half", "steps"] ["normal", "back", "along", "left", "right"] (by rw [hK]; kernel_rfl) (by rw [hK]; exact rfl) ?_ ?_ ?_ ?_ ?_ ?_ ?_ ?_ ?_ ?_ ?_ ?_
  · rw [hK]; kernel_rfl
  · intro vs hv
    match vs, hv with
    | [v0, v1, v2, v3, v4], _ => rfl
  · decide +kernel
  · kernel_rfl
  · decide +kernel
  · rfl
  · rfl
  · rfl
  · decide +kernel
  · kernel_rfl
  · intro ps H R h
    obtain ⟨_, _, _, _, _, _, _, rfl, _⟩ := h
    rfl
  · exact v_cap (by decide) _ _ _ _ _ rfl rfl rfl rfl rfl
theorem m12 (hK : g.K = Kq P) : ∀ q ∈ Ga12, FnOk g q.1 q.2.1 q.2.2 := by
  intro q hq
  unfold Ga12 at hq
  simp only [List.mem_cons, List.not_mem_nil, or_false] at hq
  rcases hq with rfl | rfl | rfl | rfl | rfl | rfl | rfl | rfl | rfl | rfl | rfl | rfl
  · exact f0 hK
  · exact f1 hK
  · exact f2 hK
  · exact f3 hK
  · exact f4 hK
  · exact f5 hK
  · exact f6 hK
  · exact f7 hK
  · exact f8 hK
  · exact f9 hK
  · exact f10 hK
  · exact f11 hK

theorem f12 (hK : g.K = Kq P) : FnOk g q12.1 q12.2.1 q12.2.2 := by
  refine fnOk_c (x := "dot_spots") (k := 3) (S := S_dot) (Γ := Ga12) (fa := 135) (fns := fn12) (m := 30) (lit := Ldot_spots) (gok_of (gbi hK) (m12 hK)) rfl ["kind", "spot", "half", "steps"] [] (by rw [hK]; kernel_rfl) (by rw [hK]; exact rfl) ?_ ?_ ?_ ?_ ?_ ?_ ?_ ?_ ?_ ?_ ?_ ?_
  · rw [hK]; kernel_rfl
  · intro vs hv
    match vs, hv with
    | [v0, v1, v2, v3], _ => rfl
  · decide +kernel
  · kernel_rfl
  · decide +kernel
  · rfl
  · rfl
  · rfl
  · decide +kernel
  · kernel_rfl
  · intro ps H R h
    obtain ⟨_, _, _, _, _, rfl, _⟩ := h
    rfl
  · exact v_dot (by decide) _ _ rfl rfl
theorem m13 (hK : g.K = Kq P) : ∀ q ∈ Ga13, FnOk g q.1 q.2.1 q.2.2 := by
  intro q hq
  unfold Ga13 at hq
  simp only [List.mem_cons, List.not_mem_nil, or_false] at hq
  rcases hq with rfl | rfl | rfl | rfl | rfl | rfl | rfl | rfl | rfl | rfl | rfl | rfl | rfl
  · exact f0 hK
  · exact f1 hK
  · exact f2 hK
  · exact f3 hK
  · exact f4 hK
  · exact f5 hK
  · exact f6 hK
  · exact f7 hK
  · exact f8 hK
  · exact f9 hK
  · exact f10 hK
  · exact f11 hK
  · exact f12 hK

theorem f13 (hK : g.K = Kq P) : FnOk g q13.1 q13.2.1 q13.2.2 := by
  refine fnOk_c (x := "_law_pool") (k := 0) (S := S_pool) (Γ := Ga13) (fa := 142) (fns := fn13) (m := 30) (lit := Lw_pool) (gok_of (gbi hK) (m13 hK)) rfl ["script", "k"] ["cell", "big", "blend"] (by rw [hK]; kernel_rfl) (by rw [hK]; exact rfl) ?_ ?_ ?_ ?_ ?_ ?_ ?_ ?_ ?_ ?_ ?_ ?_
  · rw [hK]; kernel_rfl
  · intro vs hv
    match vs, hv with
    | [v0, v1], _ => rfl
  · decide +kernel
  · kernel_rfl
  · decide +kernel
  · rfl
  · rfl
  · rfl
  · decide +kernel
  · kernel_rfl
  · intro ps H R h
    obtain ⟨_, rfl, _⟩ := h
    rfl
  · exact v_pool
theorem m14 (hK : g.K = Kq P) : ∀ q ∈ Ga14, FnOk g q.1 q.2.1 q.2.2 := by
  intro q hq
  unfold Ga14 at hq
  simp only [List.mem_cons, List.not_mem_nil, or_false] at hq
  rcases hq with rfl | rfl | rfl | rfl | rfl | rfl | rfl | rfl | rfl | rfl | rfl | rfl | rfl | rfl
  · exact f0 hK
  · exact f1 hK
  · exact f2 hK
  · exact f3 hK
  · exact f4 hK
  · exact f5 hK
  · exact f6 hK
  · exact f7 hK
  · exact f8 hK
  · exact f9 hK
  · exact f10 hK
  · exact f11 hK
  · exact f12 hK
  · exact f13 hK

theorem f14 (hK : g.K = Kq P) : FnOk g q14.1 q14.2.1 q14.2.2 := by
  refine fnOk_c (x := "_law_take") (k := 0) (S := S_take) (Γ := Ga14) (fa := 149) (fns := fn14) (m := 30) (lit := Lw_take) (gok_of (gbi hK) (m14 hK)) rfl ["source", "top"] ["way_now"] (by rw [hK]; kernel_rfl) (by rw [hK]; exact rfl) ?_ ?_ ?_ ?_ ?_ ?_ ?_ ?_ ?_ ?_ ?_ ?_
  · rw [hK]; kernel_rfl
  · intro vs hv
    match vs, hv with
    | [v0, v1], _ => rfl
  · decide +kernel
  · kernel_rfl
  · decide +kernel
  · rfl
  · rfl
  · rfl
  · decide +kernel
  · kernel_rfl
  · intro ps H R h
    obtain ⟨_, _, rfl, _⟩ := h
    rfl
  · exact v_take
theorem m15 (hK : g.K = Kq P) : ∀ q ∈ Ga15, FnOk g q.1 q.2.1 q.2.2 := by
  intro q hq
  unfold Ga15 at hq
  simp only [List.mem_cons, List.not_mem_nil, or_false] at hq
  rcases hq with rfl | rfl | rfl | rfl | rfl | rfl | rfl | rfl | rfl | rfl | rfl | rfl | rfl | rfl | rfl
  · exact f0 hK
  · exact f1 hK
  · exact f2 hK
  · exact f3 hK
  · exact f4 hK
  · exact f5 hK
  · exact f6 hK
  · exact f7 hK
  · exact f8 hK
  · exact f9 hK
  · exact f10 hK
  · exact f11 hK
  · exact f12 hK
  · exact f13 hK
  · exact f14 hK

theorem f15 (hK : g.K = Kq P) : FnOk g q15.1 q15.2.1 q15.2.2 := by
  refine fnOk_c (x := "_law_one") (k := 1) (S := S_one) (Γ := Ga15) (fa := 156) (fns := fn15) (m := 30) (lit := Lw_one) (gok_of (gbi hK) (m15 hK)) rfl ["source", "things"] [] (by rw [hK]; kernel_rfl) (by rw [hK]; exact rfl) ?_ ?_ ?_ ?_ ?_ ?_ ?_ ?_ ?_ ?_ ?_ ?_
  · rw [hK]; kernel_rfl
  · intro vs hv
    match vs, hv with
    | [v0, v1], _ => rfl
  · decide +kernel
  · kernel_rfl
  · decide +kernel
  · rfl
  · rfl
  · rfl
  · decide +kernel
  · kernel_rfl
  · intro ps H R h
    obtain ⟨_, _, rfl, _⟩ := h
    rfl
  · exact v_one (by decide) _ rfl
theorem m16 (hK : g.K = Kq P) : ∀ q ∈ Ga16, FnOk g q.1 q.2.1 q.2.2 := by
  intro q hq
  unfold Ga16 at hq
  simp only [List.mem_cons, List.not_mem_nil, or_false] at hq
  rcases hq with rfl | rfl | rfl | rfl | rfl | rfl | rfl | rfl | rfl | rfl | rfl | rfl | rfl | rfl | rfl | rfl
  · exact f0 hK
  · exact f1 hK
  · exact f2 hK
  · exact f3 hK
  · exact f4 hK
  · exact f5 hK
  · exact f6 hK
  · exact f7 hK
  · exact f8 hK
  · exact f9 hK
  · exact f10 hK
  · exact f11 hK
  · exact f12 hK
  · exact f13 hK
  · exact f14 hK
  · exact f15 hK

theorem f16 (hK : g.K = Kq P) : FnOk g q16.1 q16.2.1 q16.2.2 := by
  refine fnOk_c (x := "_law_normal") (k := 0) (S := S_lnor) (Γ := Ga16) (fa := 161) (fns := fn16) (m := 30) (lit := Lw_normal) (gok_of (gbi hK) (m16 hK)) rfl ["one", "other", "half"] ["x", "y", "found", "piece_k", "size"] (by rw [hK]; kernel_rfl) (by rw [hK]; exact rfl) ?_ ?_ ?_ ?_ ?_ ?_ ?_ ?_ ?_ ?_ ?_ ?_
  · rw [hK]; kernel_rfl
  · intro vs hv
    match vs, hv with
    | [v0, v1, v2], _ => rfl
  · decide +kernel
  · kernel_rfl
  · decide +kernel
  · rfl
  · rfl
  · rfl
  · decide +kernel
  · kernel_rfl
  · intro ps H R h
    obtain ⟨_, _, _, _, _, rfl, _⟩ := h
    rfl
  · exact v_lnor
theorem m17 (hK : g.K = Kq P) : ∀ q ∈ Ga17, FnOk g q.1 q.2.1 q.2.2 := by
  intro q hq
  unfold Ga17 at hq
  simp only [List.mem_cons, List.not_mem_nil, or_false] at hq
  rcases hq with rfl | rfl | rfl | rfl | rfl | rfl | rfl | rfl | rfl | rfl | rfl | rfl | rfl | rfl | rfl | rfl | rfl
  · exact f0 hK
  · exact f1 hK
  · exact f2 hK
  · exact f3 hK
  · exact f4 hK
  · exact f5 hK
  · exact f6 hK
  · exact f7 hK
  · exact f8 hK
  · exact f9 hK
  · exact f10 hK
  · exact f11 hK
  · exact f12 hK
  · exact f13 hK
  · exact f14 hK
  · exact f15 hK
  · exact f16 hK

theorem f17 (hK : g.K = Kq P) : FnOk g q17.1 q17.2.1 q17.2.2 := by
  refine fnOk_c (x := "_law_disc") (k := 0) (S := S_ldi) (Γ := Ga17) (fa := 168) (fns := fn17) (m := 30) (lit := Lw_disc) (gok_of (gbi hK) (m17 hK)) rfl ["half", "steps"] ["found", "step", "top", "bottom", "whole", "x", "y", "a", "b", "one"] (by rw [hK]; kernel_rfl) (by rw [hK]; exact rfl) ?_ ?_ ?_ ?_ ?_ ?_ ?_ ?_ ?_ ?_ ?_ ?_
  · rw [hK]; kernel_rfl
  · intro vs hv
    match vs, hv with
    | [v0, v1], _ => rfl
  · decide +kernel
  · kernel_rfl
  · decide +kernel
  · rfl
  · rfl
  · rfl
  · decide +kernel
  · kernel_rfl
  · intro ps H R h
    obtain ⟨_, _, rfl, _⟩ := h
    rfl
  · exact v_ldi
theorem m18 (hK : g.K = Kq P) : ∀ q ∈ Ga18, FnOk g q.1 q.2.1 q.2.2 := by
  intro q hq
  unfold Ga18 at hq
  simp only [List.mem_cons, List.not_mem_nil, or_false] at hq
  rcases hq with rfl | rfl | rfl | rfl | rfl | rfl | rfl | rfl | rfl | rfl | rfl | rfl | rfl | rfl | rfl | rfl | rfl | rfl
  · exact f0 hK
  · exact f1 hK
  · exact f2 hK
  · exact f3 hK
  · exact f4 hK
  · exact f5 hK
  · exact f6 hK
  · exact f7 hK
  · exact f8 hK
  · exact f9 hK
  · exact f10 hK
  · exact f11 hK
  · exact f12 hK
  · exact f13 hK
  · exact f14 hK
  · exact f15 hK
  · exact f16 hK
  · exact f17 hK

theorem f18 (hK : g.K = Kq P) : FnOk g q18.1 q18.2.1 q18.2.2 := by
  refine fnOk_c (x := "_law_disc_right") (k := 1) (S := S_ldr) (Γ := Ga18) (fa := 173) (fns := fn18) (m := 30) (lit := Lw_disc_right) (gok_of (gbi hK) (m18 hK)) rfl ["told", "end", "half", "steps"] ["away", "place_k", "one", "other"] (by rw [hK]; kernel_rfl) (by rw [hK]; exact rfl) ?_ ?_ ?_ ?_ ?_ ?_ ?_ ?_ ?_ ?_ ?_ ?_
  · rw [hK]; kernel_rfl
  · intro vs hv
    match vs, hv with
    | [v0, v1, v2, v3], _ => rfl
  · decide +kernel
  · kernel_rfl
  · decide +kernel
  · rfl
  · rfl
  · rfl
  · decide +kernel
  · kernel_rfl
  · intro ps H R h
    obtain ⟨_, _, _, _, _, rfl, _⟩ := h
    rfl
  · exact v_ldr (by decide) _ rfl
theorem m19 (hK : g.K = Kq P) : ∀ q ∈ Ga19, FnOk g q.1 q.2.1 q.2.2 := by
  intro q hq
  unfold Ga19 at hq
  simp only [List.mem_cons, List.not_mem_nil, or_false] at hq
  rcases hq with rfl | rfl | rfl | rfl | rfl | rfl | rfl | rfl | rfl | rfl | rfl | rfl | rfl | rfl | rfl | rfl | rfl | rfl | rfl
  · exact f0 hK
  · exact f1 hK
  · exact f2 hK
  · exact f3 hK
  · exact f4 hK
  · exact f5 hK
  · exact f6 hK
  · exact f7 hK
  · exact f8 hK
  · exact f9 hK
  · exact f10 hK
  · exact f11 hK
  · exact f12 hK
  · exact f13 hK
  · exact f14 hK
  · exact f15 hK
  · exact f16 hK
  · exact f17 hK
  · exact f18 hK

theorem f19 (hK : g.K = Kq P) : FnOk g q19.1 q19.2.1 q19.2.2 := by
  refine fnOk_c (x := "_law_square") (k := 1) (S := S_lsq) (Γ := Ga19) (fa := 180) (fns := fn19) (m := 30) (lit := Lw_square) (gok_of (gbi hK) (m19 hK)) rfl ["end_in", "end", "half"] ["x", "y", "left", "right"] (by rw [hK]; kernel_rfl) (by rw [hK]; exact rfl) ?_ ?_ ?_ ?_ ?_ ?_ ?_ ?_ ?_ ?_ ?_ ?_
  · rw [hK]; kernel_rfl
  · intro vs hv
    match vs, hv with
    | [v0, v1, v2], _ => rfl
  · decide +kernel
  · kernel_rfl
  · decide +kernel
  · rfl
  · rfl
  · rfl
  · decide +kernel
  · kernel_rfl
  · intro ps H R h
    obtain ⟨_, _, _, _, _, rfl, _⟩ := h
    rfl
  · exact v_lsq (by decide) _ rfl
theorem m20 (hK : g.K = Kq P) : ∀ q ∈ Ga20, FnOk g q.1 q.2.1 q.2.2 := by
  intro q hq
  unfold Ga20 at hq
  simp only [List.mem_cons, List.not_mem_nil, or_false] at hq
  rcases hq with rfl | rfl | rfl | rfl | rfl | rfl | rfl | rfl | rfl | rfl | rfl | rfl | rfl | rfl | rfl | rfl | rfl | rfl | rfl | rfl
  · exact f0 hK
  · exact f1 hK
  · exact f2 hK
  · exact f3 hK
  · exact f4 hK
  · exact f5 hK
  · exact f6 hK
  · exact f7 hK
  · exact f8 hK
  · exact f9 hK
  · exact f10 hK
  · exact f11 hK
  · exact f12 hK
  · exact f13 hK
  · exact f14 hK
  · exact f15 hK
  · exact f16 hK
  · exact f17 hK
  · exact f18 hK
  · exact f19 hK

end
end Mine
end

section
set_option maxRecDepth 20000
namespace Mine
open PySem.Calls

noncomputable def lawNs : List Str := ["script", "k", "source", "turn", "end_in", "way_now", "x", "y", "end", "half", "steps", "left", "low", "told"]

theorem law_walk {PT P : Program} {w : World} {loose : List Str} {mean : ExcName → Option Value} {mg mb : Str → Option Value} {h₀ : Heap} {a fa : Addr} {vs : List Value} {ns : List Int} {name : Str} {sc : Scope} {body : List Stmt} {cd : Value} {s : Shared} {mLs : Str → Option Value} {Q : Flow → Shared → Prop} {E : Value → Shared → Prop}
    (KX : (heapK w.params).In h₀) (T : Top PT loose mean mg mb h₀) (hL : h₀.IsList a vs.toArray) (hI : IntsAre vs ns) (hn : ns.length ≤ 63) (F : Fr h₀ h₀.objs.size s.heap mLs) (hmL : mLs "script" = some (.ref a)) (N : News h₀ h₀.objs.size s.heap [])
    (hp : P.given.tree = none) (hi : importsNone PT = true) (hk : sc.kind = .function) (hgen : sc.isGenerator = false) (hco : sc.isCoroutine = false) (hcells : (sc.names.all fun y => y.2 != .cell) = true) (hc : cSs fn20 sc lawNs 30 body = some Llaw)
    (hQ : ∀ h' tk m', Fr h₀ h₀.objs.size h' m' → Q (.ret (.bool true)) { s with heap := h', toks := tk }) :
    wpAny (model P w) (callerA.deeper (envOf name sc h₀.objs.size fa cd)) (execs body (envOf name sc h₀.objs.size fa cd)) Q E s := by
  let env : Env := envOf name sc h₀.objs.size fa cd
  let g : Gl := ⟨P, PT, w, heapK w.params, loose, mean, mg, mb, a, vs, ns⟩
  let f : Fx := ⟨callerA.deeper env, env, h₀, mLs, fun _ => none, [], []⟩
  have C : Cx g true 4 f.A f.env f.h₀ :=
    { X := KX
      T := T
      hh := rfl
      hd := (by decide : 1 + claimMargin + 1 + 4 ≤ 850)
      hu := (by decide : 4 + 3 + 4 * 4 ≤ 9000)
      hk := hk
      hg := rfl
      hb := rfl
      seer := .inr trivial
      scr := hL
      scI := hI
      scL := hn
      fr := ⟨env, [], Around.frames_deeper (below_caller h₀).stack, hgen, hco, rfl, rfl⟩
      cal := fun _ => ⟨rfl, callerA, h₀, [], below_caller h₀, Around.frames_deeper (below_caller h₀).stack⟩
      tree := hp
      noImp := hi
      kl := fun _ _ => rfl
      kc := fun x hx => by
        have hm := lookup_mem (hx : sc.names.lookup x = some .cell)
        have := List.all_eq_true.mp hcells _ hm
        simp at this }
  have S : f.St s.heap [] [] [] :=
    { fr := F, nw := N, ls := .nil, hd := List.nodup_nil, cd := List.nodup_nil
      hr := by intro p hp; cases hp
      tr := by intro p hp; cases hp
      fc := by intro p hp; cases hp
      ca := by intro x c hx; cases hx
      ci := by intro x y c hx; cases hx }
  have L : LocRep g [] [("script", .scr)] f.comb := by
    intro x p h
    rw [List.lookup_cons] at h
    cases hx : (x == ("script" : Str)) with
    | true =>
      rw [hx] at h
      cases h
      have := beq_iff_eq.mp hx
      subst this
      exact ⟨.ref a, hmL, rfl⟩
    | false =>
      rw [hx] at h
      cases h
  have hnd : lawNs.Nodup := by decide +kernel
  have S0 : Sub lawNs ([PV.scr].map some ++ List.replicate 13 none) ((([("script" : Str)]).zip [PV.scr]).reverse ++ []) := by
    refine sub_push (xs := ["script"]) (ns := lawNs.tail) rfl hnd fun i y p _ h => ?_
    have := tat_some h
    rw [List.getElem?_replicate] at this
    split at this <;> simp at this
  have TR := cSs_ok (d := 4) (b := true) (gok_of (gbi (g := g) (P := w.params) rfl) (m20 rfl)) (Γ := Ga20) rfl hnd 30 body Llaw hc _ _ f [] [] (fun _ _ => False) (fun p _ => p = .dat (.bool true)) C rfl S0
    (v_law (g := g) (Γ := Ga20) (k := 4) (by decide) _ _ _ _ _ _ _ rfl rfl rfl rfl rfl rfl rfl [])
  refine wpAny_noRaise (TR s [] Q S L (fun σ' H' mL' cm' cl' h' tk tl' hs' r m c S2 L2 => ?_) (fun p H' mL' cm' cl' v h' tk tl' hs' r m c S2 rv => ?_))
  · obtain ⟨_, _, r⟩ := r
    exact r.elim
  · have r' : p = .dat (.bool true) := r
    subst r'
    obtain rfl := datIn_bool rv
    exact hQ h' tk mL' S2.fr
end Mine
end

set_option maxRecDepth 100000 in
set_option maxHeartbeats 8000000 in
theorem PySem.Challenge.cw_on0230_01_holds : PySem.Challenge.rw_on0230_01.Holds := by
  w_on
  o_law
  refine holds_open (q := Mine.vw) (loose := []) (Xt := fun s => xlAt Mine.vw [] s && recOk (RowW.records Mine.rrow) s) (XP := XL Mine.vw []) (Yf := Hook.obs Mine.HK) (Ya := Hook.val Mine.HK) (YP := Hook.says Mine.HK) (N := 2464) Mine.leftW (Hook.of Mine.HK) (Hook.keeps Mine.HK) (fun s e => xl_of s (Bool.and_eq_true_iff.mp e).1) XL.keeps (by rfl) (by rfl) (by rfl) (fun s e => recFacts_of (Bool.and_eq_true_iff.mp e).2) (by rfl) (by first | assumption | decide +kernel) (by decide +kernel) ⟨rfl, rfl, rfl, rfl, rfl, by decide +kernel⟩ ?hw ?hcall
  case hw => w_witness2
  k_go0
  refine Mine.law_walk (PT := ?zPT) (loose := ?zloose) (mean := ?zmean) (mg := ?zmg) (mb := ?zmb) (a := ?za) (vs := ?zvs) (ns := ?zns) (mLs := ?zmLs) ?KX ?T ?hL ?hI ?hn ?F ?hmL ?N ?hp ?hi ?hk ?hgen ?hco ?hcells ?hc ?hQ
  case KX => assumption
  case T => assumption
  case hL => assumption
  case hI => assumption
  case F => assumption
  case N => assumption
  case hn => omega
  case hmL => rfl
  case hp => kernel_rfl
  case hi => kernel_rfl
  case hk => rfl
  case hgen => rfl
  case hco => rfl
  case hcells => kernel_rfl
  case hc => kernel_rfl
  case hQ =>
    intro h' tk m' F'
    refine goodW_bool F' (by assumption) (raisesW_false ?_) ?_
    · wrow_none_raised
    · wrow_post
