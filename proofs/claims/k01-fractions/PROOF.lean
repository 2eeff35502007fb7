import PyProof.Rows.All
import Wide.All
import OpenK.AllK
import Wide.FinOn
import HandS.ForMost
import HandS.Exc
import HandS.ExcOwn
import HandS.WordsExc
import HandS.Walk
import HandS.Wide
import HandS.Gcd
import HandS.TupAny
import HandS.TupMul
import HandS.Deep
import KE.GoesEnum
import KE.GoesZip
import KE.GoesMore
import HandS.Style
import HandS.Ends
import HandS.Head0
import HandS.Head1
import HandS.Head2
import HandS.HeadEnd
import HandS.HeadHook1
import HandS.HeadHook2
import HandS.Steps
import HandS.Dict
import HandS.WordsDict
import HandS.Comp
import KE.KExcSuper
import HandS.ExcSuper
import HandS.HeadWalk
import HandS.ExcIs
import HandS.TryOnly
import PyProof.ReprLoop
import HandS.Head3
import PySem.Challenge.RW_veiledchains_k01_whole_fractions_beside
set_option Elab.async false
set_option linter.all false
set_option maxRecDepth 100000
set_option maxHeartbeats 4000000
set_option exponentiation.threshold 10000
namespace Dl
open PySem PySem.Spec PyProof.Rows L2

abbrev Dk := Option (Addr × Addr)
def Sub (F F' : Hp) : Prop := ∀ a o, F a = some o → F' a = some o
theorem Sub.refl (F : Hp) : Sub F F := fun _ _ h => h
theorem Sub.trans {F F1 F2 : Hp} (a : Sub F F1) (b : Sub F1 F2) : Sub F F2 := fun c o h => b c o (a c o h)
theorem Sub.free0 {F F' : Hp} (s : Sub F F') {a : Addr} (h : F' a = none) : F a = none := by
  cases q : F a with
  | none => rfl
  | some o => rw [s a o q] at h; cases h
theorem Sub.put {F : Hp} {p : Addr} {o : HO} (h : F p = none) : Sub F (upd F p o) := fun a u e => by
  rw [upd_ne (ne_of_none e h)]; exact e
theorem Sub.seqL {K} {F F' : Hp} (s : Sub F F') {a : Addr} {xs : List V} (h : SqL K F a xs) : SqL K F' a xs := Same.seq s h
theorem Sub.seqT {K} {F F' : Hp} (s : Sub F F') {a : Addr} {xs : List V} (h : SqT K F a xs) : SqT K F' a xs := by
  rcases h with (h | ⟨o, h⟩) | h
  · exact .inl (.inl (s _ _ h))
  · exact .inl (.inr ⟨o, s _ _ h⟩)
  · exact .inr h
theorem Sub.rd {F F' : Hp} (s : Sub F F') {a : Addr} {u : HO} (h : Rd F a u) : Rd F' a u := h.elim (fun e => .inl (s _ _ e)) fun ⟨o, e⟩ => .inr ⟨o, s _ _ e⟩
/-! ### data under a value -/
mutual
inductive Dq (K : PySem.W.Frag) (H : Hp) : V → PyData → Prop
  | non : Dq K H .non .none
  | bl (b : Bool) : Dq K H (.bl b) (.bool b)
  | int (i : Int) : Dq K H (.int i) (.int i)
  | str (x : Str) : Dq K H (.str x) (.str x)
  | lst {a : Addr} {vs : List V} {ds : List PyData} : H a = some (.lst vs) → DqAll K H vs ds → Dq K H (.ref a) (.list ds)
  | tup {a : Addr} {vs : List V} {ds : List PyData} : SqT K H a vs → DqAll K H vs ds → Dq K H (.ref a) (.tuple ds)
inductive DqAll (K : PySem.W.Frag) (H : Hp) : List V → List PyData → Prop
  | nil : DqAll K H [] []
  | cons {v : V} {vs : List V} {d : PyData} {ds : List PyData} : Dq K H v d → DqAll K H vs ds → DqAll K H (v :: vs) (d :: ds)
end
mutual
theorem dq_dp {K} {F : Hp} : ∀ (d : PyData) (v : V), Dq K F v d → Dp K F v d
  | .none, _, h => by cases h; exact .non
  | .bool b, _, h => by cases h; exact .bl b
  | .int i, _, h => by cases h; exact .int i
  | .str x, _, h => by cases h; exact .str x
  | .list ds, _, h => by cases h with | lst a b => exact .lst (SqL.of a) (dq_dpA ds _ b)
  | .tuple ds, _, h => by cases h with | tup a b => exact .tup a (dq_dpA ds _ b)
  | .dict _, _, h => by cases h
theorem dq_dpA {K} {F : Hp} : ∀ (ds : List PyData) (vs : List V), DqAll K F vs ds → DpAll K F vs ds
  | [], _, h => by cases h; exact .nil
  | d :: ds, _, h => by cases h with | cons a b => exact .cons (dq_dp d _ a) (dq_dpA ds _ b)
end
mutual
theorem dq_mono {K} {F F' : Hp} (s : Sub F F') : ∀ (d : PyData) (v : V), Dq K F v d → Dq K F' v d
  | .none, _, h => by cases h; exact .non
  | .bool b, _, h => by cases h; exact .bl b
  | .int i, _, h => by cases h; exact .int i
  | .str x, _, h => by cases h; exact .str x
  | .list ds, _, h => by cases h with | lst a b => exact .lst (s _ _ a) (dq_monoA s ds _ b)
  | .tuple ds, _, h => by cases h with | tup a b => exact .tup (s.seqT a) (dq_monoA s ds _ b)
  | .dict _, _, h => by cases h
theorem dq_monoA {K} {F F' : Hp} (s : Sub F F') : ∀ (ds : List PyData) (vs : List V), DqAll K F vs ds → DqAll K F' vs ds
  | [], _, h => by cases h; exact .nil
  | d :: ds, _, h => by cases h with | cons a b => exact .cons (dq_mono s d _ a) (dq_monoA s ds _ b)
end
theorem Dq.dp {K} {F : Hp} {v : V} {d : PyData} (h : Dq K F v d) : Dp K F v d := dq_dp d v h
theorem Dq.mono {K} {F F' : Hp} {v : V} {d : PyData} (h : Dq K F v d) (s : Sub F F') : Dq K F' v d := dq_mono s d v h
theorem DqAll.mono {K} {F F' : Hp} {v : List V} {d : List PyData} (h : DqAll K F v d) (s : Sub F F') : DqAll K F' v d := dq_monoA s d v h
theorem DqAll.length {K} {F : Hp} : ∀ {vs : List V} {ds : List PyData}, DqAll K F vs ds → vs.length = ds.length
  | _, _, .nil => rfl
  | _, _, .cons _ t => congrArg Nat.succ (DqAll.length t)
theorem DqAll.get {K} {F : Hp} : ∀ {vs : List V} {ds : List PyData} {i : Nat} {v : V}, DqAll K F vs ds → vs[i]? = some v → ∃ d, ds[i]? = some d ∧ Dq K F v d
  | _, _, _, _, .nil, e => by simp at e
  | _, _, 0, v, .cons r _, e => ⟨_, rfl, by have : _ = v := Option.some.inj e; subst this; exact r⟩
  | _, _, i + 1, v, .cons _ t, e => by
    obtain ⟨d, h1, h2⟩ := DqAll.get (i := i) (v := v) t (by simpa using e)
    exact ⟨d, by simpa using h1, h2⟩
theorem DqAll.getD {K} {F : Hp} : ∀ {vs : List V} {ds : List PyData} {i : Nat} {d : PyData}, DqAll K F vs ds → ds[i]? = some d → ∃ v, vs[i]? = some v ∧ Dq K F v d
  | _, _, _, _, .nil, e => by simp at e
  | _, _, 0, v, .cons r _, e => ⟨_, rfl, by have : _ = v := Option.some.inj e; subst this; exact r⟩
  | _, _, i + 1, v, .cons _ t, e => by
    obtain ⟨d, h1, h2⟩ := DqAll.getD (i := i) (d := v) t (by simpa using e)
    exact ⟨d, by simpa using h1, h2⟩
theorem DqAll.append {K} {F : Hp} : ∀ {vs vs' : List V} {ds ds' : List PyData}, DqAll K F vs ds → DqAll K F vs' ds' → DqAll K F (vs ++ vs') (ds ++ ds')
  | _, _, _, _, .nil, h => h
  | _, _, _, _, .cons r t, h => .cons r (DqAll.append t h)
theorem DqAll.take {K} {F : Hp} : ∀ {vs : List V} {ds : List PyData} (n : Nat), DqAll K F vs ds → DqAll K F (vs.take n) (ds.take n)
  | _, _, 0, _ => .nil
  | _, _, _ + 1, .nil => .nil
  | _, _, n + 1, .cons r t => .cons r (DqAll.take n t)
theorem DqAll.drop {K} {F : Hp} : ∀ {vs : List V} {ds : List PyData} (n : Nat), DqAll K F vs ds → DqAll K F (vs.drop n) (ds.drop n)
  | _, _, 0, h => h
  | _, _, _ + 1, .nil => .nil
  | _, _, n + 1, .cons _ t => DqAll.drop n t
theorem DqAll.set {K} {F : Hp} {v : V} {d : PyData} (r : Dq K F v d) : ∀ {vs : List V} {ds : List PyData} (i : Nat), DqAll K F vs ds → DqAll K F (vs.set i v) (ds.set i d)
  | _, _, _, .nil => .nil
  | _, _, 0, .cons _ t => .cons r t
  | _, _, i + 1, .cons q t => .cons q (DqAll.set r i t)
theorem DqAll.snoc {K} {F : Hp} {vs : List V} {ds : List PyData} {v : V} {d : PyData} (h : DqAll K F vs ds) (r : Dq K F v d) : DqAll K F (vs ++ [v]) (ds ++ [d]) := h.append (.cons r .nil)
theorem DqAll.eraseIdx {K} {F : Hp} : ∀ {vs : List V} {ds : List PyData} (i : Nat), DqAll K F vs ds → DqAll K F (vs.eraseIdx i) (ds.eraseIdx i)
  | _, _, _, .nil => .nil
  | _, _, 0, .cons _ t => t
  | _, _, i + 1, .cons q t => .cons q (DqAll.eraseIdx i t)
theorem DqAll.ints {K} {F : Hp} : ∀ {vs : List V} {ns : List Int}, DqAll K F vs (ns.map PyData.int) → vs = ns.map V.int
  | _, [], h => by cases h; rfl
  | _, n :: ns, h => by
    cases h with
    | cons a b => cases a; rw [DqAll.ints b]; rfl
theorem DqAll.ofInts {K} {F : Hp} : ∀ (ns : List Int), DqAll K F (ns.map V.int) (ns.map PyData.int)
  | [] => .nil
  | n :: ns => .cons (.int n) (DqAll.ofInts ns)
theorem DqAll.strs {K} {F : Hp} : ∀ {vs : List V} {ns : List Str}, DqAll K F vs (ns.map PyData.str) → vs = ns.map V.str
  | _, [], h => by cases h; rfl
  | _, n :: ns, h => by
    cases h with
    | cons a b => cases a; rw [DqAll.strs b]; rfl
theorem DqAll.ofStrs {K} {F : Hp} : ∀ (ns : List Str), DqAll K F (ns.map V.str) (ns.map PyData.str)
  | [] => .nil
  | n :: ns => .cons (.str n) (DqAll.ofStrs ns)

/-! ### cells, slots, results -/
inductive Cell where
  | lst (xs : List PyData)
def Cell.toD : Cell → Option PyData
  | .lst xs => some (.list xs)
/-- what a name holds: nothing, data that stays, a cell of its own, the law's deck of draws -/
inductive Sl where
  | no | d (x : PyData) | own (c : Cell) | deck | opq (v : V)
abbrev En := List Sl
/-- a value on its way: data that stays; a new cell; the cell of the i-th name; the deck; a new deck -/
inductive R where
  | d (x : PyData) | nw (c : Cell) | bw (i : Nat) (c : Cell) | deck | opq (v : V)
def R.toD : R → Option PyData
  | .d x => some x
  | .nw c => c.toD
  | .bw _ c => c.toD
  | .deck => none
  | .opq _ => none
structure Exn where
  cls : Str
  val : List (Str × PyData)
/-- what stays through the whole law: the written part, the module's names, what the law's deck of draws is like -/
structure DG where
  K : PySem.W.Frag
  mg : Str → Option Value
  dki : Addr → HO → HO → Prop
/-- .. and what stood ahead: the heap (all of it stays), its data, the deck -/
structure DC where
  g : DG
  B : Hp
  F0 : Hp
  dk0 : Dk
def Off (dk : Dk) (a : Addr) : Prop := ∀ da dl, dk = some (da, dl) → a ≠ da ∧ a ≠ dl
def DeckOk (g : DG) (H F : Hp) : Dk → Prop
  | none => True
  | some (da, dl) => F da = none ∧ F dl = none ∧ da ≠ dl ∧ ∃ o1 o2, H da = some o1 ∧ H dl = some o2 ∧ g.dki dl o1 o2
def CellOk (K : PySem.W.Frag) (F : Hp) : Cell → HO → Prop
  | .lst xs, .lst vs => DqAll K F vs xs
  | _, _ => False
theorem CellOk.mono {K} {F F' : Hp} {c : Cell} {o : HO} (h : CellOk K F c o) (s : Sub F F') : CellOk K F' c o := by
  cases c with
  | lst xs => cases o <;> first | exact DqAll.mono h s | exact h
/-- a cell at p that no other one knows -/
structure Priv (C : DC) (dk : Dk) (H F : Hp) (p : Addr) (c : Cell) : Prop where
  nf : F p = none
  nb : C.B p = none
  off : Off dk p
  at_ : ∃ ho, H p = some ho ∧ CellOk C.g.K F c ho
def SlOk (C : DC) (dk : Dk) (H F : Hp) : Sl → Option V → Prop
  | .no, _ => True
  | .d x, o => ∃ v, o = some v ∧ Dq C.g.K F v x
  | .own c, o => ∃ p, o = some (.ref p) ∧ Priv C dk H F p c
  | .deck, o => ∃ da dl, dk = some (da, dl) ∧ o = some (.ref da)
  | .opq v, o => o = some v
abbrev gt (σ : L2.St) (i : Nat) : Option V := (σ[i]?).getD none
structure Ok (C : DC) (dk : Dk) (σ : L2.St) (H F : Hp) (env : En) : Prop where
  sub : Sub F H
  len : σ.length = env.length
  slot : ∀ i s, env[i]? = some s → SlOk C dk H F s (gt σ i)
  sep : ∀ i j c c' p, env[i]? = some (.own c) → env[j]? = some (.own c') → gt σ i = some (.ref p) → gt σ j = some (.ref p) → i = j
  deck : DeckOk C.g H F dk
  base : ∀ a o, C.B a = some o → Off C.dk0 a → H a = some o
  fnew : ∀ a o, F a = some o → C.F0 a = none → C.B a = none
  f0 : Sub C.F0 F
  dkr : dk = C.dk0 ∨ (C.dk0 = none ∧ ∀ da dl, dk = some (da, dl) → C.B da = none ∧ C.B dl = none)
def ROk (C : DC) (dk : Dk) (σ : L2.St) (H F : Hp) (env : En) : R → V → Prop
  | .d x, v => Dq C.g.K F v x
  | .nw c, v => ∃ p, v = .ref p ∧ Priv C dk H F p c ∧ ∀ (i : Nat) c', env[i]? = some (.own c') → gt σ i ≠ some (.ref p)
  | .bw i c, v => (env[i]? = some (.own c) ∨ ∃ x, c.toD = some x ∧ env[i]? = some (.d x)) ∧ gt σ i = some v
  | .deck, v => ∃ da dl, dk = some (da, dl) ∧ v = .ref da
  | .opq x, v => v = x
def EnLe (env env' : En) : Prop := ∀ (i : Nat) (s : Sl), env[i]? = some s → env'[i]? = some s ∨ ∃ (c : Cell) (x : PyData), s = Sl.own c ∧ c.toD = some x ∧ env'[i]? = some (Sl.d x)
theorem EnLe.refl (e : En) : EnLe e e := fun _ _ h => .inl h
theorem EnLe.trans {a b c : En} (h : EnLe a b) (h' : EnLe b c) : EnLe a c := fun i s e => by
  rcases h i s e with q | ⟨k, x, r1, r2, r3⟩
  · exact h' i s q
  · rcases h' i _ r3 with q | ⟨k', x', q, _⟩
    · exact .inr ⟨k, x, r1, r2, q⟩
    · cases q
def XOk (C : DC) (F H : Hp) (x : Exn) (cls : Value) (d : Option Addr) : Prop :=
  ∃ a, C.g.mg x.cls = some (.ref a) ∧ cls = .ref a ∧ match x.val with
    | [] => d = none
    | fs => ∃ (dd : Addr) (vs : List (Str × V)), d = some dd ∧ H dd = some (.xd vs) ∧ Paired (fun p q => p.1 = q.1 ∧ Dq C.g.K F p.2 q.2) vs fs
/-- what an expression does, by data -/
abbrev WE := En → (R → En → Prop) → (Exn → En → Prop) → Prop
def L (G : DG) (W : WX) (w : WE) : TE := fun σ H Q => ∃ (C : DC) (dk : Dk) (F : Hp) (env : En) (P : R → En → Prop) (Ex : Exn → En → Prop), C.g = G ∧ Ok C dk σ H F env ∧ w env P Ex ∧
  (∀ r env' v H' F', P r env' → Sub F F' → EnLe env env' → Ok C dk σ H' F' env' → ROk C dk σ H' F' env' r v → Q v H') ∧
  (∀ x env' cls d H' F', Ex x env' → Sub F F' → EnLe env env' → Ok C dk σ H' F' env' → XOk C F' H' x cls d → W cls d σ H')
structure Ev (G : DG) (W : WX) (X : Cx) (e : Expr) (w : WE) : Prop where
  pe : PE X e (L G W w)
theorem PE.imp {X : Cx} {e : Expr} {t u : TE} (h : PE X e t) (i : ∀ σ H Q, u σ H Q → t σ H Q) : PE X e u := ⟨fun pins s σ H Q I q => h.run pins s σ H Q I (i σ H Q q)⟩
/-! ### what lies under a value -/
section
variable {C : DC} {dk : Dk} {σ : L2.St} {H H' F F' : Hp} {env env' : En} {r : R} {v : V} {x : PyData} {c : Cell} {p : Addr}
theorem gt_of {i : Nat} {v : V} (h : gt σ i = some v) : σ[i]? = some (some v) := by
  unfold gt at h
  cases e : σ[i]? with
  | none => rw [e] at h; cases h
  | some o => rw [e] at h; have : o = some v := h; rw [this]
theorem Priv.dp (h : Priv C dk H F p c) (s : Sub F H) (e : c.toD = some x) : Dq C.g.K H (.ref p) x := by
  obtain ⟨ho, e1, k⟩ := h.at_
  cases c with
  | lst xs =>
    cases e
    cases ho <;> first | exact .lst e1 (DqAll.mono k s) | exact False.elim k
theorem ROk.dp (o : Ok C dk σ H F env) (h : ROk C dk σ H F env r v) (e : r.toD = some x) : Dq C.g.K H v x := by
  cases r with
  | d y => cases e; exact Dq.mono h o.sub
  | nw c => obtain ⟨p, rfl, k, _⟩ := h; exact k.dp o.sub e
  | bw i c =>
    obtain ⟨h1 | ⟨y, e1, h1⟩, h2⟩ := h
    · obtain ⟨p, q, k⟩ := o.slot _ _ h1
      rw [h2] at q; cases q
      exact k.dp o.sub e
    · have e' : c.toD = some x := e
      rw [e'] at e1; cases e1
      obtain ⟨w, q, k⟩ := o.slot _ _ h1
      rw [h2] at q; cases q
      exact Dq.mono k o.sub
  | deck => cases e
  | opq z => cases e
/-- the items of a list or a tuple stay, whoever holds it -/
theorem ROk.lst {ds : List PyData} (o : Ok C dk σ H F env) (h : ROk C dk σ H F env r v) (e : r.toD = some (.list ds)) : ∃ p vs, v = .ref p ∧ H p = some (.lst vs) ∧ DqAll C.g.K F vs ds := by
  have P : ∀ {p c}, Priv C dk H F p c → c.toD = some (.list ds) → ∃ vs, H p = some (.lst vs) ∧ DqAll C.g.K F vs ds := fun {p c} k e => by
    obtain ⟨ho, e1, k1⟩ := k.at_
    cases c with
    | lst xs =>
      cases e
      cases ho <;> first | exact ⟨_, e1, k1⟩ | exact False.elim k1
  have D : ∀ {w : V}, Dq C.g.K F w (.list ds) → ∃ p vs, w = .ref p ∧ H p = some (.lst vs) ∧ DqAll C.g.K F vs ds := fun {w} k => by
    cases k with | lst a b => exact ⟨_, _, rfl, o.sub _ _ a, b⟩
  cases r with
  | d y => cases e; exact D h
  | nw c =>
    obtain ⟨p, rfl, k, _⟩ := h
    obtain ⟨vs, a, b⟩ := P k e
    exact ⟨p, vs, rfl, a, b⟩
  | bw i c =>
    obtain ⟨h1 | ⟨y, e1, h1⟩, h2⟩ := h
    · obtain ⟨p, q, k⟩ := o.slot _ _ h1
      rw [h2] at q; cases q
      obtain ⟨vs, a, b⟩ := P k e
      exact ⟨p, vs, rfl, a, b⟩
    · have e' : c.toD = some (.list ds) := e
      rw [e'] at e1; cases e1
      obtain ⟨w, q, k⟩ := o.slot _ _ h1
      rw [h2] at q; cases q
      exact D k
  | deck => cases e
  | opq z => cases e
theorem ROk.tup {ds : List PyData} (o : Ok C dk σ H F env) (h : ROk C dk σ H F env r v) (e : r.toD = some (.tuple ds)) : ∃ p vs, v = .ref p ∧ SqT C.g.K H p vs ∧ DqAll C.g.K F vs ds := by
  have D : ∀ {w : V}, Dq C.g.K F w (.tuple ds) → ∃ p vs, w = .ref p ∧ SqT C.g.K H p vs ∧ DqAll C.g.K F vs ds := fun {w} k => by
    cases k with | tup a b => exact ⟨_, _, rfl, o.sub.seqT a, b⟩
  cases r with
  | d y => cases e; exact D h
  | nw c => cases c; cases e
  | bw i c => cases c; cases e
  | deck => cases e
  | opq z => cases e
theorem ROk.int {i : Int} (o : Ok C dk σ H F env) (h : ROk C dk σ H F env r v) (e : r.toD = some (.int i)) : v = .int i := by
  have := h.dp o e
  cases this; rfl
theorem ROk.str {i : Str} (o : Ok C dk σ H F env) (h : ROk C dk σ H F env r v) (e : r.toD = some (.str i)) : v = .str i := by
  have := h.dp o e
  cases this; rfl
theorem ROk.bool {i : Bool} (o : Ok C dk σ H F env) (h : ROk C dk σ H F env r v) (e : r.toD = some (.bool i)) : v = .bl i := by
  have := h.dp o e
  cases this; rfl
theorem ROk.non (o : Ok C dk σ H F env) (h : ROk C dk σ H F env r v) (e : r.toD = some .none) : v = .non := by
  have := h.dp o e
  cases this; rfl
/-- what is on its way stays while another expression runs: not a new cell -/
def R.still : R → Prop
  | .nw _ => False
  | _ => True
theorem ROk.keep (h : ROk C dk σ H F env r v) (st : r.still) (s : Sub F F') (l : EnLe env env') : ROk C dk σ H' F' env' r v := by
  cases r with
  | d y => exact Dq.mono h s
  | nw c => exact st.elim
  | bw i c =>
    refine ⟨?_, h.2⟩
    rcases h.1 with q | ⟨y, e, q⟩
    · rcases l _ _ q with z | ⟨c', x, z, z2, z3⟩
      · exact .inl z
      · cases z; exact .inr ⟨x, z2, z3⟩
    · rcases l _ _ q with z | ⟨c', x, z, _⟩
      · exact .inr ⟨y, e, z⟩
      · cases z
  | deck => exact h
  | opq z => exact h
/-- H has all that B has -/
theorem Ok.nb (o : Ok C dk σ H F env) (h : H p = none) : C.B p = none := by
  cases q : C.B p with
  | none => rfl
  | some u =>
    have z := o.base p u q
    cases e : C.dk0 with
    | none => rw [z fun da dl w => by rw [e] at w; cases w] at h; cases h
    | some k =>
      obtain ⟨da, dl⟩ := k
      have ed : dk = some (da, dl) := by rcases o.dkr with w | ⟨w, _⟩; rw [w, e]; rw [e] at w; cases w
      have D := o.deck
      rw [ed] at D
      obtain ⟨_, _, _, o1, o2, h1, h2, _⟩ := D
      by_cases a1 : p = da
      · subst a1; rw [h1] at h; cases h
      · by_cases a2 : p = dl
        · subst a2; rw [h2] at h; cases h
        · rw [z fun da' dl' w => by rw [e] at w; cases w; exact ⟨a1, a2⟩] at h; cases h
theorem Ok.offNew (o : Ok C dk σ H F env) (h : H p = none) : Off dk p := fun da dl w => by
  have D := o.deck
  rw [w] at D
  obtain ⟨_, _, _, o1, o2, h1, h2, _⟩ := D
  constructor
  · intro z; subst z; rw [h1] at h; cases h
  · intro z; subst z; rw [h2] at h; cases h
theorem Ok.ownNe (o : Ok C dk σ H F env) (h : H p = none) : ∀ (i : Nat) c', env[i]? = some (.own c') → gt σ i ≠ some (.ref p) := fun i c' e z => by
  obtain ⟨q, e1, k⟩ := o.slot _ _ e
  rw [z] at e1; cases e1
  obtain ⟨ho, w, _⟩ := k.at_
  rw [h] at w; cases w
/-- a new object at p -/
theorem Ok.newCell (o : Ok C dk σ H F env) (u : HO) (h : H p = none) : Ok C dk σ (upd H p u) F env where
  sub := o.sub.trans (Sub.put h)
  len := o.len
  slot := fun i s e => by
    have q := o.slot i s e
    cases s with
    | no => exact q
    | d x => exact q
    | own c =>
      obtain ⟨a, e1, k⟩ := q
      obtain ⟨ho, w, k2⟩ := k.at_
      exact ⟨a, e1, k.nf, k.nb, k.off, ho, by rw [upd_ne (ne_of_none w h)]; exact w, k2⟩
    | deck => exact q
    | opq z => exact q
  sep := o.sep
  deck := by
    have D := o.deck
    cases dk with
    | none => trivial
    | some k =>
      obtain ⟨da, dl⟩ := k
      obtain ⟨a1, a2, a3, o1, o2, h1, h2, a4⟩ := D
      exact ⟨a1, a2, a3, o1, o2, by rw [upd_ne (ne_of_none h1 h)]; exact h1, by rw [upd_ne (ne_of_none h2 h)]; exact h2, a4⟩
  base := fun a u' e f => by
    have z := o.base a u' e f
    rw [upd_ne (ne_of_none z h)]; exact z
  fnew := o.fnew
  f0 := o.f0
  dkr := o.dkr
theorem Ok.newPriv (o : Ok C dk σ H F env) {u : HO} (h : H p = none) (k : CellOk C.g.K F c u) : ROk C dk σ (upd H p u) F env (.nw c) (.ref p) :=
  ⟨p, rfl, ⟨o.sub.free0 h, o.nb h, o.offNew h, u, upd_same, k⟩, o.ownNe h⟩
/-- an object that no name's cell and no deck is, is held for good -/
theorem Ok.hold (o : Ok C dk σ H F env) {u : HO} (hu : H p = some u) (nf : F p = none) (nb : C.B p = none) (off : Off dk p) (no : ∀ (i : Nat) c', env[i]? = some (.own c') → gt σ i ≠ some (.ref p)) :
    Ok C dk σ H (upd F p u) env where
  sub := fun a w e => by
    by_cases q : a = p
    · subst q; rw [upd_same] at e; rw [hu]; exact e
    · rw [upd_ne q] at e; exact o.sub a w e
  len := o.len
  slot := fun i s e => by
    have q := o.slot i s e
    cases s with
    | no => exact q
    | d x => obtain ⟨v, e1, k⟩ := q; exact ⟨v, e1, Dq.mono k (Sub.put nf)⟩
    | own c =>
      obtain ⟨a, e1, k⟩ := q
      have ne : a ≠ p := fun z => no i c e (by rw [← z]; exact e1)
      obtain ⟨ho, w, k2⟩ := k.at_
      exact ⟨a, e1, by rw [upd_ne ne]; exact k.nf, k.nb, k.off, ho, w, CellOk.mono k2 (Sub.put nf)⟩
    | deck => exact q
    | opq z => exact q
  sep := o.sep
  deck := by
    have D := o.deck
    cases dk with
    | none => trivial
    | some k =>
      obtain ⟨da, dl⟩ := k
      obtain ⟨a1, a2, a3⟩ := D
      obtain ⟨n1, n2⟩ := off da dl rfl
      exact ⟨by rw [upd_ne (Ne.symm n1)]; exact a1, by rw [upd_ne (Ne.symm n2)]; exact a2, a3⟩
  base := o.base
  fnew := fun a w e f => by
    by_cases q : a = p
    · subst q; exact nb
    · rw [upd_ne q] at e; exact o.fnew a w e f
  f0 := o.f0.trans (Sub.put nf)
  dkr := o.dkr
/-- a new tuple -/
theorem Ok.newTup (o : Ok C dk σ H F env) {vs : List V} {ds : List PyData} (h : H p = none) (k : DqAll C.g.K F vs ds) :
    ∃ F', Sub F F' ∧ Ok C dk σ (upd H p (.tup vs)) F' env ∧ Dq C.g.K F' (.ref p) (.tuple ds) := by
  have nf := o.sub.free0 h
  exact ⟨upd F p (.tup vs), Sub.put nf, (o.newCell _ h).hold upd_same nf (o.nb h) (o.offNew h) (o.ownNe h), .tup (SqT.of upd_same) (DqAll.mono k (Sub.put nf))⟩
def frzS : Sl → Sl
  | .own c => match c.toD with
    | some x => .d x
    | none => .own c
  | s => s
def frz (env : En) (i : Nat) : En := env.modify i frzS
theorem frz_get {env : En} {i j : Nat} : (frz env i)[j]? = if j = i then (env[j]?).map frzS else env[j]? := by
  unfold frz
  rw [List.getElem?_modify]
  by_cases h : i = j
  · subst h; simp
  · rw [if_neg (fun z => h z.symm)]; simp [h]
/-- a name's cell is held for good -/
theorem Ok.freeze (o : Ok C dk σ H F env) (i : Nat) : ∃ F', Sub F F' ∧ Ok C dk σ H F' (frz env i) ∧ EnLe env (frz env i) := by
  cases e : env[i]? with
  | none =>
    have z : frz env i = env := by
      apply List.ext_getElem?; intro j; rw [frz_get]; split
      · rename_i h; subst h; rw [e]; rfl
      · rfl
    exact ⟨F, Sub.refl F, by rw [z]; exact o, by rw [z]; exact EnLe.refl _⟩
  | some s =>
    cases s with
    | own c =>
      cases c with
      | lst xs =>
        obtain ⟨p, e1, k⟩ := o.slot _ _ e
        obtain ⟨ho, w, k2⟩ := k.at_
        cases ho <;> first | exact False.elim k2 | skip
        rename_i vs
        have k2' : DqAll C.g.K F vs xs := k2
        have le : EnLe env (frz env i) := fun j s' q => by
          rw [frz_get]
          by_cases h : j = i
          · subst h; rw [e] at q; cases q; exact .inr ⟨_, _, rfl, rfl, by rw [if_pos rfl, e]; rfl⟩
          · rw [if_neg h]; exact .inl q
        refine ⟨upd F p (.lst vs), Sub.put k.nf, ⟨?_, ?_, ?_, ?_, ?_, o.base, ?_, ?_, o.dkr⟩, le⟩
        · intro a u q
          by_cases z : a = p
          · subst z; rw [upd_same] at q; rw [w]; exact q
          · rw [upd_ne z] at q; exact o.sub a u q
        · rw [o.len]; unfold frz; simp
        · intro j s' q
          rw [frz_get] at q
          by_cases h : j = i
          · subst h
            rw [if_pos rfl, e] at q
            cases q
            exact ⟨.ref p, e1, .lst upd_same (DqAll.mono k2' (Sub.put k.nf))⟩
          · rw [if_neg h] at q
            have r := o.slot j s' q
            cases s' with
            | no => exact r
            | d x => obtain ⟨v, e2, k3⟩ := r; exact ⟨v, e2, Dq.mono k3 (Sub.put k.nf)⟩
            | own c =>
              obtain ⟨a, e2, k3⟩ := r
              have ne : a ≠ p := fun z => h (o.sep j i c _ p q e (by rw [← z]; exact e2) e1)
              obtain ⟨ho, w3, k4⟩ := k3.at_
              exact ⟨a, e2, by rw [upd_ne ne]; exact k3.nf, k3.nb, k3.off, ho, w3, CellOk.mono k4 (Sub.put k.nf)⟩
            | deck => exact r
            | opq z => exact r
        · intro a b c c' q h1 h2 h3 h4
          rw [frz_get] at h1 h2
          have n : ∀ {m : Nat} {c}, (if m = i then (env[m]?).map frzS else env[m]?) = some (Sl.own c) → m ≠ i ∧ env[m]? = some (.own c) := fun {m c} y => by
            by_cases h : m = i
            · subst h; rw [if_pos rfl, e] at y; cases y
            · rw [if_neg h] at y; exact ⟨h, y⟩
          exact o.sep a b c c' q (n h1).2 (n h2).2 h3 h4
        · have D := o.deck
          cases dk with
          | none => trivial
          | some kk =>
            obtain ⟨da, dl⟩ := kk
            obtain ⟨a1, a2, a3⟩ := D
            obtain ⟨n1, n2⟩ := k.off da dl rfl
            exact ⟨by rw [upd_ne (Ne.symm n1)]; exact a1, by rw [upd_ne (Ne.symm n2)]; exact a2, a3⟩
        · intro a u q f
          by_cases z : a = p
          · subst z; exact k.nb
          · rw [upd_ne z] at q; exact o.fnew a u q f
        · exact o.f0.trans (Sub.put k.nf)
    | _ =>
      have z : frz env i = env := by
        apply List.ext_getElem?; intro j; rw [frz_get]; split
        · rename_i h; subst h; rw [e]; rfl
        · rfl
      exact ⟨F, Sub.refl F, by rw [z]; exact o, by rw [z]; exact EnLe.refl _⟩
/-- a value is held for good: what becomes of the names -/
def R.hold : R → En → En
  | .bw i _, env => frz env i
  | _, env => env
theorem ROk.held (o : Ok C dk σ H F env) (h : ROk C dk σ H F env r v) (e : r.toD = some x) : ∃ F', Sub F F' ∧ Ok C dk σ H F' (r.hold env) ∧ EnLe env (r.hold env) ∧ Dq C.g.K F' v x := by
  cases r with
  | d y => cases e; exact ⟨F, Sub.refl F, o, EnLe.refl _, h⟩
  | nw c =>
    obtain ⟨p, rfl, k, no⟩ := h
    obtain ⟨ho, w, k2⟩ := k.at_
    refine ⟨upd F p ho, Sub.put k.nf, o.hold w k.nf k.nb k.off no, EnLe.refl _, ?_⟩
    cases c with
    | lst xs =>
      cases e
      cases ho <;> first | exact False.elim k2 | exact Dq.lst upd_same (DqAll.mono k2 (Sub.put k.nf))
  | bw i c =>
    obtain ⟨F', s, o', l⟩ := o.freeze i
    refine ⟨F', s, o', l, ?_⟩
    obtain ⟨h1 | ⟨y, e1, h1⟩, h2⟩ := h
    · have q : (frz env i)[i]? = some (.d x) := by
        rw [frz_get, if_pos rfl, h1]
        have e' : c.toD = some x := e
        show some (frzS (.own c)) = _
        have e2 : frzS (.own c) = (match c.toD with | some x => Sl.d x | none => Sl.own c) := rfl
        rw [e2, e']
      obtain ⟨w, z, k⟩ := o'.slot _ _ q
      rw [h2] at z; cases z; exact k
    · have e' : c.toD = some x := e
      rw [e'] at e1; cases e1
      have q : (frz env i)[i]? = some (.d x) := by rw [frz_get, if_pos rfl, h1]; rfl
      obtain ⟨w, z, k⟩ := o'.slot _ _ q
      rw [h2] at z; cases z; exact k
  | deck => cases e
  | opq z => cases e
/-- a value made still: a new cell is held -/
def R.calm : R → R
  | .nw c => match c.toD with
    | some x => .d x
    | none => .nw c
  | r => r
theorem R.calm_toD (r : R) : r.calm.toD = r.toD := by
  cases r with
  | nw c => cases c; rfl
  | _ => rfl
theorem ROk.calmed (o : Ok C dk σ H F env) (h : ROk C dk σ H F env r v) : ∃ F', Sub F F' ∧ Ok C dk σ H F' env ∧ ROk C dk σ H F' env r.calm v ∧ r.calm.still := by
  cases r with
  | nw c =>
    cases c with
    | lst xs =>
      obtain ⟨F', s, o', _, k⟩ := ROk.held o h (x := .list xs) rfl
      exact ⟨F', s, o', k, trivial⟩
  | d x => exact ⟨F, Sub.refl F, o, h, trivial⟩
  | bw i c => exact ⟨F, Sub.refl F, o, h, trivial⟩
  | deck => exact ⟨F, Sub.refl F, o, h, trivial⟩
  | opq z => exact ⟨F, Sub.refl F, o, h, trivial⟩
end
end Dl

namespace Dl
open PySem PySem.Spec PyProof.Rows L2

/-! ### what is wanted in the end -/
def Fin (C : DC) (W : WX) (dk : Dk) (σ : L2.St) (F : Hp) (env : En) (P : R → En → Prop) (Ex : Exn → En → Prop) (Q : VK) : Prop :=
  (∀ r env' v H' F', P r env' → Sub F F' → EnLe env env' → Ok C dk σ H' F' env' → ROk C dk σ H' F' env' r v → Q v H') ∧
  (∀ x env' cls d H' F', Ex x env' → Sub F F' → EnLe env env' → Ok C dk σ H' F' env' → XOk C F' H' x cls d → ∀ (_ : True), W cls d σ H')
theorem Fin.le {C : DC} {W : WX} {dk : Dk} {σ : L2.St} {F F1 : Hp} {env env1 : En} {P : R → En → Prop} {Ex : Exn → En → Prop} {Q : VK} (f : Fin C W dk σ F env P Ex Q) (s : Sub F F1) (l : EnLe env env1) : Fin C W dk σ F1 env1 P Ex Q :=
  ⟨fun r e v H' F' p s' l' o k => f.1 r e v H' F' p (s.trans s') (l.trans l') o k, fun x e c d H' F' p s' l' o k t => f.2 x e c d H' F' p (s.trans s') (l.trans l') o k t⟩
theorem L.mk {C : DC} {W : WX} {w : WE} {dk : Dk} {σ : L2.St} {H F : Hp} {env : En} {P : R → En → Prop} {Ex : Exn → En → Prop} {Q : VK} (o : Ok C dk σ H F env) (h : w env P Ex) (f : Fin C W dk σ F env P Ex Q) : L C.g W w σ H Q :=
  ⟨C, dk, F, env, P, Ex, rfl, o, h, f.1, fun x e c d H' F' p s' l' o' k => f.2 x e c d H' F' p s' l' o' k trivial⟩
theorem L.fin {G : DG} {W : WX} {w : WE} {σ : L2.St} {H : Hp} {Q : VK} (h : L G W w σ H Q) : ∃ C dk F env P Ex, C.g = G ∧ Ok C dk σ H F env ∧ w env P Ex ∧ Fin C W dk σ F env P Ex Q := by
  obtain ⟨C, dk, F, env, P, Ex, e, o, h1, f1, f2⟩ := h
  exact ⟨C, dk, F, env, P, Ex, e, o, h1, f1, fun x e c d H' F' p s' l' o' k _ => f2 x e c d H' F' p s' l' o' k⟩
/-- one part ahead of another -/
theorem L.step {C : DC} {W : WX} {wa : WE} {g : R → WE} {dk : Dk} {σ : L2.St} {H F : Hp} {env : En} {P : R → En → Prop} {Ex : Exn → En → Prop} {Q Q' : VK} (o : Ok C dk σ H F env)
    (h : wa env (fun r e => g r e P Ex) Ex) (f : Fin C W dk σ F env P Ex Q)
    (k : ∀ r v H1 F1 env1, Ok C dk σ H1 F1 env1 → ROk C dk σ H1 F1 env1 r v → Sub F F1 → EnLe env env1 → g r env1 P Ex → Fin C W dk σ F1 env1 P Ex Q → Q' v H1) : L C.g W wa σ H Q' :=
  L.mk o h ⟨fun r e v H' F' p s' l' o' q => k r v H' F' e o' q s' l' p (f.le s' l'), f.2⟩
/-- the same, what comes made still -/
theorem L.stepC {C : DC} {W : WX} {wa : WE} {g : R → WE} {dk : Dk} {σ : L2.St} {H F : Hp} {env : En} {P : R → En → Prop} {Ex : Exn → En → Prop} {Q Q' : VK} (o : Ok C dk σ H F env)
    (h : wa env (fun r e => g r.calm e P Ex) Ex) (f : Fin C W dk σ F env P Ex Q)
    (k : ∀ r v H1 F1 env1, Ok C dk σ H1 F1 env1 → ROk C dk σ H1 F1 env1 r v → r.still → Sub F F1 → EnLe env env1 → g r env1 P Ex → Fin C W dk σ F1 env1 P Ex Q → Q' v H1) : L C.g W wa σ H Q' := by
  refine L.step (g := fun r => g r.calm) o h f fun r v H1 F1 env1 o1 q s l h1 f1 => ?_
  obtain ⟨F2, s2, o2, q2, st⟩ := q.calmed o1
  exact k r.calm v H1 F2 env1 o2 q2 st (s.trans s2) l h1 (f1.le s2 (EnLe.refl _))

section
variable {G : DG} {W : WX} {X : Cx}
/-! ### names and constants -/
def wV (i : Nat) : WE := fun env P _ => match env[i]? with
  | some (.d x) => P (.d x) env
  | some (.own c) => P (.bw i c) env
  | some .deck => P .deck env
  | some (.opq v) => P (.opq v) env
  | _ => False
def wC (x : PyData) : WE := fun env P _ => P (.d x) env
theorem Ev.of {e : Expr} {t : TE} {w : WE} (h : PE X e t) (i : ∀ (C : DC), C.g = G → ∀ dk σ H F env P Ex Q, Ok C dk σ H F env → w env P Ex → Fin C W dk σ F env P Ex Q → t σ H Q) : Ev G W X e w :=
  ⟨PE.imp h fun σ H Q q => let ⟨_, _, _, _, _, _, e, o, h1, f⟩ := q.fin; i _ e _ _ _ _ _ _ _ _ o h1 f⟩
theorem ev_var (i : Nat) {x : Str} {pos : Pos} (hN : X.N[i]? = some x := by rfl) (hv : Vis X.env.scope x := by first | exact Or.inl rfl | exact Or.inr (Or.inl rfl) | exact Or.inr (Or.inr rfl)) (hd : (x == ("__debug__" : Str)) = false := by decide)
    (hcd : (x == ("__classdict__" : Str)) = false := by decide) : Ev G W X (.Name x pos) (wV i) := by
  refine Ev.of (pv i hN hv hd hcd) fun C hC dk σ H F env P Ex Q o h f => ?_
  unfold wV at h
  cases e : env[i]? with
  | none => rw [e] at h; exact h.elim
  | some s =>
    rw [e] at h
    have z := o.slot _ _ e
    cases s with
    | no => exact h.elim
    | d x =>
      obtain ⟨v, g, k⟩ := z
      exact ⟨v, gt_of g, f.1 _ _ _ _ _ h (Sub.refl F) (EnLe.refl env) o k⟩
    | own c =>
      obtain ⟨p, g, k⟩ := z
      exact ⟨.ref p, gt_of g, f.1 _ _ _ _ _ h (Sub.refl F) (EnLe.refl env) o ⟨.inl e, g⟩⟩
    | deck =>
      obtain ⟨da, dl, e1, g⟩ := z
      exact ⟨_, gt_of g, f.1 _ _ _ _ _ h (Sub.refl F) (EnLe.refl env) o ⟨da, dl, e1, rfl⟩⟩
    | opq v => exact ⟨_, gt_of z, f.1 _ _ _ _ _ h (Sub.refl F) (EnLe.refl env) o rfl⟩
theorem ev_const {e : Expr} {v : V} {x : PyData} (h : PE X e (tC v)) (k : ∀ F, Dq G.K F v x) : Ev G W X e (wC x) :=
  Ev.of h fun C hC dk σ H F env P Ex Q o h1 f => f.1 _ _ _ _ _ h1 (Sub.refl F) (EnLe.refl env) o (by subst hC; exact k F)
theorem ev_int {i : Int} {j pos} : Ev G W X (.Constant (.int i) j pos) (wC (.int i)) := ev_const pe_int fun _ => .int i
theorem ev_bool {b : Bool} {j pos} : Ev G W X (.Constant (.bool b) j pos) (wC (.bool b)) := ev_const pe_bl fun _ => .bl b
theorem ev_str {b : Str} {j pos} : Ev G W X (.Constant (.str b) j pos) (wC (.str b)) := ev_const pe_str fun _ => .str b
theorem ev_none {j pos} : Ev G W X (.Constant .none j pos) (wC .none) := ev_const pe_non fun _ => .non
/-- a constant of the module -/
theorem ev_glob {x : Str} {v : V} {u : Value} {y : PyData} {pos : Pos} (hm : X.mg x = some u) (r : RelV v u) (k : ∀ F, Dq G.K F v y) (hg : Gl X x := by rfl) (hd : (x == ("__debug__" : Str)) = false := by decide) : Ev G W X (.Name x pos) (wC y) :=
  ev_const (pe_glob hg hm r hd) k

/-! ### operators by data -/
abbrev Op2 := PyData → PyData → (R → Prop) → Prop
def wOp (op : Op2) (wa wb : WE) : WE := fun env P Ex => wa env (fun r e => wb e (fun s e' => match r.toD, s.toD with
  | some x, some y => op x y fun t => P t e'
  | _, _ => False) Ex) Ex
/-- what a rule by values gives, told by data -/
def Snd2 (G : DG) (rr : R2) (op : Op2) : Prop := ∀ (C : DC), C.g = G → ∀ dk σ H F env r s v u x y Q (P : R → Prop), Ok C dk σ H F env → ROk C dk σ H F env r v → ROk C dk σ H F env s u → r.toD = some x → s.toD = some y → op x y P →
  (∀ t w H' F', P t → Sub F F' → Ok C dk σ H' F' env → ROk C dk σ H' F' env t w → Q w H') → rr v u H Q
theorem L.two {C : DC} {wa wb : WE} {rr : R2} {op : Op2} (hs : Snd2 C.g rr op) {dk : Dk} {σ : L2.St} {H F : Hp} {env : En} {P : R → En → Prop} {Ex : Exn → En → Prop} {Q : VK} (o : Ok C dk σ H F env) (h : wOp op wa wb env P Ex) (f : Fin C W dk σ F env P Ex Q) :
    L C.g W wa σ H (fun x H1 => L C.g W wb σ H1 fun y H2 => rr x y H2 Q) := by
  refine L.stepC (g := fun r e P Ex => wb e (fun s e' => match r.toD, s.toD with
    | some x, some y => op x y fun t => P t e'
    | _, _ => False) Ex) o (by simpa only [wOp, R.calm_toD] using h) f fun r v H1 F1 env1 o1 k1 st s1 l1 h1 f1 => ?_
  refine L.step (g := fun s e' P Ex => match r.toD, s.toD with
    | some x, some y => op x y fun t => P t e'
    | _, _ => False) o1 h1 f1 fun s u H2 F2 env2 o2 k2 s2 l2 h2 f2 => ?_
  cases er : r.toD with
  | none => rw [er] at h2; exact h2.elim
  | some x =>
    cases es : s.toD with
    | none => rw [er, es] at h2; exact h2.elim
    | some y =>
      rw [er, es] at h2
      exact hs _ rfl _ _ _ _ _ _ _ _ _ _ _ _ _ o2 (k1.keep st s2 l2) k2 er es h2 fun t w H' F' p s' o' k' => f2.1 _ _ _ _ _ p s' (EnLe.refl _) o' k'
variable {a b : Expr} {wa wb : WE} {pos : Pos}
theorem ev_bin {op : Operator} {rr : R2} {o2 : Op2} (ho : OpR X (binaryOp op) rr) (hs : Snd2 G rr o2) (ha : Ev G W X a wa) (hb : Ev G W X b wb) : Ev G W X (.BinOp a op b pos) (wOp o2 wa wb) :=
  Ev.of (pe_op ho ha.pe hb.pe) fun _ e _ _ _ _ _ _ _ _ o h f => by subst e; exact L.two hs o h f
theorem ev_cmp {op : CmpOp} {rr : R2} {o2 : Op2} (ho : OpR X (compareOp op) rr) (hs : Snd2 G rr o2) (ha : Ev G W X a wa) (hb : Ev G W X b wb) (hm : behindInMarks op b = false) : Ev G W X (.Compare a [op] [b] pos) (wOp o2 wa wb) :=
  Ev.of (pe_cmpR ho ha.pe hb.pe hm) fun _ e _ _ _ _ _ _ _ _ o h f => by subst e; exact L.two hs o h f
theorem ev_ixR {rr : R2} {o2 : Op2} (ho : IxR X rr) (hs : Snd2 G rr o2) (ha : Ev G W X a wa) (hb : Ev G W X b wb) (hx : PlainIx b := by intro _ _; rfl) : Ev G W X (.Subscript a b pos) (wOp o2 wa wb) :=
  Ev.of (pe_ix ho ha.pe hb.pe hx) fun _ e _ _ _ _ _ _ _ _ o h f => by subst e; exact L.two hs o h f

/-! ### + -/
def dAdd : Op2 := fun x y P => match x, y with
  | .int i, .int j => P (.d (.int (i + j)))
  | .str i, .str j => i.length + j.length ≤ sizeLine ∧ P (.d (.str (i ++ j)))
  | .list i, .list j => i.length + j.length ≤ sizeLine ∧ P (.nw (.lst (i ++ j)))
  | .tuple i, .tuple j => i.length + j.length ≤ sizeLine ∧ P (.d (.tuple (i ++ j)))
  | _, _ => False
def rAddStr : R2 := fun x y H Q => ∃ i j, x = .str i ∧ y = .str j ∧ i.length + j.length ≤ sizeLine ∧ Q (.str (i ++ j)) H
def rAddInt : R2 := rI0 fun i j => .int (i + j)
def rCatAny : R2 := fun x y H Q => ∃ a b xs ys, x = .ref a ∧ y = .ref b ∧ H a = some (.lst xs) ∧ H b = some (.lst ys) ∧ xs.length + ys.length ≤ sizeLine ∧ ∀ p, H p = none → Q (.ref p) (upd H p (.lst (xs ++ ys)))
theorem op_catAny : OpR X (binaryOp .Add) rCatAny := by
  intro pins s σ H x y v u Q I rx ry h
  obtain ⟨a, b, xs, ys, e1, e2, hA, hB, hz, q⟩ := h
  exact op_cat pins s σ H x y v u Q I rx ry ⟨a, b, xs, ys, e1, e2, hA, hB, hz, q⟩
def rAddAll (K : PySem.W.Frag) : R2 := fun x y H Q => rAddInt x y H Q ∨ rAddStr x y H Q ∨ rCatAny x y H Q ∨ rCatA K x y H Q
theorem op_addAll : OpR X (binaryOp .Add) (rAddAll X.K) := OpR.or op_add (OpR.or op_add_str (OpR.or op_catAny op_catA))
theorem snd_add : Snd2 G (rAddAll G.K) dAdd := by
  intro C hC dk σ H F env r s v u x y Q P o k1 k2 e1 e2 h q
  subst hC
  cases x <;> cases y <;> first | exact h.elim | skip
  · have z1 := k1.int o e1
    have z2 := k2.int o e2
    exact .inl ⟨_, _, z1, z2, q _ _ _ _ h (Sub.refl F) o (Dq.int _)⟩
  · have z1 := k1.str o e1
    have z2 := k2.str o e2
    exact .inr (.inl ⟨_, _, z1, z2, h.1, q _ _ _ _ h.2 (Sub.refl F) o (Dq.str _)⟩)
  · obtain ⟨p1, vs1, rfl, a1, b1⟩ := k1.lst o e1
    obtain ⟨p2, vs2, rfl, a2, b2⟩ := k2.lst o e2
    refine .inr (.inr (.inl ⟨p1, p2, vs1, vs2, rfl, rfl, a1, a2, by rw [b1.length, b2.length]; exact h.1, fun p hp => ?_⟩))
    exact q _ _ _ _ h.2 (Sub.refl F) (o.newCell _ hp) (o.newPriv hp (show DqAll C.g.K F (vs1 ++ vs2) _ from b1.append b2))
  · obtain ⟨p1, vs1, rfl, a1, b1⟩ := k1.tup o e1
    obtain ⟨p2, vs2, rfl, a2, b2⟩ := k2.tup o e2
    have nil : ∀ {vs : List V} {ds : List PyData}, DqAll C.g.K F vs ds → vs = [] → ds = [] := fun {vs ds} k e => by subst e; cases k; rfl
    have D1 : ∀ {r : R} {p : Addr} {ds : List PyData}, ROk C dk σ H F env r (.ref p) → r.toD = some (.tuple ds) → Dq C.g.K F (.ref p) (.tuple ds) := fun {r p ds} k e => by
      cases r with
      | d y => cases e; exact k
      | nw c => cases c; cases e
      | bw i c => cases c; cases e
      | deck => cases e
      | opq z => cases e
    refine .inr (.inr (.inr ⟨p1, p2, vs1, vs2, rfl, rfl, a1, a2, by rw [b1.length, b2.length]; exact h.1, fun z => ?_, fun _ z => ?_, fun _ _ p hp => ?_⟩))
    · have := nil b1 z; subst this
      exact q _ _ _ _ h.2 (Sub.refl F) o (D1 k2 e2)
    · have := nil b2 z; subst this
      refine q _ _ _ _ h.2 (Sub.refl F) o ?_
      rw [List.append_nil]
      exact D1 k1 e1
    · obtain ⟨F', s', o', k'⟩ := o.newTup hp (b1.append b2)
      exact q _ _ _ _ h.2 s' o' k'
theorem ev_add (hK : X.K = G.K) (ha : Ev G W X a wa) (hb : Ev G W X b wb) : Ev G W X (.BinOp a .Add b pos) (wOp dAdd wa wb) := ev_bin op_addAll (by rw [hK]; exact snd_add) ha hb
/-! ### whole numbers -/
def dInt (g : Int → Int → Int) (c : Int → Int → Prop) : Op2 := fun x y P => match x, y with
  | .int i, .int j => c i j ∧ P (.d (.int (g i j)))
  | _, _ => False
theorem snd_int {g : Int → Int → Int} {c : Int → Int → Prop} : Snd2 G (rI c fun i j => .int (g i j)) (dInt g c) := by
  intro C hC dk σ H F env r s v u x y Q P o k1 k2 e1 e2 h q
  subst hC
  cases x <;> cases y <;> first | exact h.elim | skip
  exact ⟨_, _, k1.int o e1, k2.int o e2, h.1, q _ _ _ _ h.2 (Sub.refl F) o (Dq.int _)⟩
def dSub : Op2 := fun x y P => match x, y with
  | .int i, .int j => P (.d (.int (i - j)))
  | _, _ => False
theorem snd_sub : Snd2 G (rI0 fun i j => .int (i - j)) dSub := by
  intro C hC dk σ H F env r s v u x y Q P o k1 k2 e1 e2 h q
  subst hC
  cases x <;> cases y <;> first | exact h.elim | skip
  exact ⟨_, _, k1.int o e1, k2.int o e2, q _ _ _ _ h (Sub.refl F) o (Dq.int _)⟩
theorem ev_sub (ha : Ev G W X a wa) (hb : Ev G W X b wb) : Ev G W X (.BinOp a .Sub b pos) (wOp dSub wa wb) := ev_bin op_sub snd_sub ha hb
/-- together few enough bits -/
def MulC (i j : Int) : Prop := IntMulOk i j
def dMul : Op2 := fun x y P => match x, y with
  | .int i, .int j => MulC i j ∧ P (.d (.int (i * j)))
  | .list xs, .int k => -(2 ^ 63) ≤ k ∧ k < 2 ^ 63 ∧ xs.length * k.toNat ≤ sizeLine ∧ P (.nw (.lst (List.replicate k.toNat xs).flatten))
  | _, _ => False
theorem op_mulC : OpR X (binaryOp .Mult) (rI MulC fun i j => .int (i * j)) := opI fun _ _ _ _ _ _ _ hc q => mul_int q hc
def rMulAll : R2 := fun x y H Q => rI MulC (fun i j => .int (i * j)) x y H Q ∨ rRep x y H Q
theorem op_mulAll : OpR X (binaryOp .Mult) rMulAll := OpR.or op_mulC op_rep
theorem DqAll.rep {K : PySem.W.Frag} {F : Hp} {vs : List V} {ds : List PyData} (h : DqAll K F vs ds) : ∀ k : Nat, DqAll K F (List.replicate k vs).flatten (List.replicate k ds).flatten
  | 0 => .nil
  | k + 1 => by rw [List.replicate_succ, List.replicate_succ, List.flatten_cons, List.flatten_cons]; exact h.append (DqAll.rep h k)
theorem snd_mul : Snd2 G rMulAll dMul := by
  intro C hC dk σ H F env r s v u x y Q P o k1 k2 e1 e2 h q
  subst hC
  cases x <;> cases y <;> first | exact h.elim | skip
  · exact .inl ⟨_, _, k1.int o e1, k2.int o e2, h.1, q _ _ _ _ h.2 (Sub.refl F) o (Dq.int _)⟩
  · obtain ⟨p1, vs1, rfl, a1, b1⟩ := k1.lst o e1
    refine .inr ⟨p1, _, vs1, rfl, k2.int o e2, a1, h.1, h.2.1, by rw [b1.length]; exact h.2.2.1, fun p hp => ?_⟩
    exact q _ _ _ _ h.2.2.2 (Sub.refl F) (o.newCell _ hp) (o.newPriv hp (show DqAll C.g.K F _ _ from b1.rep _))
theorem ev_mul (ha : Ev G W X a wa) (hb : Ev G W X b wb) : Ev G W X (.BinOp a .Mult b pos) (wOp dMul wa wb) := ev_bin op_mulAll snd_mul ha hb
/-- a divisor of few enough bits -/
def DivC (i j : Int) : Prop := j ≠ 0 ∧ Builtin.divisionGoesByPylong i j = false
theorem op_divC : OpR X (binaryOp .FloorDiv) (rI DivC fun i j => .int (i.fdiv j)) := opI fun _ _ _ _ _ _ _ hc q => floordiv_int hc.1 q (.inl hc.2)
theorem ev_div (ha : Ev G W X a wa) (hb : Ev G W X b wb) : Ev G W X (.BinOp a .FloorDiv b pos) (wOp (dInt Int.fdiv DivC) wa wb) := ev_bin op_divC snd_int ha hb
theorem ev_mod (ha : Ev G W X a wa) (hb : Ev G W X b wb) : Ev G W X (.BinOp a .Mod b pos) (wOp (dInt Int.fmod fun _ j => j ≠ 0) wa wb) := ev_bin op_modN snd_int ha hb
theorem ev_pow (ha : Ev G W X a wa) (hb : Ev G W X b wb) : Ev G W X (.BinOp a .Pow b pos) (wOp (dInt (fun i j => i ^ j.toNat) CPow) wa wb) := ev_bin op_pow snd_int ha hb

/-! ### comparisons -/
/-- pairs of plain values that are compared whatever they are -/
def scD : PyData → PyData → Bool
  | .none, .none => true
  | .none, .int _ => true
  | .int _, .none => true
  | .none, .bool _ => true
  | .bool _, .none => true
  | .none, .str _ => true
  | .str _, .none => true
  | .int _, .int _ => true
  | .bool _, .bool _ => true
  | .str _, .str _ => true
  | .int _, .str _ => true
  | .str _, .int _ => true
  | .bool _, .str _ => true
  | .str _, .bool _ => true
  | _, _ => false
theorem scD_ok {K : PySem.W.Frag} {F F' : Hp} {v u : V} {x y : PyData} (h : scD x y = true) (k1 : Dq K F v x) (k2 : Dq K F' u y) : scal v u = true ∧ decide (v = u) = PyData.eqv x y := by
  cases k1 <;> cases k2 <;> first
    | (cases h; done)
    | exact ⟨rfl, rfl⟩
    | exact ⟨rfl, dec_int⟩
    | exact ⟨rfl, dec_bl⟩
    | exact ⟨rfl, dec_str⟩
    | exact ⟨rfl, decide_eq_false (fun z => by cases z)⟩
def EqC (x y : PyData) : Prop := scD x y = true ∨ (SeqAt.shaped x = true ∧ SeqAt.shaped y = true)
def dEq : Op2 := fun x y P => EqC x y ∧ P (.d (.bool (PyData.eqv x y)))
def dNe : Op2 := fun x y P => EqC x y ∧ P (.d (.bool (!PyData.eqv x y)))
theorem snd_eq : Snd2 G (fun x y H Q => L2.rEq x y H Q ∨ rEqD G.K x y H Q) dEq := by
  intro C hC dk σ H F env r s v u x y Q P o k1 k2 e1 e2 h q
  subst hC
  rcases h.1 with z | ⟨z1, z2⟩
  · obtain ⟨a, b⟩ := scD_ok z (k1.dp o e1) (k2.dp o e2)
    exact .inl ⟨a, by rw [b]; exact q _ _ _ _ h.2 (Sub.refl F) o (Dq.bl _)⟩
  · exact .inr ⟨x, y, (k1.dp o e1).dp, (k2.dp o e2).dp, z1, z2, q _ _ _ _ h.2 (Sub.refl F) o (Dq.bl _)⟩
theorem snd_ne : Snd2 G (fun x y H Q => L2.rNe x y H Q ∨ rNeD G.K x y H Q) dNe := by
  intro C hC dk σ H F env r s v u x y Q P o k1 k2 e1 e2 h q
  subst hC
  rcases h.1 with z | ⟨z1, z2⟩
  · obtain ⟨a, b⟩ := scD_ok z (k1.dp o e1) (k2.dp o e2)
    exact .inl ⟨a, by rw [b]; exact q _ _ _ _ h.2 (Sub.refl F) o (Dq.bl _)⟩
  · exact .inr ⟨x, y, (k1.dp o e1).dp, (k2.dp o e2).dp, z1, z2, q _ _ _ _ h.2 (Sub.refl F) o (Dq.bl _)⟩
def rCmpI (p : Int → Int → Bool) : R2 := rI0 fun i j => .bl (p i j)
def rCmpS (p : Str → Str → Bool) : R2 := fun x y H Q => ∃ i j, x = .str i ∧ y = .str j ∧ Q (.bl (p i j)) H
def dCmp (p : Int → Int → Bool) (q : Str → Str → Bool) : Op2 := fun x y P => match x, y with
  | .int i, .int j => P (.d (.bool (p i j)))
  | .str i, .str j => P (.d (.bool (q i j)))
  | _, _ => False
theorem snd_cmp {p : Int → Int → Bool} {p' : Str → Str → Bool} : Snd2 G (fun x y H Q => rCmpI p x y H Q ∨ rCmpS p' x y H Q) (dCmp p p') := by
  intro C hC dk σ H F env r s v u x y Q P o k1 k2 e1 e2 h q
  subst hC
  cases x <;> cases y <;> first | exact h.elim | skip
  · exact .inl ⟨_, _, k1.int o e1, k2.int o e2, q _ _ _ _ h (Sub.refl F) o (Dq.bl _)⟩
  · exact .inr ⟨_, _, k1.str o e1, k2.str o e2, q _ _ _ _ h (Sub.refl F) o (Dq.bl _)⟩
abbrev dLt : Op2 := dCmp (fun i j => decide (i < j)) fun i j => decide (i.cps.toList < j.cps.toList)
abbrev dLe : Op2 := dCmp (fun i j => decide (i ≤ j)) fun i j => !decide (j.cps.toList < i.cps.toList)
abbrev dGt : Op2 := dCmp (fun i j => decide (j < i)) fun i j => decide (j.cps.toList < i.cps.toList)
abbrev dGe : Op2 := dCmp (fun i j => decide (j ≤ i)) fun i j => !decide (i.cps.toList < j.cps.toList)
/-- a comparison by its rule -/
structure CmpOk (G : DG) (X : Cx) (op : CmpOp) (o2 : Op2) : Prop where
  ex : ∃ rr : R2, OpR X (compareOp op) rr ∧ Snd2 G rr o2
theorem cm_lt : CmpOk G X .Lt dLt := ⟨_, OpR.or op_lt op_lt_str, snd_cmp⟩
theorem cm_le : CmpOk G X .LtE dLe := ⟨_, OpR.or op_le op_le_str, snd_cmp⟩
theorem cm_gt : CmpOk G X .Gt dGt := ⟨_, OpR.or op_gt op_gt_str, snd_cmp⟩
theorem cm_ge : CmpOk G X .GtE dGe := ⟨_, OpR.or op_ge op_ge_str, snd_cmp⟩
/-- what a context is: the data context's K, room for what is deep -/
structure Ctx0 (G : DG) (X : Cx) : Prop where
  K : X.K = G.K
  mg : X.mg = G.mg
  un : X.A.units + 65 < cLine
  g : X.A.guards = some []
theorem cm_eq (c : Ctx0 G X) : CmpOk G X .Eq dEq := ⟨_, OpR.or op_eq (by have := op_eqD (X := X) (by have := c.un; omega); rw [c.K] at this; exact this), snd_eq⟩
theorem cm_ne (c : Ctx0 G X) : CmpOk G X .NotEq dNe := ⟨_, OpR.or op_ne (by have := op_neD (X := X) (by have := c.un; omega); rw [c.K] at this; exact this), snd_ne⟩
/-- x in a list of anything; in a text -/
def dIn (neg : Bool) : Op2 := fun x y P => match y with
  | .list ds => SeqAt.shaped x = true ∧ SeqAt.shaped (.list ds) = true ∧ P (.d (.bool (neg ^^ (ds.any fun z => PyData.eqv z x))))
  | .str b => (match x with
    | .str a => P (.d (.bool (neg ^^ (!(Builtin.Str.occurrences b a 0 b.length 1).isEmpty))))
    | _ => False)
  | _ => False
theorem snd_in : Snd2 G (fun x y H Q => rInD G.K x y H Q ∨ (∃ i j, x = .str i ∧ y = .str j ∧ Q (.bl (!(Builtin.Str.occurrences j i 0 j.length 1).isEmpty)) H)) (dIn false) := by
  intro C hC dk σ H F env r s v u x y Q P o k1 k2 e1 e2 h q
  subst hC
  cases y <;> first | exact h.elim | skip
  · cases x <;> first | exact h.elim | skip
    refine .inr ⟨_, _, k1.str o e1, k2.str o e2, ?_⟩
    have h' : P (.d (.bool (false ^^ _))) := h
    rw [Bool.false_xor] at h'
    exact q _ _ _ _ h' (Sub.refl F) o (Dq.bl _)
  · refine .inl ⟨x, _, (k1.dp o e1).dp, (k2.dp o e2).dp, h.1, h.2.1, ?_⟩
    have h' := h.2.2
    rw [Bool.false_xor] at h'
    exact q _ _ _ _ h' (Sub.refl F) o (Dq.bl _)
theorem snd_notin : Snd2 G (fun x y H Q => rNotInD G.K x y H Q ∨ (∃ i j, x = .str i ∧ y = .str j ∧ Q (.bl (!(!(Builtin.Str.occurrences j i 0 j.length 1).isEmpty))) H)) (dIn true) := by
  intro C hC dk σ H F env r s v u x y Q P o k1 k2 e1 e2 h q
  subst hC
  cases y <;> first | exact h.elim | skip
  · cases x <;> first | exact h.elim | skip
    refine .inr ⟨_, _, k1.str o e1, k2.str o e2, ?_⟩
    have h' : P (.d (.bool (true ^^ _))) := h
    rw [Bool.true_xor] at h'
    exact q _ _ _ _ h' (Sub.refl F) o (Dq.bl _)
  · refine .inl ⟨x, _, (k1.dp o e1).dp, (k2.dp o e2).dp, h.1, h.2.1, ?_⟩
    have h' := h.2.2
    rw [Bool.true_xor] at h'
    exact q _ _ _ _ h' (Sub.refl F) o (Dq.bl _)
theorem cm_in (c : Ctx0 G X) : CmpOk G X .In (dIn false) := ⟨_, OpR.or (by have := op_inD (X := X) c.un; rw [c.K] at this; exact this) op_in_str, snd_in⟩
theorem cm_notin (c : Ctx0 G X) : CmpOk G X .NotIn (dIn true) := ⟨_, OpR.or (by have := op_notInD (X := X) c.un; rw [c.K] at this; exact this) op_notin_str, snd_notin⟩
def isNone : PyData → Bool
  | .none => true
  | _ => false
/-- is None -/
def dIs (neg : Bool) : Op2 := fun x y P => match y with
  | .none => P (.d (.bool (neg ^^ isNone x)))
  | _ => False
theorem non_iff {K : PySem.W.Frag} {F : Hp} {v : V} {x : PyData} (h : Dq K F v x) : decide (v = .non) = isNone x := by cases h <;> rfl
theorem snd_is : Snd2 G (fun x y H Q => y = .non ∧ Q (.bl (decide (x = .non))) H) (dIs false) := by
  intro C hC dk σ H F env r s v u x y Q P o k1 k2 e1 e2 h q
  subst hC
  cases y <;> first | exact h.elim | skip
  refine ⟨k2.non o e2, ?_⟩
  rw [non_iff (k1.dp o e1)]
  have h' : P (.d (.bool (false ^^ _))) := h
  rw [Bool.false_xor] at h'
  exact q _ _ _ _ h' (Sub.refl F) o (Dq.bl _)
theorem snd_isnot : Snd2 G (fun x y H Q => y = .non ∧ Q (.bl (!decide (x = .non))) H) (dIs true) := by
  intro C hC dk σ H F env r s v u x y Q P o k1 k2 e1 e2 h q
  subst hC
  cases y <;> first | exact h.elim | skip
  refine ⟨k2.non o e2, ?_⟩
  rw [non_iff (k1.dp o e1)]
  have h' : P (.d (.bool (true ^^ _))) := h
  rw [Bool.true_xor] at h'
  exact q _ _ _ _ h' (Sub.refl F) o (Dq.bl _)
theorem cm_is : CmpOk G X .Is (dIs false) := ⟨_, op_isN, snd_is⟩
theorem cm_isnot : CmpOk G X .IsNot (dIs true) := ⟨_, op_notN, snd_isnot⟩
theorem ev_cm {op : CmpOp} {o2 : Op2} (hc : CmpOk G X op o2) (ha : Ev G W X a wa) (hb : Ev G W X b wb) (hm : behindInMarks op b = false := by first | exact nomark _ | rfl) : Ev G W X (.Compare a [op] [b] pos) (wOp o2 wa wb) :=
  let ⟨_, h1, h2⟩ := hc.ex
  ev_cmp h1 h2 ha hb hm

/-! ### one thing -/
abbrev Op1 := PyData → (R → Prop) → Prop
def wOp1 (op : Op1) (wa : WE) : WE := fun env P Ex => wa env (fun r e => match r.toD with
  | some x => op x fun t => P t e
  | _ => False) Ex
def Snd1 (G : DG) (rr : V → Hp → VK → Prop) (op : Op1) : Prop := ∀ (C : DC), C.g = G → ∀ dk σ H F env r v x Q (P : R → Prop), Ok C dk σ H F env → ROk C dk σ H F env r v → r.toD = some x → op x P →
  (∀ t w H' F', P t → Sub F F' → Ok C dk σ H' F' env → ROk C dk σ H' F' env t w → Q w H') → rr v H Q
theorem L.one {C : DC} {wa : WE} {rr : V → Hp → VK → Prop} {op : Op1} (hs : Snd1 C.g rr op) {dk : Dk} {σ : L2.St} {H F : Hp} {env : En} {P : R → En → Prop} {Ex : Exn → En → Prop} {Q : VK} (o : Ok C dk σ H F env) (h : wOp1 op wa env P Ex) (f : Fin C W dk σ F env P Ex Q) :
    L C.g W wa σ H (fun x H1 => rr x H1 Q) := by
  refine L.step (g := fun r e' P Ex => match r.toD with
    | some x => op x fun t => P t e'
    | _ => False) o h f fun r v H1 F1 env1 o1 k1 s1 l1 h1 f1 => ?_
  cases er : r.toD with
  | none => rw [er] at h1; exact h1.elim
  | some x =>
    rw [er] at h1
    exact hs _ rfl _ _ _ _ _ _ _ _ _ _ o1 k1 er h1 fun t w H' F' p s' o' k' => f1.1 _ _ _ _ _ p s' (EnLe.refl _) o' k'
def dNeg : Op1 := fun x P => match x with
  | .int i => P (.d (.int (-i)))
  | _ => False
theorem snd_neg : Snd1 G (rU fun i => .int (-i)) dNeg := by
  intro C hC dk σ H F env r v x Q P o k e h q
  subst hC
  cases x <;> first | exact h.elim | skip
  exact ⟨_, k.int o e, q _ _ _ _ h (Sub.refl F) o (Dq.int _)⟩
theorem ev_neg (ha : Ev G W X a wa) : Ev G W X (.UnaryOp .USub a pos) (wOp1 dNeg wa) := Ev.of (pe_un un_neg ha.pe) fun _ e _ _ _ _ _ _ _ _ o h f => by subst e; exact L.one snd_neg o h f

/-! ### items -/
theorem ix_dq {K : PySem.W.Frag} {F : Hp} {vs : List V} {ds : List PyData} {i : Int} {x : PyData} (h : DqAll K F vs ds) (e : atI ds i = some x) : ∃ v, atI vs i = some v ∧ Dq K F v x := by
  unfold atI at *
  rw [h.length]
  cases q : ixN ds.length i with
  | none => rw [q] at e; cases e
  | some j =>
    rw [q] at e
    exact h.getD e
def dIx : Op2 := fun x y P => match x, y with
  | .list ds, .int i => (match atI ds i with
    | some z => P (.d z)
    | none => False)
  | .tuple ds, .int i => (match atI ds i with
    | some z => P (.d z)
    | none => False)
  | .str z, .int i => (match atI z.cps.toList i with
    | some c => z.length ≤ sizeLine ∧ P (.d (.str ⟨#[c]⟩))
    | none => False)
  | _, _ => False
theorem snd_ix : Snd2 G (rIx G.K) dIx := by
  intro C hC dk σ H F env r s v u x y Q P o k1 k2 e1 e2 h q
  subst hC
  cases x <;> cases y <;> first | exact h.elim | skip
  · rename_i z i
    have h' : (match atI z.cps.toList i with
      | some c => z.length ≤ sizeLine ∧ P (.d (.str ⟨#[c]⟩))
      | none => False) := h
    cases e : atI z.cps.toList i with
    | none => rw [e] at h'; exact h'.elim
    | some c =>
      rw [e] at h'
      exact .inr (.inr ⟨z, i, c, k1.str o e1, k2.int o e2, h'.1, e, q _ _ _ _ h'.2 (Sub.refl F) o (Dq.str _)⟩)
  · rename_i ds i
    obtain ⟨p1, vs1, rfl, a1, b1⟩ := k1.lst o e1
    have h' : (match atI ds i with
      | some z => P (.d z)
      | none => False) := h
    cases e : atI ds i with
    | none => rw [e] at h'; exact h'.elim
    | some z =>
      rw [e] at h'
      obtain ⟨v, g, k⟩ := ix_dq b1 e
      exact .inl ⟨p1, vs1, i, v, rfl, k2.int o e2, SqL.of a1, g, q _ _ _ _ h' (Sub.refl F) o k⟩
  · rename_i ds i
    obtain ⟨p1, vs1, rfl, a1, b1⟩ := k1.tup o e1
    have h' : (match atI ds i with
      | some z => P (.d z)
      | none => False) := h
    cases e : atI ds i with
    | none => rw [e] at h'; exact h'.elim
    | some z =>
      rw [e] at h'
      obtain ⟨v, g, k⟩ := ix_dq b1 e
      exact .inr (.inl ⟨p1, vs1, i, v, rfl, k2.int o e2, a1, g, q _ _ _ _ h' (Sub.refl F) o k⟩)
theorem ev_ix (c : Ctx0 G X) (ha : Ev G W X a wa) (hb : Ev G W X b wb) (hx : PlainIx b := by intro _ _; rfl) : Ev G W X (.Subscript a b pos) (wOp dIx wa wb) :=
  ev_ixR (by have := ix_seq (X := X); rw [c.K] at this; exact this) snd_ix ha hb hx
end
end Dl

namespace Dl
open PySem PySem.Spec PyProof.Rows L2

/-! ### several values -/
def ROks (C : DC) (dk : Dk) (σ : L2.St) (H F : Hp) (env : En) : List R → List V → Prop
  | [], [] => True
  | r :: rs, v :: vs => (r.still ∧ ROk C dk σ H F env r v) ∧ ROks C dk σ H F env rs vs
  | _, _ => False
def toDs : List R → Option (List PyData)
  | [] => some []
  | r :: rs => match r.toD, toDs rs with
    | some x, some xs => some (x :: xs)
    | _, _ => none
def holdAll : List R → En → En
  | [], e => e
  | r :: rs, e => holdAll rs (r.hold e)
abbrev WA := En → (List R → En → Prop) → (Exn → En → Prop) → Prop
def wA : List WE → WA
  | [] => fun env P _ => P [] env
  | w :: ws => fun env P Ex => w env (fun r e => wA ws e (fun rs e' => P (r.calm :: rs) e') Ex) Ex
def LA (G : DG) (W : WX) (ws : List WE) : TA := fun σ H Q => ∃ (C : DC) (dk : Dk) (F : Hp) (env : En) (P : List R → En → Prop) (Ex : Exn → En → Prop), C.g = G ∧ Ok C dk σ H F env ∧ wA ws env P Ex ∧
  (∀ rs env' vs H' F', P rs env' → rs.length = ws.length → Sub F F' → EnLe env env' → Ok C dk σ H' F' env' → ROks C dk σ H' F' env' rs vs → Q vs H') ∧
  (∀ x env' cls d H' F', Ex x env' → Sub F F' → EnLe env env' → Ok C dk σ H' F' env' → XOk C F' H' x cls d → W cls d σ H')
structure EvA (G : DG) (W : WX) (X : Cx) (es : List Expr) (ws : List WE) : Prop where
  pa : PA X es (LA G W ws)
theorem PA.imp {X : Cx} {es : List Expr} {t u : TA} (h : PA X es t) (i : ∀ σ H Q, u σ H Q → t σ H Q) : PA X es u := ⟨fun pos pins s σ H Q I q => h.run pos pins s σ H Q I (i σ H Q q)⟩
section
variable {C : DC} {dk : Dk} {σ : L2.St} {H H' F F' : Hp} {env env' : En} {rs : List R} {vs : List V} {xs : List PyData}
theorem ROks.keep : ∀ {rs : List R} {vs : List V}, ROks C dk σ H F env rs vs → Sub F F' → EnLe env env' → ROks C dk σ H' F' env' rs vs
  | [], [], _, _, _ => trivial
  | r :: rs, v :: vs, h, s, l => ⟨⟨h.1.1, h.1.2.keep h.1.1 s l⟩, ROks.keep h.2 s l⟩
  | [], _ :: _, h, _, _ => h.elim
  | _ :: _, [], h, _, _ => h.elim
theorem ROks.dp (o : Ok C dk σ H F env) : ∀ {rs : List R} {vs : List V} {xs : List PyData}, ROks C dk σ H F env rs vs → toDs rs = some xs → DqAll C.g.K H vs xs
  | [], [], xs, _, e => by cases e; exact .nil
  | r :: rs, v :: vs, xs, h, e => by
    unfold toDs at e
    cases e1 : r.toD with
    | none => rw [e1] at e; cases e
    | some x =>
      cases e2 : toDs rs with
      | none => rw [e1, e2] at e; cases e
      | some ys =>
        rw [e1, e2] at e; cases e
        exact .cons (h.1.2.dp o e1) (ROks.dp o h.2 e2)
  | [], _ :: _, _, h, _ => h.elim
  | _ :: _, [], _, h, _ => h.elim
theorem toDs_cons {r : R} {rs : List R} (h : toDs (r :: rs) = some xs) : ∃ x ys, r.toD = some x ∧ toDs rs = some ys ∧ xs = x :: ys := by
  unfold toDs at h
  cases e1 : r.toD with
  | none => rw [e1] at h; cases h
  | some x =>
    cases e2 : toDs rs with
    | none => rw [e1, e2] at h; cases h
    | some ys => rw [e1, e2] at h; cases h; exact ⟨x, ys, rfl, rfl, rfl⟩
theorem toDs_len : ∀ {rs : List R} {xs : List PyData}, toDs rs = some xs → rs.length = xs.length
  | [], _, e => by cases e; rfl
  | r :: rs, xs, e => by
    obtain ⟨x, ys, _, e2, rfl⟩ := toDs_cons e
    exact congrArg Nat.succ (toDs_len e2)
theorem ROks.held : ∀ {rs : List R} {vs : List V} {xs : List PyData} {F : Hp} {env : En}, Ok C dk σ H F env → ROks C dk σ H F env rs vs → toDs rs = some xs →
    ∃ F', Sub F F' ∧ Ok C dk σ H F' (holdAll rs env) ∧ EnLe env (holdAll rs env) ∧ DqAll C.g.K F' vs xs
  | [], [], xs, F, env, o, _, e => by cases e; exact ⟨F, Sub.refl F, o, EnLe.refl _, .nil⟩
  | r :: rs, v :: vs, xs, F, env, o, h, e => by
    obtain ⟨x, ys, e1, e2, rfl⟩ := toDs_cons e
    obtain ⟨F1, s1, o1, l1, k1⟩ := ROk.held o h.1.2 e1
    obtain ⟨F2, s2, o2, l2, k2⟩ := ROks.held o1 (h.2.keep s1 l1) e2
    exact ⟨F2, s1.trans s2, o2, l1.trans l2, .cons (k1.mono s2) k2⟩
  | [], _ :: _, _, _, _, _, h, _ => h.elim
  | _ :: _, [], _, _, _, _, h, _ => h.elim
end
section
variable {G : DG} {W : WX} {X : Cx}
theorem eva_nil : EvA G W X [] [] := ⟨PA.imp pa_nil fun σ H Q h => by
  obtain ⟨C, dk, F, env, P, Ex, e, o, h1, f1, f2⟩ := h
  exact f1 _ _ _ _ _ h1 rfl (Sub.refl F) (EnLe.refl _) o trivial⟩
theorem eva_cons {e : Expr} {es : List Expr} {w : WE} {ws : List WE} (h : Ev G W X e w) (hr : EvA G W X es ws) (hs : starEach (e :: es) X.env = (false, eval e X.env) :: starEach es X.env := by rfl) : EvA G W X (e :: es) (w :: ws) := by
  refine ⟨PA.imp (pa_cons h.pe hr.pa hs) fun σ H Q q => ?_⟩
  obtain ⟨C, dk, F, env, P, Ex, rfl, o, h1, f1, f2⟩ := q
  refine ⟨C, dk, F, env, fun r e => wA ws e (fun rs e' => P (r.calm :: rs) e') Ex, Ex, rfl, o, h1, fun r env1 v H1 F1 p s1 l1 o1 k1 => ?_, f2⟩
  obtain ⟨F2, s2, o2, k2, st⟩ := k1.calmed o1
  refine ⟨C, dk, F2, env1, fun rs e' => P (r.calm :: rs) e', Ex, rfl, o2, p, fun rs env3 vs H3 F3 p3 n3 s3 l3 o3 k3 => ?_, fun x env' cls d H' F' p' s' l' o' k' => f2 x env' cls d H' F' p' ((s1.trans s2).trans s') (l1.trans l') o' k'⟩
  exact f1 _ _ _ _ _ p3 (congrArg Nat.succ n3) ((s1.trans s2).trans s3) (l1.trans l3) o3 ⟨⟨st, k2.keep st s3 l3⟩, k3⟩
/-- from a list of arguments on -/
theorem L.args {C : DC} {ws : List WE} {g : List R → WE} {dk : Dk} {σ : L2.St} {H F : Hp} {env : En} {P : R → En → Prop} {Ex : Exn → En → Prop} {Q : VK} {Q' : List V → Hp → Prop} (o : Ok C dk σ H F env)
    (h : wA ws env (fun rs e => g rs e P Ex) Ex) (f : Fin C W dk σ F env P Ex Q)
    (k : ∀ rs vs H1 F1 env1, rs.length = ws.length → Ok C dk σ H1 F1 env1 → ROks C dk σ H1 F1 env1 rs vs → g rs env1 P Ex → Fin C W dk σ F1 env1 P Ex Q → Q' vs H1) : LA C.g W ws σ H Q' :=
  ⟨C, dk, F, env, _, _, rfl, o, h, fun rs e vs H' F' p n s l o' q => k rs vs H' F' e n o' q p (f.le s l), fun x e c d H' F' p s l o' q => f.2 x e c d H' F' p s l o' q trivial⟩

/-! ### displays -/
def wTup (ws : List WE) : WE := fun env P Ex => wA ws env (fun rs e => match toDs rs with
  | some xs => P (.d (.tuple xs)) (holdAll rs e)
  | none => False) Ex
def wLst (ws : List WE) : WE := fun env P Ex => wA ws env (fun rs e => match toDs rs with
  | some xs => P (.nw (.lst xs)) (holdAll rs e)
  | none => False) Ex
theorem ev_tup {es : List Expr} {ws : List WE} {x1 pos} (h : EvA G W X es ws) (hle : ws.length ≤ 1000 := by exact Nat.le_of_ble_eq_true rfl) : Ev G W X (.Tuple es x1 pos) (wTup ws) := by
  refine Ev.of (pe_tup h.pa) fun C hC dk σ H F env P Ex Q o hw f => ?_
  subst hC
  refine L.args (g := fun rs e P _ => match toDs rs with
    | some xs => P (.d (.tuple xs)) (holdAll rs e)
    | none => False) o (by assumption) f fun rs vs H1 F1 env1 n1 o1 k1 h1 f1 => ?_
  cases e : toDs rs with
  | none => rw [e] at h1; exact h1.elim
  | some xs =>
    rw [e] at h1
    have h1' : P (.d (.tuple xs)) (holdAll rs env1) := h1
    obtain ⟨F2, s2, o2, l2, k2⟩ := k1.held o1 e
    refine ⟨by rw [k2.length, ← toDs_len e, n1]; exact Nat.le_trans hle (by decide), fun p hp => ?_⟩
    obtain ⟨F3, s3, o3, k3⟩ := o2.newTup hp k2
    exact f1.1 _ _ _ _ _ h1' (s2.trans s3) l2 o3 k3
theorem ev_lst {es : List Expr} {ws : List WE} {pos} (h : EvA G W X es ws) (hle : ws.length ≤ 1000 := by exact Nat.le_of_ble_eq_true rfl) : Ev G W X (.List es pos) (wLst ws) := by
  refine Ev.of (pe_lst h.pa) fun C hC dk σ H F env P Ex Q o hw f => ?_
  subst hC
  refine L.args (g := fun rs e P _ => match toDs rs with
    | some xs => P (.nw (.lst xs)) (holdAll rs e)
    | none => False) o (by assumption) f fun rs vs H1 F1 env1 n1 o1 k1 h1 f1 => ?_
  cases e : toDs rs with
  | none => rw [e] at h1; exact h1.elim
  | some xs =>
    rw [e] at h1
    have h1' : P (.nw (.lst xs)) (holdAll rs env1) := h1
    obtain ⟨F2, s2, o2, l2, k2⟩ := k1.held o1 e
    refine ⟨by rw [k2.length, ← toDs_len e, n1]; exact Nat.le_trans hle (by decide), fun p hp => ?_⟩
    exact f1.1 _ _ _ _ _ h1' s2 l2 (o2.newCell _ hp) (o2.newPriv hp k2)

/-! ### built-ins -/
abbrev OpN := List PyData → (R → Prop) → Prop
def wB (op : OpN) (ws : List WE) : WE := fun env P Ex => wA ws env (fun rs e => match toDs rs with
  | some xs => op xs fun t => P t e
  | none => False) Ex
def SndN (G : DG) (rr : List V → Hp → VK → Prop) (op : OpN) : Prop := ∀ (C : DC), C.g = G → ∀ dk σ H F env rs vs xs Q (P : R → Prop), Ok C dk σ H F env → ROks C dk σ H F env rs vs → toDs rs = some xs → op xs P →
  (∀ t w H' F', P t → Sub F F' → Ok C dk σ H' F' env → ROk C dk σ H' F' env t w → Q w H') → rr vs H Q
theorem L.many {C : DC} {ws : List WE} {rr : List V → Hp → VK → Prop} {op : OpN} (hs : SndN C.g rr op) {dk : Dk} {σ : L2.St} {H F : Hp} {env : En} {P : R → En → Prop} {Ex : Exn → En → Prop} {Q : VK} (o : Ok C dk σ H F env) (h : wB op ws env P Ex) (f : Fin C W dk σ F env P Ex Q) :
    LA C.g W ws σ H (fun vs H1 => rr vs H1 Q) := by
  refine L.args (g := fun rs e P _ => match toDs rs with
    | some xs => op xs fun t => P t e
    | none => False) o (by assumption) f fun rs vs H1 F1 env1 n1 o1 k1 h1 f1 => ?_
  cases e : toDs rs with
  | none => rw [e] at h1; exact h1.elim
  | some xs =>
    rw [e] at h1
    exact hs _ rfl _ _ _ _ _ _ _ _ _ _ o1 k1 e h1 fun t w H' F' p s' o' k' => f1.1 _ _ _ _ _ p s' (EnLe.refl _) o' k'
variable {x : Str} {p pos : Pos} {e : Expr} {es : List Expr} {ws : List WE} {id T : String} {rr : List V → Hp → VK → Prop} {op : OpN}
theorem ev_callB (hc : CallR X (.builtin id) rr) (hs : SndN G rr op) (hm : X.mg x = none) (hv : bootBuiltins x = some (.builtin id)) (ha : EvA G W X (e :: es) ws) (hg : Gl X x := by rfl) (hn : x ≠ "__name__" := by decide) (hdb : (x == ("__debug__" : Str)) = false := by decide)
    (he : starEach (e :: es) X.env = (false, eval e X.env) :: starEach es X.env := by rfl) (hpl : (backTo pos (starEach es X.env)).any (·.1) = false := by rfl) : Ev G W X (.Call (.Name x p) (e :: es) [] pos) (wB op ws) :=
  Ev.of (pe_callB hc hg hm hv ha.pa hn hdb he hpl) fun C hC dk σ H F env P Ex Q o h f => by subst hC; exact L.many hs o h f
theorem ev_callTy (hc : CallR X (.type T) rr) (hs : SndN G rr op) (hm : X.mg x = none) (hv : bootBuiltins x = some (.type T)) (ha : EvA G W X (e :: es) ws) (hg : Gl X x := by rfl) (hn : x ≠ "__name__" := by decide) (hdb : (x == ("__debug__" : Str)) = false := by decide)
    (he : starEach (e :: es) X.env = (false, eval e X.env) :: starEach es X.env := by rfl) (hpl : (backTo pos (starEach es X.env)).any (·.1) = false := by rfl) : Ev G W X (.Call (.Name x p) (e :: es) [] pos) (wB op ws) :=
  Ev.of (pe_callTy hc hg hm hv ha.pa hn hdb he hpl) fun C hC dk σ H F env P Ex Q o h f => by subst hC; exact L.many hs o h f
/-- a function of a module that is imported -/
theorem ev_callM (hc : CallR X (.builtin id) rr) (hs : SndN G rr op) (hm : X.mg x = some (.builtin id)) (ha : EvA G W X (e :: es) ws) (hg : Gl X x := by rfl) (hdb : (x == ("__debug__" : Str)) = false := by decide)
    (he : starEach (e :: es) X.env = (false, eval e X.env) :: starEach es X.env := by rfl) (hpl : (backTo pos (starEach es X.env)).any (·.1) = false := by rfl) : Ev G W X (.Call (.Name x p) (e :: es) [] pos) (wB op ws) :=
  Ev.of (pe_callBfun hc hg hm ha.pa hdb he hpl) fun C hC dk σ H F env P Ex Q o h f => by subst hC; exact L.many hs o h f
theorem ROks.one {C : DC} {dk : Dk} {σ : L2.St} {H F : Hp} {env : En} {rs : List R} {vs : List V} {x : PyData} (h : ROks C dk σ H F env rs vs) (e : toDs rs = some [x]) : ∃ r v, rs = [r] ∧ vs = [v] ∧ ROk C dk σ H F env r v ∧ r.toD = some x := by
  match rs, vs, h with
  | [], [], _ => cases e
  | r :: rs, v :: vs, h =>
    obtain ⟨y, ys, e1, e2, e3⟩ := toDs_cons e
    cases e3
    match rs, vs, h with
    | [], [], h => exact ⟨r, v, rfl, rfl, h.1.2, e1⟩
    | q :: qs, _, _ => obtain ⟨_, _, _, _, e4⟩ := toDs_cons e2; cases e4
    | [], _ :: _, h => exact h.2.elim
theorem ROks.two {C : DC} {dk : Dk} {σ : L2.St} {H F : Hp} {env : En} {rs : List R} {vs : List V} {x y : PyData} (h : ROks C dk σ H F env rs vs) (e : toDs rs = some [x, y]) : ∃ r s v u, rs = [r, s] ∧ vs = [v, u] ∧ ROk C dk σ H F env r v ∧ r.toD = some x ∧ ROk C dk σ H F env s u ∧ s.toD = some y := by
  match rs, vs, h with
  | [], [], _ => cases e
  | r :: rs, v :: vs, h =>
    obtain ⟨y, ys, e1, e2, e3⟩ := toDs_cons e
    cases e3
    obtain ⟨s, u, rfl, rfl, k, e4⟩ := ROks.one h.2 e2
    exact ⟨r, s, v, u, rfl, rfl, h.1.2, e1, k, e4⟩
/-! len, abs, int, gcd, tuple, list, sum -/
def dLen : OpN := fun xs P => match xs with
  | [.list ds] => P (.d (.int ds.length))
  | [.tuple ds] => P (.d (.int ds.length))
  | [.str z] => z.length ≤ sizeLine ∧ P (.d (.int z.length))
  | _ => False
def rLen2 (K : PySem.W.Frag) : List V → Hp → VK → Prop := fun xs H Q => (∃ p ys, xs = [.ref p] ∧ (SqL K H p ys ∨ SqT K H p ys) ∧ Q (.int ys.length) H) ∨ ∃ z, xs = [.str z] ∧ z.length ≤ sizeLine ∧ Q (.int z.length) H
theorem call_len2 : CallR X (.builtin "len") (rLen2 X.K) := CallR.or call_len_seq call_len_str
theorem snd_len : SndN G (rLen2 G.K) dLen := by
  intro C hC dk σ H F env rs vs xs Q P o k e h q
  subst hC
  match xs, h with
  | [.list ds], h =>
    obtain ⟨r, v, rfl, rfl, k1, e1⟩ := k.one e
    obtain ⟨p1, vs1, rfl, a1, b1⟩ := k1.lst o e1
    refine .inl ⟨p1, vs1, rfl, .inl (SqL.of a1), ?_⟩
    rw [b1.length]
    exact q _ _ _ _ h (Sub.refl F) o (Dq.int _)
  | [.tuple ds], h =>
    obtain ⟨r, v, rfl, rfl, k1, e1⟩ := k.one e
    obtain ⟨p1, vs1, rfl, a1, b1⟩ := k1.tup o e1
    refine .inl ⟨p1, vs1, rfl, .inr a1, ?_⟩
    rw [b1.length]
    exact q _ _ _ _ h (Sub.refl F) o (Dq.int _)
  | [.str z], h =>
    obtain ⟨r, v, rfl, rfl, k1, e1⟩ := k.one e
    refine .inr ⟨z, by rw [k1.str o e1], h.1, q _ _ _ _ h.2 (Sub.refl F) o (Dq.int _)⟩
theorem ev_len (c : Ctx0 G X) (hm : X.mg "len" = none) (ha : EvA G W X (e :: es) ws) (hg : Gl X "len" := by rfl)
    (he : starEach (e :: es) X.env = (false, eval e X.env) :: starEach es X.env := by rfl) (hpl : (backTo pos (starEach es X.env)).any (·.1) = false := by rfl) : Ev G W X (.Call (.Name "len" p) (e :: es) [] pos) (wB dLen ws) :=
  ev_callB (by have := call_len2 (X := X); rw [c.K] at this; exact this) snd_len hm boot_len ha hg (by decide) (by decide) he hpl
def dAbs : OpN := fun xs P => match xs with
  | [.int i] => P (.d (.int (i.natAbs : Int)))
  | _ => False
theorem natAbs_ite (i : Int) : (if i < 0 then -i else i) = (i.natAbs : Int) := by split <;> omega
theorem snd_abs : SndN G (fun xs H Q => ∃ i, xs = [.int i] ∧ Q (.int (if i < 0 then -i else i)) H) dAbs := by
  intro C hC dk σ H F env rs vs xs Q P o k e h q
  subst hC
  match xs, h with
  | [.int i], h =>
    obtain ⟨r, v, rfl, rfl, k1, e1⟩ := k.one e
    refine ⟨i, by rw [k1.int o e1], ?_⟩
    rw [natAbs_ite]
    exact q _ _ _ _ h (Sub.refl F) o (Dq.int _)
theorem ev_abs (hm : X.mg "abs" = none) (ha : EvA G W X (e :: es) ws) (hg : Gl X "abs" := by rfl)
    (he : starEach (e :: es) X.env = (false, eval e X.env) :: starEach es X.env := by rfl) (hpl : (backTo pos (starEach es X.env)).any (·.1) = false := by rfl) : Ev G W X (.Call (.Name "abs" p) (e :: es) [] pos) (wB dAbs ws) :=
  ev_callB call_abs snd_abs hm (by decide +kernel) ha hg (by decide) (by decide) he hpl
def dInt1 : OpN := fun xs P => match xs with
  | [.int i] => P (.d (.int i))
  | [.bool b] => P (.d (.int (if b then 1 else 0)))
  | _ => False
theorem snd_int1 : SndN G (fun xs H Q => (∃ i, xs = [.int i] ∧ Q (.int i) H) ∨ ∃ k, xs = [.bl k] ∧ Q (.int (if k then 1 else 0)) H) dInt1 := by
  intro C hC dk σ H F env rs vs xs Q P o k e h q
  subst hC
  match xs, h with
  | [.int i], h =>
    obtain ⟨r, v, rfl, rfl, k1, e1⟩ := k.one e
    exact .inl ⟨i, by rw [k1.int o e1], q _ _ _ _ h (Sub.refl F) o (Dq.int _)⟩
  | [.bool i], h =>
    obtain ⟨r, v, rfl, rfl, k1, e1⟩ := k.one e
    exact .inr ⟨i, by rw [k1.bool o e1], q _ _ _ _ h (Sub.refl F) o (Dq.int _)⟩
theorem ev_toint (hm : X.mg "int" = none) (ha : EvA G W X (e :: es) ws) (hg : Gl X "int" := by rfl)
    (he : starEach (e :: es) X.env = (false, eval e X.env) :: starEach es X.env := by rfl) (hpl : (backTo pos (starEach es X.env)).any (·.1) = false := by rfl) : Ev G W X (.Call (.Name "int" p) (e :: es) [] pos) (wB dInt1 ws) :=
  ev_callTy call_int1 snd_int1 hm (by decide +kernel) ha hg (by decide) (by decide) he hpl
def dGcd : OpN := fun xs P => match xs with
  | [.int a, .int b] => P (.d (.int (Int.gcd a b)))
  | _ => False
theorem snd_gcd : SndN G rGcd dGcd := by
  intro C hC dk σ H F env rs vs xs Q P o k e h q
  subst hC
  match xs, h with
  | [.int i, .int j], h =>
    obtain ⟨r, s, v, u, rfl, rfl, k1, e1, k2, e2⟩ := k.two e
    exact ⟨i, j, by rw [k1.int o e1, k2.int o e2], q _ _ _ _ h (Sub.refl F) o (Dq.int _)⟩
theorem ev_gcd (hm : X.mg x = some (.builtin "math.gcd")) (ha : EvA G W X (e :: es) ws) (hg : Gl X x := by rfl) (hdb : (x == ("__debug__" : Str)) = false := by decide)
    (he : starEach (e :: es) X.env = (false, eval e X.env) :: starEach es X.env := by rfl) (hpl : (backTo pos (starEach es X.env)).any (·.1) = false := by rfl) : Ev G W X (.Call (.Name x p) (e :: es) [] pos) (wB dGcd ws) :=
  ev_callM cr_gcd snd_gcd hm ha hg hdb he hpl
def dTuple : OpN := fun xs P => match xs with
  | [.list ds] => P (.d (.tuple ds))
  | [.tuple ds] => P (.d (.tuple ds))
  | _ => False
theorem snd_tuple : SndN G (fun xs H Q => ∃ p ys, xs = [.ref p] ∧ ((SqL G.K H p ys ∧ ∀ l, H l = none → Q (.ref l) (upd H l (.tup ys))) ∨ (SqT G.K H p ys ∧ Q (.ref p) H))) dTuple := by
  intro C hC dk σ H F env rs vs xs Q P o k e h q
  subst hC
  match xs, h with
  | [.list ds], h =>
    obtain ⟨r, v, rfl, rfl, k1, e1⟩ := k.one e
    obtain ⟨p1, vs1, rfl, a1, b1⟩ := k1.lst o e1
    refine ⟨p1, vs1, rfl, .inl ⟨SqL.of a1, fun l hl => ?_⟩⟩
    obtain ⟨F3, s3, o3, k3⟩ := o.newTup hl b1
    exact q _ _ _ _ h s3 o3 k3
  | [.tuple ds], h =>
    obtain ⟨r, v, rfl, rfl, k1, e1⟩ := k.one e
    obtain ⟨p1, vs1, rfl, a1, b1⟩ := k1.tup o e1
    refine ⟨p1, vs1, rfl, .inr ⟨a1, ?_⟩⟩
    refine q _ _ _ _ h (Sub.refl F) o ?_
    cases r with
    | d y => cases e1; exact k1
    | nw c => cases c; cases e1
    | bw i c => cases c; cases e1
    | deck => cases e1
    | opq z => cases e1
theorem ev_tuple (c : Ctx0 G X) (hm : X.mg "tuple" = none) (ha : EvA G W X (e :: es) ws) (hg : Gl X "tuple" := by rfl)
    (he : starEach (e :: es) X.env = (false, eval e X.env) :: starEach es X.env := by rfl) (hpl : (backTo pos (starEach es X.env)).any (·.1) = false := by rfl) : Ev G W X (.Call (.Name "tuple" p) (e :: es) [] pos) (wB dTuple ws) :=
  ev_callTy (by have := call_tuple_of (X := X); rw [c.K] at this; exact this) snd_tuple hm (by decide +kernel) ha hg (by decide) (by decide) he hpl
def dList : OpN := fun xs P => match xs with
  | [.list ds] => P (.nw (.lst ds))
  | [.tuple ds] => P (.nw (.lst ds))
  | _ => False
theorem snd_list : SndN G (fun xs H Q => ∃ p ys, xs = [.ref p] ∧ (SqL G.K H p ys ∨ SqT G.K H p ys) ∧ ∀ l, H l = none → Q (.ref l) (upd H l (.lst ys))) dList := by
  intro C hC dk σ H F env rs vs xs Q P o k e h q
  subst hC
  match xs, h with
  | [.list ds], h =>
    obtain ⟨r, v, rfl, rfl, k1, e1⟩ := k.one e
    obtain ⟨p1, vs1, rfl, a1, b1⟩ := k1.lst o e1
    exact ⟨p1, vs1, rfl, .inl (SqL.of a1), fun l hl => q _ _ _ _ h (Sub.refl F) (o.newCell _ hl) (o.newPriv hl b1)⟩
  | [.tuple ds], h =>
    obtain ⟨r, v, rfl, rfl, k1, e1⟩ := k.one e
    obtain ⟨p1, vs1, rfl, a1, b1⟩ := k1.tup o e1
    exact ⟨p1, vs1, rfl, .inr a1, fun l hl => q _ _ _ _ h (Sub.refl F) (o.newCell _ hl) (o.newPriv hl b1)⟩
theorem ev_list (c : Ctx0 G X) (hm : X.mg "list" = none) (ha : EvA G W X (e :: es) ws) (hg : Gl X "list" := by rfl)
    (he : starEach (e :: es) X.env = (false, eval e X.env) :: starEach es X.env := by rfl) (hpl : (backTo pos (starEach es X.env)).any (·.1) = false := by rfl) : Ev G W X (.Call (.Name "list" p) (e :: es) [] pos) (wB dList ws) :=
  ev_callTy (by have := call_list_of (X := X); rw [c.K] at this; exact this) snd_list hm (by decide +kernel) ha hg (by decide) (by decide) he hpl
end
end Dl

namespace Dl
open PySem PySem.Spec PyProof.Rows L2

/-! ### what a def is, by data -/
abbrev FSem := List R → (R → Prop) → (Exn → Prop) → Prop
def argOf (r : R) : R := match r.toD with
  | some x => .d x
  | none => r
def ArgsOk (g : DG) (dk : Dk) (F : Hp) : List R → List V → Prop
  | [], [] => True
  | r :: rs, v :: vs => (match r with
    | .d x => Dq g.K F v x
    | .deck => ∃ da dl, dk = some (da, dl) ∧ v = .ref da
    | .opq y => v = y
    | _ => False) ∧ ArgsOk g dk F rs vs
  | _, _ => False
/-- behind a call: F' the data that stand then -/
structure Aft (g : DG) (dk : Dk) (H F H' F' : Hp) : Prop where
  sf : Sub F F'
  sub : Sub F' H'
  new : ∀ a o, F' a = some o → F a = none → H a = none
  keep : ∀ a o, H a = some o → Off dk a → H' a = some o
  deck : DeckOk g H' F' dk
def RetOk (g : DG) (dk : Dk) (H H' F' : Hp) : R → V → Prop
  | .d x, v => Dq g.K F' v x
  | .nw c, v => ∃ p, v = .ref p ∧ F' p = none ∧ H p = none ∧ Off dk p ∧ ∃ ho, H' p = some ho ∧ CellOk g.K F' c ho
  | .bw _ _, _ => False
  | .deck, v => ∃ da dl, v = .ref da ∧ da ≠ dl ∧ H da = none ∧ H dl = none ∧ DeckOk g H' F' (some (da, dl))
  | .opq y, v => v = y
def XOk0 (g : DG) (F H : Hp) (x : Exn) (cls : Value) (d : Option Addr) : Prop := XOk ⟨g, fun _ => none, fun _ => none, none⟩ F H x cls d
def spOf (g : DG) (f : FSem) : Sp := fun vs H Q E => ∃ (F : Hp) (dk : Dk) (us : List R), Sub F H ∧ DeckOk g H F dk ∧ ArgsOk g dk F us vs ∧
  ∃ (P : R → Prop) (Ex : Exn → Prop), f us P Ex ∧ (∀ t v H' F', P t → Aft g dk H F H' F' → RetOk g dk H H' F' t v → Q v H') ∧
    (∀ x cls d H' F', Ex x → Aft g dk H F H' F' → XOk0 g F' H' x cls d → E cls d H')
/-- a def that is found by its name and does what f says -/
structure Fg (P : Program) (w : World) (g : DG) (base : Heap) (x : Str) (st : Stmt) (k : Nat) (ps : List Str) (f : FSem) : Prop where
  ex : ∃ (a : Addr) (fd : FuncData), g.mg x = some (.ref a) ∧ Fun g.K x x st a fd ∧ ∀ (A : Around) (outer : List Env) (s : Shared) (H : Hp) (args : Args) (us : List Value) (vs : List V) (Q : VK) (E : XK),
    Room k A → A.guards = some [] → Env0 P w g.K g.mg base A outer s H → vs.length = ps.length → BindsTo s fd args (ps.zip us) → Vals vs us → spOf g f vs H Q E → codeAny (model P w) A (.call (.ref a) args) (CR (L2.CX P w) outer P w H s Q E) s
section
variable {P : Program} {w : World} {g : DG} {base : Heap} {x : Str} {st : Stmt} {k : Nat} {ps N : List Str} {f : FSem}
theorem Fg.mono {j : Nat} (h : Fg P w g base x st k ps f) (l : k ≤ j) : Fg P w g base x st j ps f := by
  obtain ⟨a, fd, h1, h2, h3⟩ := h.ex
  exact ⟨a, fd, h1, h2, fun A outer s H args us vs Q E hr => h3 A outer s H args us vs Q E (hr.mono l)⟩
/-- THE RULE of a def, guards told -/
theorem fg_of {a : Addr} {fd : FuncData} (hm : g.mg x = some (.ref a)) (F : Fun g.K x x st a fd) (S : FnScope N ps (defScope st))
    (hbody : ∀ (cdv : Value) (A : Around) (outer : List Env) (s : Shared) (H : Hp) (vs : List V) (Q : VK) (E : XK), Room k (A.deeper (envOfC x (defScope st) s.heap.objs.size a cdv)) → A.guards = some [] → vs.length = ps.length → spOf g f vs H Q E →
      ∃ t, PSs (cxOf (L2.CX P w) P w g.K g.mg base N x (defScope st) a cdv A outer s H E) (defBody st) t ∧ t { nx := fun _ H' => Q .non H', rt := Q } (start N vs) H) : Fg P w g base x st (k + 1) ps f := by
  refine ⟨a, fd, hm, F, ?_⟩
  obtain ⟨oc, od, kV, doc, pm, an, cdv, ct, osl, efd, lk, hcd⟩ := F.ex
  subst efd
  intro A outer s H args us vs Q E hr hgd e0 lenV hb rv hsp
  have inS : g.K.In s.heap := e0.mod.kin.keeps fun b o e => (e0.bs b o e).1
  have noL : s.heap.NoLimit := e0.mod.nolimit.keeps fun b o e => (e0.bs b o e).1
  have kinds : ∀ y ∈ ps.zip us, (defScope st).names.lookup y.1 = some .local ∨ ((defScope st).names.lookup y.1 = some .cell ∧ ((cellsFrom (s.heap.objs.size + 1) (defScope st).names []).lookup y.1).isSome = true) := by
    rintro ⟨n, v⟩ hy
    exact (S.par n (List.of_mem_zip hy).1).imp id fun q => ⟨q, PySem.W.cellsFrom_some _ _ _ (.inl q)⟩
  refine codeAny_call_function hr.depth (inS _ _ lk) rfl S.co S.gen rfl (PySem.W.codeRec_of inS hcd) (hb _ _ _ _ (wpAny_newFunctionEnv_cells S.kind kinds fun env he s1 z => ?_))
  subst he
  obtain ⟨t, ht, hq⟩ := hbody cdv A outer s H vs Q E (hr.deeper _) hgd lenV hsp
  have J := inv_start (CX := L2.CX P w) (E := E) S hr.hd e0 lenV rv z
  refine ⟨noL.keeps z.toInCall.keep, codeAny_func (wpAny_mono (ht.run [] s1 (start N vs) H _ J hq) (fun fl s' hs => ?_) fun _ _ q => q)⟩
  cases fl with
  | ret u => obtain ⟨v, σ', H', J', r', q⟩ := hs; exact ⟨v, H', J'.os, J'.bare, J'.base, J'.hok, r', q⟩
  | next => obtain ⟨σ', H', J', q⟩ := hs; exact ⟨V.non, H', J'.os, J'.bare, J'.base, J'.hok, rfl, q⟩
  | brk => obtain ⟨_, _, _, q⟩ := hs; exact q.elim
  | cont => obtain ⟨_, _, _, q⟩ := hs; exact q.elim
end
/-! ### calls -/
section
variable {C : DC} {dk : Dk} {σ : L2.St} {H H' F F' : Hp} {env : En} {rs : List R} {vs : List V}
/-- all arguments held -/
theorem ROks.args : ∀ {rs : List R} {vs : List V} {F : Hp} {env : En}, Ok C dk σ H F env → ROks C dk σ H F env rs vs →
    ∃ F', Sub F F' ∧ Ok C dk σ H F' (holdAll rs env) ∧ EnLe env (holdAll rs env) ∧ ArgsOk C.g dk F' (rs.map argOf) vs
  | [], [], F, env, o, _ => ⟨F, Sub.refl F, o, EnLe.refl _, trivial⟩
  | r :: rs, v :: vs, F, env, o, h => by
    cases e : r.toD with
    | some x =>
      obtain ⟨F1, s1, o1, l1, k1⟩ := ROk.held o h.1.2 e
      obtain ⟨F2, s2, o2, l2, k2⟩ := ROks.args o1 (h.2.keep s1 l1)
      refine ⟨F2, s1.trans s2, o2, l1.trans l2, ?_, k2⟩
      have : argOf r = .d x := by unfold argOf; rw [e]
      rw [this]
      exact k1.mono s2
    | none =>
      have eh : r.hold env = env := by
        cases r with
        | bw i c => cases c; cases e
        | _ => rfl
      obtain ⟨F2, s2, o2, l2, k2⟩ := ROks.args o h.2
      have ea : argOf r = r := by unfold argOf; rw [e]
      refine ⟨F2, s2, by show Ok C dk σ H F2 (holdAll rs (r.hold env)); rw [eh]; exact o2, by show EnLe env (holdAll rs (r.hold env)); rw [eh]; exact l2, ?_, k2⟩
      rw [ea]
      have k := h.1.2
      cases r with
      | d x => cases e
      | nw c => cases c; cases e
      | bw i c => cases c; cases e
      | deck => exact k
      | opq y => exact k
  | [], _ :: _, _, _, _, h => h.elim
  | _ :: _, [], _, _, _, h => h.elim
/-- the caller's state behind the call; F0 ⊆ F: what it lets stand of its data -/
theorem Ok.after {F1 : Hp} {env1 : En} (o : Ok C dk σ H F env) (o1 : Ok C dk σ H F1 env1) (s1 : Sub F1 F) (a : Aft C.g dk H F H' F') (F2 : Hp) (h2 : F2 = F1 ∨ (F2 = F' ∧ env1 = env)) : Ok C dk σ H' F2 env1 := by
  have dkk : ∀ {p}, Off C.dk0 p → ∀ {u}, C.B p = some u → Off dk p := fun {p} f {u} e => by
    rcases o.dkr with w | ⟨_, w⟩
    · rw [w]; exact f
    · intro da dl z
      obtain ⟨n1, n2⟩ := w da dl z
      constructor
      · intro y; rw [y, n1] at e; cases e
      · intro y; rw [y, n2] at e; cases e
  have base : ∀ p u, C.B p = some u → Off C.dk0 p → H' p = some u := fun p u e f => a.keep p u (o.base p u e f) (dkk f e)
  rcases h2 with rfl | ⟨rfl, rfl⟩
  · refine ⟨(s1.trans a.sf).trans a.sub, o1.len, fun i s e => ?_, o1.sep, ?_, base, o1.fnew, o1.f0, o1.dkr⟩
    · have q := o1.slot i s e
      cases s with
      | own c => obtain ⟨p, e1, k⟩ := q; obtain ⟨ho, w, k2⟩ := k.at_; exact ⟨p, e1, k.nf, k.nb, k.off, ho, a.keep _ _ w k.off, k2⟩
      | no => exact q
      | d x => exact q
      | deck => exact q
      | opq z => exact q
    · have D := a.deck
      have D1 := o1.deck
      cases dk with
      | none => trivial
      | some kk => obtain ⟨da, dl⟩ := kk; exact ⟨D1.1, D1.2.1, D.2.2⟩
  · refine ⟨a.sub, o.len, fun i s e => ?_, o.sep, a.deck, base, fun p u e f => ?_, o.f0.trans a.sf, o.dkr⟩
    · have q := o.slot i s e
      cases s with
      | own c =>
        obtain ⟨p, e1, k⟩ := q
        obtain ⟨ho, w, k2⟩ := k.at_
        refine ⟨p, e1, ?_, k.nb, k.off, ho, a.keep _ _ w k.off, CellOk.mono k2 a.sf⟩
        cases z : F2 p with
        | none => rfl
        | some u => rw [a.new _ _ z k.nf] at w; cases w
      | d x => obtain ⟨v, e1, k⟩ := q; exact ⟨v, e1, k.mono a.sf⟩
      | no => exact q
      | deck => exact q
      | opq z => exact q
    · cases z : F p with
      | none => exact o.nb (a.new _ _ e z)
      | some u' => exact o.fnew p u' z f
end
def flatD : PyData → Bool
  | .none => true
  | .bool _ => true
  | .int _ => true
  | .str _ => true
  | _ => false
def R.flat : R → Bool
  | .d x => flatD x
  | _ => false
theorem flat_any {K : PySem.W.Frag} {F F' : Hp} {v : V} {x : PyData} (h : Dq K F v x) (f : flatD x = true) : Dq K F' v x := by
  cases h <;> first | (cases f; done) | constructor
def wCall (f : FSem) (ws : List WE) : WE := fun env P Ex => wA ws env (fun rs e => f (rs.map argOf) (fun t => match t with
  | .deck => False
  | t => P t (if t.flat = true then e else holdAll rs e)) fun x => Ex x (holdAll rs e)) Ex
section
variable {G : DG} {W : WX} {X : Cx}
theorem L.call {C : DC} {f : FSem} {dk : Dk} {σ : L2.St} {H F : Hp} {env : En} {rs : List R} {vs : List V} {P : R → En → Prop} {Ex : Exn → En → Prop} {Q : VK} {E : XK} (o : Ok C dk σ H F env) (k : ROks C dk σ H F env rs vs)
    (h : f (rs.map argOf) (fun t => match t with
      | .deck => False
      | t => P t (if t.flat = true then env else holdAll rs env)) fun x => Ex x (holdAll rs env)) (fin : Fin C W dk σ F env P Ex Q) (hE : ∀ cls d H', W cls d σ H' → E cls d H') : spOf C.g f vs H Q E := by
  obtain ⟨F1, s1, o1, l1, a1⟩ := k.args o
  refine ⟨F1, dk, rs.map argOf, o1.sub, o1.deck, a1, _, _, h, fun t v H' F' p a r => ?_, fun x cls d H' F' p a r => ?_⟩
  · have oA := o1.after o1 (Sub.refl F1) a F' (.inr ⟨rfl, rfl⟩)
    have oB := o1.after o s1 a F (.inl rfl)
    cases t with
    | d x =>
      have p' : P (.d x) (if flatD x = true then env else holdAll rs env) := p
      by_cases fl : flatD x = true
      · rw [if_pos fl] at p'
        exact fin.1 _ _ _ _ _ p' (Sub.refl F) (EnLe.refl _) oB (flat_any r fl)
      · rw [if_neg fl] at p'
        exact fin.1 _ _ _ _ _ p' (s1.trans a.sf) l1 oA r
    | nw c =>
      obtain ⟨p1, rfl, h1, h2, h3, h4⟩ := r
      refine fin.1 _ _ _ _ _ (show P (.nw c) (holdAll rs env) from p) (s1.trans a.sf) l1 oA ⟨p1, rfl, ⟨h1, o.nb h2, h3, h4⟩, fun i c' e z => ?_⟩
      obtain ⟨q, e1, kk⟩ := o1.slot _ _ e
      rw [z] at e1; cases e1
      obtain ⟨ho, w, _⟩ := kk.at_
      rw [h2] at w; cases w
    | bw i c => exact r.elim
    | deck => exact p.elim
    | opq y => exact fin.1 _ _ _ _ _ (show P (.opq y) (holdAll rs env) from p) (s1.trans a.sf) l1 oA r
  · have oA := o1.after o1 (Sub.refl F1) a F' (.inr ⟨rfl, rfl⟩)
    exact hE _ _ _ (fin.2 x _ cls d H' F' p (s1.trans a.sf) l1 oA r trivial)
variable {x : Str} {p pos : Pos} {e : Expr} {es : List Expr} {ws : List WE} {st : Stmt} {k : Nat} {ps : List Str} {f : FSem}
/-- the callee runs -/
theorem run_fg {a : Addr} {fd : FuncData} {pins : List (Addr × Obj)} {σ : L2.St} {H : Hp} {s : Shared} {Q : VK} {us : List Value} {vs : List V} {args : Args} (hG : X.mg = G.mg ∧ X.K = G.K) (tk : Takes X W) (hr : Room k X.A) (hg : X.A.guards = some [])
    (run : ∀ (A : Around) (outer : List Env) (s : Shared) (H : Hp) (args : Args) (us : List Value) (vs : List V) (Q : VK) (E : XK),
      Room k A → A.guards = some [] → Env0 X.prog X.w G.K G.mg X.base A outer s H → vs.length = ps.length → BindsTo s fd args (ps.zip us) → Vals vs us → spOf G f vs H Q E → codeAny (model X.prog X.w) A (.call (.ref a) args) (CR (L2.CX X.prog X.w) outer X.prog X.w H s Q E) s)
    (I : Inv X pins σ H s) (r : Vals vs us) (hl : vs.length = ps.length) (hb : BindsTo s fd args (ps.zip us)) (h : spOf G f vs H Q (L2.WE W σ)) : wpAny (model X.prog X.w) X.A (call (.ref a) args.pos args.kw) (EP X pins σ Q) X.xe s := by
  have e0 := I.env0
  rw [hG.1, hG.2] at e0
  refine wpAny_call (codeAny_mono (run X.A X.stack s H args us vs Q (L2.WE W σ) hr hg e0 hl hb r h) fun r s' hq => ?_)
  cases r with
  | error e => exact passAt tk σ pins H s e s' I hq
  | ok fl => cases fl with
    | ret u => exact I.after hq
    | _ => exact False.elim hq
theorem map_len {α β : Type} {f : α → β} (l : List α) : (l.map f).length = l.length := List.length_map ..
theorem ArgsOk.len {g : DG} {dk : Dk} {F : Hp} : ∀ {us : List R} {vs : List V}, ArgsOk g dk F us vs → us.length = vs.length
  | [], [], _ => rfl
  | _ :: _, _ :: _, h => congrArg Nat.succ (ArgsOk.len h.2)
  | [], _ :: _, h => h.elim
  | _ :: _, [], h => h.elim
theorem ROks.len {C : DC} {dk : Dk} {σ : L2.St} {H F : Hp} {env : En} : ∀ {us : List R} {vs : List V}, ROks C dk σ H F env us vs → us.length = vs.length
  | [], [], _ => rfl
  | _ :: _, _ :: _, h => congrArg Nat.succ (ROks.len h.2)
  | [], _ :: _, h => h.elim
  | _ :: _, [], h => h.elim
/-- f(e, ..) -/
theorem ev_call (D : Fg X.prog X.w G X.base x st k ps f) (c : Ctx0 G X) (tk : Takes X W) (hr : Room k X.A) (ha : EvA G W X (e :: es) ws)
    (hb : ∀ (kV doc pm : Value) (an : Option Addr) (cdv ct : Value) (us : List Value), us.length = ps.length → bindArgs (PySem.W.fnOf x x (defArgs st) (defBody st) (defScope st) .none kV doc pm an cdv ct) ⟨us, []⟩ = pure (ps.zip us))
    (hlen : ws.length = ps.length := by rfl) (hg : Gl X x := by rfl) (hd : (x == ("__debug__" : Str)) = false := by decide)
    (he : starEach (e :: es) X.env = (false, eval e X.env) :: starEach es X.env := by rfl) (hpl : (backTo pos (starEach es X.env)).any (·.1) = false := by rfl) : Ev G W X (.Call (.Name x p) (e :: es) [] pos) (wCall f ws) := by
  obtain ⟨a, fd, hm, Fn, run⟩ := D.ex
  have bind := Fn.binds hb
  refine ⟨⟨fun pins s σ H Q I q => ?_⟩⟩
  obtain ⟨C, dk, F, env, P, Ex, hC, o, hw, fin⟩ := q.fin
  subst hC
  have hk : PySem.W.keepIn X.K (.ref a) = true := by rw [c.K]; exact Fn.kp
  refine wpAny_Call_Name_kw (ld_glob I hg (by rw [c.mg]; exact hm) ?_ hd)
  have q2 : LA C.g W ws σ H fun vs H1 => vs.length = ps.length ∧ spOf C.g f vs H1 Q (L2.WE W σ) :=
    L.args (Q := Q) (P := P) (Ex := Ex) (g := fun rs e P Ex => f (rs.map argOf) (fun t => match t with
      | .deck => False
      | t => P t (if t.flat = true then e else holdAll rs e)) fun x => Ex x (holdAll rs e)) o hw fin fun rs vs H1 F1 env1 n1 o1 k1 h1 f1 =>
        ⟨by rw [← k1.len, n1]; exact hlen, L.call (W := W) o1 k1 h1 f1 fun _ _ _ z => z⟩
  refine PySem.W.callWith_K (h₀ := X.base) I.ok.mod.kin hk (thn (ha.pa.run pos pins s σ H _ I q2) fun us s1 ⟨vs, H1, I1, rv, hl, hsp⟩ => ⟨I1.kIn, ?_⟩) he hpl
  have e1 : us.length = ps.length := by rw [← rv.length]; exact hl
  exact run_fg (args := ⟨us, []⟩) ⟨c.mg, c.K⟩ tk hr c.g run I1 rv hl (by have := bind s1 us (by rw [← c.K]; exact I1.kIn) (by rw [List.append_nil]; exact e1); rw [List.append_nil] at this; exact this) hsp
end
end Dl

namespace Dl
open PySem PySem.Spec PyProof.Rows L2

/-! ### tests -/
abbrev WT := En → (Bool → En → Prop) → (Exn → En → Prop) → Prop
def LT (G : DG) (W : WX) (w : WT) : TT := fun σ H Q => ∃ (C : DC) (dk : Dk) (F : Hp) (env : En) (P : Bool → En → Prop) (Ex : Exn → En → Prop), C.g = G ∧ Ok C dk σ H F env ∧ w env P Ex ∧
  (∀ b env' H' F', P b env' → Sub F F' → EnLe env env' → Ok C dk σ H' F' env' → Q b H') ∧
  (∀ x env' cls d H' F', Ex x env' → Sub F F' → EnLe env env' → Ok C dk σ H' F' env' → XOk C F' H' x cls d → W cls d σ H')
structure EvT (G : DG) (W : WX) (X : Cx) (e : Expr) (w : WT) : Prop where
  pt : PT X e (LT G W w)
structure EvW (G : DG) (W : WX) (X : Cx) (e : Expr) (w : WT) : Prop where
  pw : PW X e (LT G W w)
theorem PT.imp {X : Cx} {e : Expr} {t u : TT} (h : PT X e t) (i : ∀ σ H Q, u σ H Q → t σ H Q) : PT X e u := ⟨fun pins s σ H Q I q => h.run pins s σ H Q I (i σ H Q q)⟩
theorem PW.imp {X : Cx} {e : Expr} {t u : TT} (h : PW X e t) (i : ∀ σ H Q, u σ H Q → t σ H Q) : PW X e u := ⟨fun wh pins s σ H Q I q => h.run wh pins s σ H Q I (i σ H Q q)⟩
section
variable {G : DG} {W : WX} {X : Cx}
/-- a value that is a bool, as a test -/
def tOf (w : WE) : WT := fun env P Ex => w env (fun r e => match r.toD with
  | some (.bool b) => P b e
  | _ => False) Ex
theorem L.test {w : WE} {σ : L2.St} {H : Hp} {Q : Bool → Hp → Prop} (h : LT G W (tOf w) σ H Q) : L G W w σ H fun x H1 => ∃ k, x = .bl k ∧ Q k H1 := by
  obtain ⟨C, dk, F, env, P, Ex, rfl, o, h1, f1, f2⟩ := h
  refine ⟨C, dk, F, env, _, Ex, rfl, o, h1, fun r e v H' F' p s l o' k => ?_, f2⟩
  cases q : r.toD with
  | none => rw [q] at p; exact p.elim
  | some x =>
    rw [q] at p
    cases x <;> first | exact p.elim | skip
    rename_i b
    exact ⟨b, k.bool o' q, f1 b e H' F' p s l o'⟩
variable {a b : Expr} {wa wb : WE} {pos : Pos} {ta tb : WT}
theorem evt_val {e : Expr} {w : WE} (h : Ev G W X e w) (he : ∀ whole, isTrue e X.env whole = (do let v ← whole; standAt e.pos; holding [v] (truthy v)) := by intro _; rfl) : EvT G W X e (tOf w) :=
  ⟨PT.imp (pt_val h.pe he) fun σ H Q q => L.test q⟩
theorem evt_cm {op : CmpOp} {o2 : Op2} (hc : CmpOk G X op o2) (ha : Ev G W X a wa) (hb : Ev G W X b wb) (hm : behindInMarks op b = false := by first | exact nomark _ | rfl) : EvT G W X (.Compare a [op] [b] pos) (tOf (wOp o2 wa wb)) := by
  obtain ⟨rr, h1, h2⟩ := hc.ex
  refine ⟨PT.imp (pt_cmpR h1 ha.pe hb.pe hm) fun σ H Q q => ?_⟩
  obtain ⟨C, dk, F, env, P, Ex, hC, o, hw, fin⟩ := L.fin (L.test q)
  subst hC
  exact L.two h2 o hw fin
def tNotW (t : WT) : WT := fun env P Ex => t env (fun b e => P (!b) e) Ex
theorem evt_not (ha : EvT G W X a ta) : EvT G W X (.UnaryOp .Not a pos) (tNotW ta) :=
  ⟨PT.imp (pt_not ha.pt) fun σ H Q q => by
    obtain ⟨C, dk, F, env, P, Ex, rfl, o, h1, f1, f2⟩ := q
    exact ⟨C, dk, F, env, _, Ex, rfl, o, h1, fun b e H' F' p s l o' => f1 _ e H' F' p s l o', f2⟩⟩
def tAndW (t u : WT) : WT := fun env P Ex => t env (fun b e => if b = true then u e P Ex else P false e) Ex
def tOrW (t u : WT) : WT := fun env P Ex => t env (fun b e => if b = true then P true e else u e P Ex) Ex
theorem L.and {t u : WT} {σ : L2.St} {H : Hp} {Q : Bool → Hp → Prop} (q : LT G W (tAndW t u) σ H Q) : tAnd (LT G W t) (LT G W u) σ H Q := by
  obtain ⟨C, dk, F, env, P, Ex, rfl, o, h1, f1, f2⟩ := q
  refine ⟨C, dk, F, env, _, Ex, rfl, o, h1, fun b e H' F' p s l o' => ?_, f2⟩
  cases b with
  | true => exact ⟨C, dk, F', e, P, Ex, rfl, o', p, fun b2 e2 H2 F2 p2 s2 l2 o2 => f1 _ _ _ _ p2 (s.trans s2) (l.trans l2) o2, fun x e2 c d H2 F2 p2 s2 l2 o2 k => f2 x e2 c d H2 F2 p2 (s.trans s2) (l.trans l2) o2 k⟩
  | false => exact f1 _ _ _ _ p s l o'
theorem L.or {t u : WT} {σ : L2.St} {H : Hp} {Q : Bool → Hp → Prop} (q : LT G W (tOrW t u) σ H Q) : L2.tOr (LT G W t) (LT G W u) σ H Q := by
  obtain ⟨C, dk, F, env, P, Ex, rfl, o, h1, f1, f2⟩ := q
  refine ⟨C, dk, F, env, _, Ex, rfl, o, h1, fun b e H' F' p s l o' => ?_, f2⟩
  cases b with
  | false => exact ⟨C, dk, F', e, P, Ex, rfl, o', p, fun b2 e2 H2 F2 p2 s2 l2 o2 => f1 _ _ _ _ p2 (s.trans s2) (l.trans l2) o2, fun x e2 c d H2 F2 p2 s2 l2 o2 k => f2 x e2 c d H2 F2 p2 (s.trans s2) (l.trans l2) o2 k⟩
  | true => exact f1 _ _ _ _ p s l o'
theorem evw_and1 (ha : EvT G W X a ta) : EvW G W X (.BoolOp .And [a] pos) ta := ⟨pw_and1 ha.pt⟩
theorem evw_or1 (ha : EvT G W X a ta) : EvW G W X (.BoolOp .Or [a] pos) ta := ⟨pw_or1 ha.pt⟩
theorem evw_and {rest : List Expr} (ha : EvT G W X a ta) (hb : EvW G W X (.BoolOp .And (b :: rest) pos) tb) : EvW G W X (.BoolOp .And (a :: b :: rest) pos) (tAndW ta tb) := ⟨PW.imp (pw_and ha.pt hb.pw) fun _ _ _ q => L.and q⟩
theorem evw_or {rest : List Expr} (ha : EvT G W X a ta) (hb : EvW G W X (.BoolOp .Or (b :: rest) pos) tb) : EvW G W X (.BoolOp .Or (a :: b :: rest) pos) (tOrW ta tb) := ⟨PW.imp (pw_or ha.pt hb.pw) fun _ _ _ q => L.or q⟩
theorem evt_w {e : Expr} {t : WT} (h : EvW G W X e t) : EvT G W X e t := ⟨h.pw.pt⟩
/-! and, or, not as values -/
def wAnd (wa wb : WE) : WE := fun env P Ex => wa env (fun r e => match r.toD with
  | some (.bool b) => if b = true then wb e P Ex else P (.d (.bool false)) e
  | _ => False) Ex
def wOr (wa wb : WE) : WE := fun env P Ex => wa env (fun r e => match r.toD with
  | some (.bool b) => if b = true then P (.d (.bool true)) e else wb e P Ex
  | _ => False) Ex
theorem ev_one {op : BoolOp} (ha : Ev G W X a wa) : Ev G W X (.BoolOp op [a] pos) wa := ⟨pe_one ha.pe⟩
theorem ev_and {rest : List Expr} (ha : Ev G W X a wa) (hb : Ev G W X (.BoolOp .And (b :: rest) pos) wb) : Ev G W X (.BoolOp .And (a :: b :: rest) pos) (wAnd wa wb) := by
  refine Ev.of (pe_and ha.pe hb.pe) fun C hC dk σ H F env P Ex Q o h f => ?_
  subst hC
  refine L.step (g := fun r e P Ex => match r.toD with
    | some (.bool b) => if b = true then wb e P Ex else P (.d (.bool false)) e
    | _ => False) o h f fun r v H1 F1 env1 o1 k1 s1 l1 h1 f1 => ?_
  cases q : r.toD with
  | none => rw [q] at h1; exact h1.elim
  | some x =>
    rw [q] at h1
    cases x <;> first | exact h1.elim | skip
    rename_i b
    refine ⟨b, k1.bool o1 q, ?_⟩
    cases b with
    | true => exact L.mk o1 h1 f1
    | false => exact f1.1 _ _ _ _ _ h1 (Sub.refl _) (EnLe.refl _) o1 (Dq.bl _)
theorem ev_or {rest : List Expr} (ha : Ev G W X a wa) (hb : Ev G W X (.BoolOp .Or (b :: rest) pos) wb) : Ev G W X (.BoolOp .Or (a :: b :: rest) pos) (wOr wa wb) := by
  refine Ev.of (pe_or ha.pe hb.pe) fun C hC dk σ H F env P Ex Q o h f => ?_
  subst hC
  refine L.step (g := fun r e P Ex => match r.toD with
    | some (.bool b) => if b = true then P (.d (.bool true)) e else wb e P Ex
    | _ => False) o h f fun r v H1 F1 env1 o1 k1 s1 l1 h1 f1 => ?_
  cases q : r.toD with
  | none => rw [q] at h1; exact h1.elim
  | some x =>
    rw [q] at h1
    cases x <;> first | exact h1.elim | skip
    rename_i b
    refine ⟨b, k1.bool o1 q, ?_⟩
    cases b with
    | false => exact L.mk o1 h1 f1
    | true => exact f1.1 _ _ _ _ _ h1 (Sub.refl _) (EnLe.refl _) o1 (Dq.bl _)
def dNot : Op1 := fun x P => match x with
  | .bool b => P (.d (.bool (!b)))
  | _ => False
theorem ev_not (ha : Ev G W X a wa) : Ev G W X (.UnaryOp .Not a pos) (wOp1 dNot wa) := by
  refine Ev.of (pe_not ha.pe) fun C hC dk σ H F env P Ex Q o h f => ?_
  subst hC
  refine L.step (g := fun r e P Ex => match r.toD with
    | some x => dNot x fun t => P t e
    | _ => False) o h f fun r v H1 F1 env1 o1 k1 s1 l1 h1 f1 => ?_
  cases q : r.toD with
  | none => rw [q] at h1; exact h1.elim
  | some x =>
    rw [q] at h1
    cases x <;> first | exact h1.elim | skip
    exact ⟨_, k1.bool o1 q, f1.1 _ _ _ _ _ h1 (Sub.refl _) (EnLe.refl _) o1 (Dq.bl _)⟩
/-- a if c else b -/
def wIf (c : WT) (wa wb : WE) : WE := fun env P Ex => c env (fun k e => if k = true then wa e P Ex else wb e P Ex) Ex
theorem ev_if {c : Expr} {tc : WT} (hc : EvT G W X c tc) (ha : Ev G W X a wa) (hb : Ev G W X b wb) : Ev G W X (.IfExp c a b pos) (wIf tc wa wb) := by
  refine Ev.of (pe_ifExp hc.pt ha.pe hb.pe) fun C hC dk σ H F env P Ex Q o h f => ?_
  subst hC
  refine ⟨C, dk, F, env, _, Ex, rfl, o, h, fun b e H' F' p s l o' => ?_, fun x e c d H' F' p s l o' k => f.2 x e c d H' F' p s l o' k trivial⟩
  cases b with
  | true => exact L.mk o' p (f.le s l)
  | false => exact L.mk o' p (f.le s l)
/-! ### statements -/
structure Pd where
  nx : En → Prop
  rt : R → Prop
  bk : En → Prop
  ct : En → Prop
  ex : Exn → En → Prop
abbrev WS := En → Pd → Prop
def RetR (C : DC) (dk : Dk) (H F : Hp) : R → V → Prop
  | .d x, v => Dq C.g.K F v x
  | .nw c, v => ∃ p, v = .ref p ∧ Priv C dk H F p c
  | .bw _ _, _ => False
  | .deck, v => ∃ da dl, dk = some (da, dl) ∧ v = .ref da
  | .opq y, v => v = y
structure FinS (C : DC) (W : WX) (P : Pd) (D : Ends) : Prop where
  nx : ∀ env σ H F dk, P.nx env → Ok C dk σ H F env → D.nx σ H
  bk : ∀ env σ H F dk, P.bk env → Ok C dk σ H F env → D.bk σ H
  ct : ∀ env σ H F dk, P.ct env → Ok C dk σ H F env → D.ct σ H
  rt : ∀ r v env σ H F dk, P.rt r → Ok C dk σ H F env → RetR C dk H F r v → D.rt v H
  ex : ∀ x env cls d σ H F dk, P.ex x env → Ok C dk σ H F env → XOk C F H x cls d → W cls d σ H

def LS (G : DG) (W : WX) (w : WS) : TS := fun D σ H => ∃ (C : DC) (dk : Dk) (F : Hp) (env : En) (P : Pd), C.g = G ∧ Ok C dk σ H F env ∧ w env P ∧ FinS C W P D
structure EvS (G : DG) (W : WX) (X : Cx) (s : Stmt) (w : WS) : Prop where
  ps : PS X s (LS G W w)
structure EvB (G : DG) (W : WX) (X : Cx) (s : List Stmt) (w : WS) : Prop where
  ps : PSs X s (LS G W w)
theorem PS.imp {X : Cx} {e : Stmt} {t u : TS} (h : PS X e t) (i : ∀ D σ H, u D σ H → t D σ H) : PS X e u := ⟨fun pins s σ H D I q => h.run pins s σ H D I (i D σ H q)⟩
theorem PSs.imp {X : Cx} {e : List Stmt} {t u : TS} (h : PSs X e t) (i : ∀ D σ H, u D σ H → t D σ H) : PSs X e u := ⟨fun pins s σ H D I q => h.run pins s σ H D I (i D σ H q)⟩
def wNext : WS := fun env P => P.nx env
def wSeq (a b : WS) : WS := fun env P => a env { P with nx := fun e => b e P }
theorem evb_nil : EvB G W X [] wNext := ⟨PSs.imp pss_nil fun D σ H q => by
  obtain ⟨C, dk, F, env, P, rfl, o, h, f⟩ := q
  exact f.nx _ _ _ _ _ h o⟩
theorem evb_cons {s : Stmt} {ss : List Stmt} {ws wr : WS} (h : EvS G W X s ws) (hr : EvB G W X ss wr) : EvB G W X (s :: ss) (wSeq ws wr) := ⟨PSs.imp (pss_cons h.ps hr.ps) fun D σ H q => by
  obtain ⟨C, dk, F, env, P, rfl, o, h, f⟩ := q
  exact ⟨C, dk, F, env, { P with nx := fun e => wr e P }, rfl, o, h, ⟨fun env' σ' H' F' dk' p o' => ⟨C, dk', F', env', P, rfl, o', p, f⟩, f.bk, f.ct, f.rt, f.ex⟩⟩⟩
theorem evb_one {s : Stmt} {ws : WS} (h : EvS G W X s ws) : EvB G W X [s] ws := ⟨PSs.imp (pss_one h.ps) fun _ _ _ q => q⟩
/-- .. never reached -/
def wNever : WS := fun _ _ => False
theorem evs_never {s : Stmt} : EvS G W X s wNever := ⟨PS.imp ps_never fun _ _ _ ⟨_, _, _, _, _, _, _, h, _⟩ => h⟩
theorem evs_pass : EvS G W X (.Pass pos) wNext := ⟨PS.imp ps_pass fun D σ H q => by
  obtain ⟨C, dk, F, env, P, rfl, o, h, f⟩ := q
  exact f.nx _ _ _ _ _ h o⟩
def wBreak : WS := fun env P => P.bk env
def wCont : WS := fun env P => P.ct env
theorem evs_break : EvS G W X (.Break pos) wBreak := ⟨PS.imp ps_break fun D σ H q => by
  obtain ⟨C, dk, F, env, P, rfl, o, h, f⟩ := q
  exact f.bk _ _ _ _ _ h o⟩
theorem evs_cont : EvS G W X (.Continue pos) wCont := ⟨PS.imp ps_continue fun D σ H q => by
  obtain ⟨C, dk, F, env, P, rfl, o, h, f⟩ := q
  exact f.ct _ _ _ _ _ h o⟩
def retR (r : R) (env : En) : R := match r with
  | .bw i c => (match env[i]? with
    | some (.own c') => .nw c'
    | some (.d x) => .d x
    | _ => .bw i c)
  | r => r
theorem ROk.ret {C : DC} {dk : Dk} {σ : L2.St} {H F : Hp} {env : En} {r : R} {v : V} (o : Ok C dk σ H F env) (k : ROk C dk σ H F env r v) : RetR C dk H F (retR r env) v := by
  cases r with
  | d x => exact k
  | nw c => obtain ⟨p, e, k, _⟩ := k; exact ⟨p, e, k⟩
  | bw i c =>
    have er : retR (.bw i c) env = (match env[i]? with
      | some (.own c') => .nw c'
      | some (.d x) => .d x
      | _ => .bw i c) := rfl
    rw [er]
    rcases k.1 with h | ⟨x, e, h⟩
    · rw [h]
      obtain ⟨p, q, k2⟩ := o.slot _ _ h
      rw [k.2] at q; cases q
      exact ⟨p, rfl, k2⟩
    · rw [h]
      obtain ⟨w, q, k2⟩ := o.slot _ _ h
      rw [k.2] at q; cases q
      exact k2
  | deck => exact k
  | opq y => exact k
/-- an expression, then what follows -/
theorem L.stmt {C : DC} {w : WE} {g : R → En → Pd → Prop} {dk : Dk} {σ : L2.St} {H F : Hp} {env : En} {P : Pd} {D : Ends} {Q : VK} (o : Ok C dk σ H F env) (h : w env (fun r e => g r e P) P.ex) (f : FinS C W P D)
    (k : ∀ r v H1 F1 env1, Ok C dk σ H1 F1 env1 → ROk C dk σ H1 F1 env1 r v → g r env1 P → Q v H1) : L C.g W w σ H Q :=
  ⟨C, dk, F, env, _, P.ex, rfl, o, h, fun r e v H' F' p _ _ o' q => k r v H' F' e o' q p, fun x e c d H' F' p _ _ o' q => f.ex x e c d σ H' F' dk p o' q⟩
def wRet (w : WE) : WS := fun env P => w env (fun r e => P.rt (retR r e)) P.ex
theorem evs_ret {e : Expr} {w : WE} (h : Ev G W X e w) : EvS G W X (.Return (some e) pos) (wRet w) := ⟨PS.imp (ps_ret h.pe) fun D σ H q => by
  obtain ⟨C, dk, F, env, P, rfl, o, hw, f⟩ := q
  exact L.stmt (g := fun r e P => P.rt (retR r e)) o hw f fun r v H1 F1 env1 o1 k1 p => f.rt _ _ _ _ _ _ _ p o1 (k1.ret o1)⟩
def wRetN : WS := fun _ P => P.rt (.d .none)
theorem evs_retN : EvS G W X (.Return none pos) wRetN := ⟨PS.imp ps_retN fun D σ H q => by
  obtain ⟨C, dk, F, env, P, rfl, o, hw, f⟩ := q
  exact f.rt _ _ _ _ _ _ _ hw o Dq.non⟩
def wDrop (w : WE) : WS := fun env P => w env (fun _ e => P.nx e) P.ex
theorem evs_expr {e : Expr} {w : WE} (h : Ev G W X e w) (hs : swapsWith e none pos.line X.env = pure false := by rfl) : EvS G W X (.Expr e pos) (wDrop w) := ⟨PS.imp (ps_expr h.pe hs) fun D σ H q => by
  obtain ⟨C, dk, F, env, P, rfl, o, hw, f⟩ := q
  exact L.stmt (g := fun _ e P => P.nx e) o hw f fun r v H1 F1 env1 o1 k1 p => f.nx _ _ _ _ _ p o1⟩
def wIfS (c : WT) (a b : WS) : WS := fun env P => c env (fun k e => if k = true then a e P else b e P) P.ex
theorem evs_if {c : Expr} {aa bb : List Stmt} {tc : WT} {wa wb : WS} (hc : EvT G W X c tc) (ha : EvB G W X aa wa) (hb : EvB G W X bb wb) : EvS G W X (.If c aa bb pos) (wIfS tc wa wb) := ⟨PS.imp (ps_if hc.pt ha.ps hb.ps) fun D σ H q => by
  obtain ⟨C, dk, F, env, P, rfl, o, hw, f⟩ := q
  refine ⟨C, dk, F, env, _, P.ex, rfl, o, hw, fun b e H' F' p s l o' => ?_, fun x e c d H' F' p _ _ o' q => f.ex x e c d σ H' F' dk p o' q⟩
  cases b with
  | true => exact ⟨C, dk, F', e, P, rfl, o', p, f⟩
  | false => exact ⟨C, dk, F', e, P, rfl, o', p, f⟩⟩
/-! stores -/
def stR (r : R) (e : En) : En × Sl := match r with
  | .d x => (e, .d x)
  | .nw c => (e, .own c)
  | .bw j c => (frz e j, match c.toD with
    | some x => .d x
    | none => .no)
  | .deck => (e, .deck)
  | .opq v => (e, .opq v)
def stE (i : Nat) (r : R) (e : En) : En := (stR r e).1.set i (stR r e).2
theorem gt_set {σ : L2.St} {i j : Nat} {v : V} : gt (σ.set i (some v)) j = if i = j ∧ i < σ.length then some v else gt σ j := by
  unfold gt
  rw [List.getElem?_set]
  by_cases h : i = j
  · subst h
    by_cases hl : i < σ.length
    · rw [if_pos rfl, if_pos hl, if_pos ⟨rfl, hl⟩]; rfl
    · rw [if_pos rfl, if_neg hl, if_neg (fun z => hl z.2)]
      rw [List.getElem?_eq_none (by omega)]
  · rw [if_neg h, if_neg (fun z => h z.1)]
theorem Ok.store {C : DC} {dk : Dk} {σ : L2.St} {H F : Hp} {env : En} {i : Nat} {s : Sl} {v : V} (o : Ok C dk σ H F env) (k : SlOk C dk H F s (some v)) (no : ∀ c, s = .own c → ∀ (j : Nat) c', env[j]? = some (.own c') → gt σ j ≠ some v) :
    Ok C dk (σ.set i (some v)) H F (env.set i s) where
  sub := o.sub
  len := by rw [List.length_set, List.length_set]; exact o.len
  slot := fun j s' e => by
    rw [gt_set]
    rw [List.getElem?_set] at e
    by_cases h : i = j
    · subst h
      rw [if_pos rfl] at e
      by_cases hl : i < env.length
      · rw [if_pos hl] at e; cases e
        rw [if_pos ⟨rfl, by rw [o.len]; exact hl⟩]; exact k
      · rw [if_neg hl] at e; cases e
    · rw [if_neg h] at e
      rw [if_neg (fun z => h z.1)]; exact o.slot j s' e
  sep := fun a b c c' p e1 e2 e3 e4 => by
    rw [gt_set] at e3 e4
    rw [List.getElem?_set] at e1 e2
    by_cases ha : i = a
    · by_cases hb : i = b
      · exact ha.symm.trans hb
      · rw [if_pos ha] at e1
        rw [if_neg hb] at e2
        rw [if_neg (fun z => hb z.1)] at e4
        by_cases hl : i < env.length
        · rw [if_pos hl] at e1; cases e1
          rw [if_pos ⟨ha, by rw [o.len]; exact hl⟩] at e3
          cases e3
          exact absurd e4 (no c rfl b c' e2)
        · rw [if_neg hl] at e1; cases e1
    · rw [if_neg ha] at e1
      rw [if_neg (fun z => ha z.1)] at e3
      by_cases hb : i = b
      · rw [if_pos hb] at e2
        by_cases hl : i < env.length
        · rw [if_pos hl] at e2; cases e2
          rw [if_pos ⟨hb, by rw [o.len]; exact hl⟩] at e4
          cases e4
          exact absurd e3 (no c' rfl a c e1)
        · rw [if_neg hl] at e2; cases e2
      · rw [if_neg hb] at e2
        rw [if_neg (fun z => hb z.1)] at e4
        exact o.sep a b c c' p e1 e2 e3 e4
  deck := o.deck
  base := o.base
  fnew := o.fnew
  f0 := o.f0
  dkr := o.dkr
theorem ROk.store {C : DC} {dk : Dk} {σ : L2.St} {H F : Hp} {env : En} {r : R} {v : V} (i : Nat) (o : Ok C dk σ H F env) (k : ROk C dk σ H F env r v) : ∃ F', Ok C dk (σ.set i (some v)) H F' (stE i r env) := by
  cases r with
  | d x => exact ⟨F, o.store (s := .d x) ⟨v, rfl, k⟩ fun c e => by cases e⟩
  | nw c =>
    obtain ⟨p, rfl, k1, k2⟩ := k
    exact ⟨F, o.store (s := .own c) ⟨p, rfl, k1⟩ fun _ _ => k2⟩
  | bw j c =>
    cases e : c.toD with
    | none => cases c; cases e
    | some x =>
      obtain ⟨F', s, o', l, k'⟩ := ROk.held o k (x := x) e
      refine ⟨F', ?_⟩
      have : stE i (.bw j c) env = (frz env j).set i (.d x) := by
        have e2 : stE i (.bw j c) env = (frz env j).set i (match c.toD with
          | some x => Sl.d x
          | none => Sl.no) := rfl
        have e3 : c.toD = some x := e
        rw [e2, e3]
      rw [this]
      exact o'.store (s := .d x) ⟨v, rfl, k'⟩ fun c e => by cases e
  | deck => obtain ⟨da, dl, e1, rfl⟩ := k; exact ⟨F, o.store (s := .deck) ⟨da, dl, e1, rfl⟩ fun c e => by cases e⟩
  | opq y => obtain rfl : v = y := k; exact ⟨F, o.store (s := .opq v) rfl fun c e => by cases e⟩
def wSet (i : Nat) (w : WE) : WS := fun env P => w env (fun r e => P.nx (stE i r e)) P.ex
theorem evs_set {i : Nat} {x : Str} {e : Expr} {w : WE} {pos' : Pos} (hN : X.N.Nodup) (h : Ev G W X e w) (hi : X.N[i]? = some x := by rfl) (hx : Loc X.env.scope x := by first | exact Or.inl rfl | exact Or.inr rfl) (hs : swapsWith e (some (.Name x pos')) pos.line X.env = pure false := by rfl)
    (hf : X.fn x = true ∨ X.env.scope.names.lookup x = some .local := by first | exact .inl rfl | exact .inr rfl | assumption) : EvS G W X (.Assign [.Name x pos'] e pos) (wSet i w) := ⟨PS.imp (ps_set hN hi hx h.pe hs hf) fun D σ H q => by
  obtain ⟨C, dk, F, env, P, rfl, o, hw, f⟩ := q
  refine L.stmt (g := fun r e P => P.nx (stE i r e)) o hw f fun r v H1 F1 env1 o1 k1 p => ?_
  obtain ⟨F2, o2⟩ := k1.store i o1
  exact f.nx _ _ _ _ _ p o2⟩
/-- a, b = x, y with plain local names -/
def wPar (i j : Nat) (wa wb : WE) : WS := fun env P => wA [wa, wb] env (fun rs e => match toDs rs with
  | some [x, y] => P.nx (((holdAll rs e).set i (.d x)).set j (.d y))
  | _ => False) P.ex
theorem evs_par {i j : Nat} {x y : Str} {a b : Expr} {wa wb : WE} {px py pt : Pos} {kt k2 pt2} (hN : X.N.Nodup) (h : EvA G W X [a, b] [wa, wb]) (hc : X.calm = true := by rfl) (hi : X.N[i]? = some x := by rfl) (hj : X.N[j]? = some y := by rfl) (hij : i ≠ j := by decide)
    (hx : X.env.scope.names.lookup x = some .local := by rfl) (hy : X.env.scope.names.lookup y = some .local := by rfl)
    (hw : swappedStores [.Tuple [.Name x px, .Name y py] kt pt] (.Tuple [a, b] k2 pt2) X.env = pure (some [x, y]) := by rfl)
    (hs : swapsWithSole [.Tuple [.Name x px, .Name y py] kt pt] (.Tuple [a, b] k2 pt2) pos.line X.env = pure false := by rfl) :
    EvS G W X (.Assign [.Tuple [.Name x px, .Name y py] kt pt] (.Tuple [a, b] k2 pt2) pos) (wPar i j wa wb) := ⟨PS.imp (ps_par hc hN hi hj hij hx hy h.pa hw hs) fun D σ H q => by
  obtain ⟨C, dk, F, env, P, rfl, o, hw, f⟩ := q
  refine ⟨C, dk, F, env, _, P.ex, rfl, o, hw, fun rs e vs H' F' p n s l o' k => ?_, fun x e c d H' F' p _ _ o' q => f.ex x e c d σ H' F' dk p o' q⟩
  cases z : toDs rs with
  | none => rw [z] at p; exact p.elim
  | some xs =>
    rw [z] at p
    match xs, p with
    | [x, y], p =>
      obtain ⟨F2, s2, o2, l2, k2⟩ := k.held o' z
      cases k2 with
      | cons q1 q2 =>
        rename_i v1 v2
        cases q2 with
        | cons q2 q3 =>
          rename_i u1 u2
          cases q3
          have o3 := o2.store (i := i) (s := .d x) ⟨_, rfl, q1⟩ fun c e => by cases e
          have o4 := o3.store (i := j) (s := .d y) ⟨_, rfl, q2⟩ fun c e => by cases e
          exact ⟨v1, u1, rfl, f.nx _ _ _ _ _ p o4⟩⟩
/-! targets by data -/
abbrev WG := PyData → En → (En → Prop) → Prop
/-- only these slots are stored -/
def Chg {α : Type} (sl : List Nat) (σ σ' : List α) : Prop := σ'.length = σ.length ∧ ∀ j, j ∉ sl → σ'[j]? = σ[j]?
theorem Chg.refl {α : Type} {sl : List Nat} {σ : List α} : Chg sl σ σ := ⟨rfl, fun _ _ => rfl⟩
theorem Chg.app {α : Type} {s1 s2 : List Nat} {a b c : List α} (h : Chg s1 a b) (h' : Chg s2 b c) : Chg (s1 ++ s2) a c :=
  ⟨h'.1.trans h.1, fun j n => (h'.2 j fun z => n (List.mem_append_right _ z)).trans (h.2 j fun z => n (List.mem_append_left _ z))⟩
def LG (G : DG) (sl : List Nat) (t : WG) : TG := fun v σ H Q => ∃ (C : DC) (dk : Dk) (F : Hp) (env : En) (x : PyData) (K : En → Prop), C.g = G ∧ Ok C dk σ H F env ∧ Dq C.g.K F v x ∧ t x env K ∧ ∀ env' σ', K env' → Chg sl σ σ' → Chg sl env env' → Ok C dk σ' H F env' → Q σ' H
def LGs (G : DG) (sl : List Nat) (t : List PyData → En → (En → Prop) → Prop) : TGs := fun vs σ H Q => ∃ (C : DC) (dk : Dk) (F : Hp) (env : En) (xs : List PyData) (K : En → Prop), C.g = G ∧ Ok C dk σ H F env ∧ DqAll C.g.K F vs xs ∧ t xs env K ∧ ∀ env' σ', K env' → Chg sl σ σ' → Chg sl env env' → Ok C dk σ' H F env' → Q σ' H
structure EvG (G : DG) (X : Cx) (e : Expr) (sl : List Nat) (w : WG) : Prop where
  pg : PG X e (LG G sl w)
structure EvGs (G : DG) (X : Cx) (e : List Expr) (sl : List Nat) (w : List PyData → En → (En → Prop) → Prop) : Prop where
  pg : PGs X e (LGs G sl w)
theorem PG.imp {X : Cx} {e : Expr} {t u : TG} (h : PG X e t) (i : ∀ v σ H Q, u v σ H Q → t v σ H Q) : PG X e u := ⟨fun pins s σ H v u Q I r q => h.run pins s σ H v u Q I r (i v σ H Q q)⟩
theorem PGs.imp {X : Cx} {e : List Expr} {t u : TGs} (h : PGs X e t) (i : ∀ v σ H Q, u v σ H Q → t v σ H Q) : PGs X e u := ⟨fun pins s σ H v u Q I r q => h.run pins s σ H v u Q I r (i v σ H Q q)⟩
def gN (i : Nat) : WG := fun x e K => K (e.set i (.d x))
theorem evg_name (i : Nat) {x : Str} (hN : X.N.Nodup) (hi : X.N[i]? = some x := by rfl) (hx : Loc X.env.scope x := by first | exact Or.inl rfl | exact Or.inr rfl) (hf : X.fn x = true ∨ X.env.scope.names.lookup x = some .local := by first | exact .inl rfl | exact .inr rfl | assumption) : EvG G X (.Name x pos) [i] (gN i) :=
  ⟨PG.imp (pg_name hN hi hx hf) fun v σ H Q q => by
    obtain ⟨C, dk, F, env, x, K, rfl, o, k, h, f⟩ := q
    exact f _ _ h ⟨List.length_set .., fun j n => List.getElem?_set_ne (fun z => n (by simp [z]))⟩ ⟨List.length_set .., fun j n => List.getElem?_set_ne (fun z => n (by simp [z]))⟩ (o.store (s := .d x) ⟨v, rfl, k⟩ fun c e => by cases e)⟩
def gNilW : List PyData → En → (En → Prop) → Prop := fun xs e K => match xs with
  | [] => K e
  | _ => False
def gConsW (t : WG) (u : List PyData → En → (En → Prop) → Prop) : List PyData → En → (En → Prop) → Prop := fun xs e K => match xs with
  | x :: xs => t x e fun e' => u xs e' K
  | _ => False
theorem evgs_nil : EvGs G X [] [] gNilW := ⟨PGs.imp pgs_nil fun v σ H Q q => by
  obtain ⟨C, dk, F, env, xs, K, rfl, o, k, h, f⟩ := q
  cases k with
  | nil => exact ⟨rfl, f _ _ h Chg.refl Chg.refl o⟩
  | cons a b => exact h.elim⟩
theorem evgs_cons {e : Expr} {es : List Expr} {s1 s2 : List Nat} {t : WG} {u : List PyData → En → (En → Prop) → Prop} (h1 : EvG G X e s1 t) (h2 : EvGs G X es s2 u) (hs : (assignEach (e :: es) X.env).map (·.2) = assign e X.env :: (assignEach es X.env).map (·.2) := by rfl) : EvGs G X (e :: es) (s1 ++ s2) (gConsW t u) := ⟨PGs.imp (pgs_cons h1.pg h2.pg hs) fun v σ H Q q => by
  obtain ⟨C, dk, F, env, xs, K, rfl, o, k, h, f⟩ := q
  cases k with
  | nil => exact h.elim
  | cons a b => exact ⟨_, _, rfl, C, dk, F, env, _, _, rfl, o, a, h, fun env' σ' p c ce o' => ⟨C, dk, F, env', _, K, rfl, o', b, p, fun env'' σ'' p' c' ce' o'' => f _ _ p' (c.app c') (ce.app ce') o''⟩⟩⟩
def gTupW (n : Nat) (u : List PyData → En → (En → Prop) → Prop) : WG := fun x e K => match x with
  | .tuple xs => xs.length = n ∧ u xs e K
  | _ => False
theorem evg_tup {es : List Expr} {kk : Nat} {sl : List Nat} {u : List PyData → En → (En → Prop) → Prop} {n : Nat} (hK : X.K = G.K) (h : EvGs G X es sl u) (hc : X.calm = true := by rfl) (hn : (assignEach es X.env).length = n := by rfl) (hst : (assignEach es X.env).findIdx? (·.1) = none := by rfl) : EvG G X (.Tuple es kk pos) sl (gTupW n u) :=
  ⟨PG.imp (pg_tup hc h.pg hn hst) fun v σ H Q q => by
    obtain ⟨C, dk, F, env, x, K, rfl, o, k, h, f⟩ := q
    cases k <;> first | exact False.elim h | skip
    rename_i a vs ds k1 k2
    rw [hK]
    exact ⟨a, vs, rfl, o.sub.seqT k1, by rw [k2.length]; exact h.1, C, dk, F, env, ds, K, rfl, o, k2, h.2, f⟩⟩
def wAsg (w : WE) (t : WG) : WS := fun env P => w env (fun r e => match r.toD with
  | some x => t x (r.hold e) P.nx
  | none => False) P.ex
theorem evs_asg {tg e : Expr} {w : WE} {sl : List Nat} {t : WG} (h : Ev G W X e w) (hg : EvG G X tg sl t) (hs : swapsWithSole [tg] e pos.line X.env = pure false := by rfl) (hw : swappedStores [tg] e X.env = pure none := by rfl)
    (h1 : (assignEach [tg] X.env).map (·.2) = [assign tg X.env] := by rfl) : EvS G W X (.Assign [tg] e pos) (wAsg w t) := ⟨PS.imp (ps_asg h.pe hg.pg hs hw h1) fun D σ H q => by
  obtain ⟨C, dk, F, env, P, rfl, o, hw, f⟩ := q
  refine L.stmt (g := fun r e P => match r.toD with
    | some x => t x (r.hold e) P.nx
    | none => False) o hw f fun r v H1 F1 env1 o1 k1 p => ?_
  cases z : r.toD with
  | none => rw [z] at p; exact p.elim
  | some x =>
    rw [z] at p
    obtain ⟨F2, s2, o2, l2, k2⟩ := k1.held o1 z
    exact ⟨C, dk, F2, _, x, P.nx, rfl, o2, k2, p, fun env' σ' p' _ _ o' => f.nx _ _ _ _ _ p' o'⟩⟩
/-! loops -/
def wWhile (c : WT) (b : WS) : WS := fun env P => ∃ Iv : Nat → En → Prop, (∃ m, Iv m env) ∧ ∀ m e, Iv m e → c e (fun k e' => if k = true then b e' { nx := fun e2 => ∃ m', m' < m ∧ Iv m' e2, ct := fun e2 => ∃ m', m' < m ∧ Iv m' e2, bk := P.nx, rt := P.rt, ex := P.ex } else P.nx e') P.ex
theorem evs_while {c : Expr} {body : List Stmt} {tc : WT} {wb : WS} (hp : PassesOwn (model X.prog X.w) X.A X.env X.xe) (hc : EvT G W X c tc) (hb : EvB G W X body wb) : EvS G W X (.While c body [] pos) (wWhile tc wb) := ⟨PS.imp (ps_while hp hc.pt hb.ps) fun D σ H q => by
  obtain ⟨C, dk, F, env, P, rfl, o, ⟨Iv, ⟨m, i0⟩, turn⟩, f⟩ := q
  refine ⟨fun m σ H => ∃ dk F env, Ok C dk σ H F env ∧ Iv m env, ⟨m, dk, F, env, o, i0⟩, ?_⟩
  rintro m σ H ⟨dk, F, env, o, i⟩
  refine ⟨C, dk, F, env, _, P.ex, rfl, o, turn m env i, fun b e H' F' p s l o' => ?_, fun x e c d H' F' p _ _ o' q => f.ex x e c d σ H' F' dk p o' q⟩
  cases b with
  | false => exact f.nx _ _ _ _ _ p o'
  | true =>
    have again : ∀ env2 σ2 H2 F2 dk2, (∃ m', m' < m ∧ Iv m' env2) → Ok C dk2 σ2 H2 F2 env2 → ∃ m', m' < m ∧ ∃ dk F env, Ok C dk σ2 H2 F env ∧ Iv m' env := fun env2 σ2 H2 F2 dk2 ⟨m', h1, h2⟩ o2 => ⟨m', h1, dk2, F2, env2, o2, h2⟩
    exact ⟨fun σ2 H2 => ∃ m', m' < m ∧ ∃ dk F env, Ok C dk σ2 H2 F env ∧ Iv m' env, fun _ _ z => z, C, dk, F', e, _, rfl, o', p, ⟨again, fun _ _ _ _ _ p o => f.nx _ _ _ _ _ p o, again, f.rt, f.ex⟩⟩⟩
/-- what is walked: its items, as data -/
abbrev WI := En → (List PyData → En → Prop) → (Exn → En → Prop) → Prop
def ItOk (K : PySem.W.Frag) (J : It) (xs : List PyData) (F : Hp) : Prop := ∃ (Gd : Hp → Prop) (Y : Nat → Hp → V → Hp → Prop), Walk J xs.length Gd Y ∧ (∀ H, Sub F H → Gd H) ∧
  ∀ i H v H', i < xs.length → Y i H v H' → (H' = H ∧ ∃ d, xs[i]? = some d ∧ Dq K F v d) ∨ ∃ T vs ds, v = .ref T ∧ H T = none ∧ H' = upd H T (.tup vs) ∧ xs[i]? = some (.tuple ds) ∧ DqAll K F vs ds
def LI (G : DG) (W : WX) (w : WI) : TI := fun σ H R => ∃ (C : DC) (dk : Dk) (F : Hp) (env : En) (P : List PyData → En → Prop) (Ex : Exn → En → Prop), C.g = G ∧ Ok C dk σ H F env ∧ w env P Ex ∧
  (∀ xs env' H' F' J, P xs env' → Sub F F' → EnLe env env' → Ok C dk σ H' F' env' → ItOk C.g.K J xs F' → R J H') ∧
  (∀ x env' cls d H' F', Ex x env' → Sub F F' → EnLe env env' → Ok C dk σ H' F' env' → XOk C F' H' x cls d → W cls d σ H')
structure EvI (G : DG) (W : WX) (X : Cx) (tg iter : Expr) (w : WI) : Prop where
  pi : PI X tg iter (LI G W w)
theorem PI.imp {X : Cx} {tg e : Expr} {t u : TI} (h : PI X tg e t) (i : ∀ σ H Q, u σ H Q → t σ H Q) : PI X tg e u := ⟨fun pins s σ H Q I q => h.run pins s σ H Q I (i σ H Q q)⟩
def wFor (t : WG) (b : WS) : List PyData → WS
  | [], env, P => P.nx env
  | x :: xs, env, P => t x env fun e => b e { P with nx := fun e' => wFor t b xs e' P, ct := fun e' => wFor t b xs e' P, bk := P.nx }
def wForI (i : WI) (t : WG) (b : WS) : WS := fun env P => i env (fun xs e => wFor t b xs e P) P.ex
theorem It.step {C : DC} {dk : Dk} {σ : L2.St} {H H' F F1 : Hp} {env : En} {J : It} {xs : List PyData} {i : Nat} {v : V} {Y : Nat → Hp → V → Hp → Prop} (o : Ok C dk σ H F env) (s : Sub F1 F) (hi : i < xs.length) (y : Y i H v H')
    (hy : ∀ i H v H', i < xs.length → Y i H v H' → (H' = H ∧ ∃ d, xs[i]? = some d ∧ Dq C.g.K F1 v d) ∨ ∃ T vs ds, v = .ref T ∧ H T = none ∧ H' = upd H T (.tup vs) ∧ xs[i]? = some (.tuple ds) ∧ DqAll C.g.K F1 vs ds) :
    ∃ d F', xs[i]? = some d ∧ Sub F F' ∧ Ok C dk σ H' F' env ∧ Dq C.g.K F' v d := by
  rcases hy i H v H' hi y with ⟨rfl, d, e, k⟩ | ⟨T, vs, ds, rfl, n, rfl, e, k⟩
  · exact ⟨d, F, e, Sub.refl F, o, k.mono s⟩
  · obtain ⟨F', s', o', k'⟩ := o.newTup n (k.mono s)
    exact ⟨_, F', e, s', o', k'⟩
theorem drop_cons {α : Type} {xs : List α} {i : Nat} {d : α} (e : xs[i]? = some d) : xs.drop i = d :: xs.drop (i + 1) := by
  have h : i < xs.length := (List.getElem?_eq_some_iff.mp e).1
  rw [List.drop_eq_getElem_cons h]
  rw [List.getElem?_eq_getElem h] at e
  cases e; rfl
/-- the same with more data that stand -/
abbrev DC.at (C : DC) (F1 : Hp) : DC := { C with F0 := F1 }
theorem Ok.up {C : DC} {dk dk1 : Dk} {σ σ1 : L2.St} {H H1 F F1 : Hp} {env env1 : En} (o1 : Ok C dk1 σ1 H1 F1 env1) (o : Ok C dk σ H F env) (s : Sub F1 F) : Ok (C.at F1) dk σ H F env :=
  ⟨o.sub, o.len, fun i z e => by
    have q := o.slot i z e
    cases z with
    | own c => obtain ⟨p, e1, k⟩ := q; exact ⟨p, e1, k.nf, k.nb, k.off, k.at_⟩
    | _ => exact q, o.sep, o.deck, o.base, fun a u e f => o.fnew a u e (o1.f0.free0 f), s, o.dkr⟩
theorem Ok.down {C : DC} {dk dk1 : Dk} {σ σ1 : L2.St} {H H1 F F1 : Hp} {env env1 : En} (o1 : Ok C dk1 σ1 H1 F1 env1) (o : Ok (C.at F1) dk σ H F env) : Ok C dk σ H F env :=
  ⟨o.sub, o.len, fun i z e => by
    have q := o.slot i z e
    cases z with
    | own c => obtain ⟨p, e1, k⟩ := q; exact ⟨p, e1, k.nf, k.nb, k.off, k.at_⟩
    | _ => exact q, o.sep, o.deck, o.base, fun a u e f => by
      cases z : F1 a with
      | none => exact o.fnew a u e z
      | some w => exact o1.fnew a w z f, o1.f0.trans o.f0, o.dkr⟩
theorem FinS.up {C : DC} {W : WX} {P : Pd} {D : Ends} {dk1 : Dk} {σ1 : L2.St} {H1 F1 : Hp} {env1 : En} (o1 : Ok C dk1 σ1 H1 F1 env1) (f : FinS C W P D) : FinS (C.at F1) W P D :=
  ⟨fun _ _ _ _ _ p o => f.nx _ _ _ _ _ p (o1.down o), fun _ _ _ _ _ p o => f.bk _ _ _ _ _ p (o1.down o), fun _ _ _ _ _ p o => f.ct _ _ _ _ _ p (o1.down o), fun r v _ _ _ _ _ p o k => f.rt r v _ _ _ _ _ p (o1.down o) (by
    cases r with
    | nw c => obtain ⟨p, e, k⟩ := k; exact ⟨p, e, k.nf, k.nb, k.off, k.at_⟩
    | _ => exact k), fun x _ c d _ _ _ _ p o k => f.ex x _ c d _ _ _ _ p (o1.down o) k⟩
theorem evs_for {tg iter : Expr} {body : List Stmt} {wi : WI} {sl : List Nat} {t : WG} {wb : WS} (hp : PassesOwn (model X.prog X.w) X.A X.env X.xe) (hi : EvI G W X tg iter wi) (hg : EvG G X tg sl t) (hb : EvB G W X body wb) (hc : X.calm = true := by rfl)
    (hs : ∀ x, foldedSetIterable iter X.env x = pure x := by intro _; rfl) : EvS G W X (.For tg iter body [] pos) (wForI wi t wb) := ⟨PS.imp (ps_for hp hc hi.pi hg.pg hb.ps hs) fun D σ H q => by
  obtain ⟨C, dk, F, env, P, rfl, o, hw, f⟩ := q
  refine ⟨C, dk, F, env, _, P.ex, rfl, o, hw, fun xs e H1 F1 J p s l o1 it => ?_, fun x e c d H' F' p _ _ o' q => f.ex x e c d σ H' F' dk p o' q⟩
  obtain ⟨Gd, Y, wk, hG, hY⟩ := it
  have f' := FinS.up o1 f
  refine for_it wk (fun i σ H => ∃ dk F env, Ok (C.at F1) dk σ H F env ∧ wFor t wb (xs.drop i) env P) ⟨dk, F1, e, Ok.up o1 o1 (Sub.refl F1), p⟩ (fun i σ H _ ⟨dk, F, env, o, _⟩ => hG H (o.f0.trans o.sub)) ?_ ?_
  · rintro i v σ2 H2 H3 hlt ⟨dk2, F2, env2, o2, w2⟩ y
    obtain ⟨d, F3, e3, s3, o3, k3⟩ := It.step (C := C.at F1) (J := J) o2 o2.f0 hlt y hY
    rw [drop_cons e3] at w2
    refine ⟨C.at F1, dk2, F3, env2, d, _, rfl, o3, k3, w2, fun env4 σ4 p4 _ _ o4 => ?_⟩
    have again : ∀ env5 σ5 H5 F5 dk5, wFor t wb (xs.drop (i + 1)) env5 P → Ok (C.at F1) dk5 σ5 H5 F5 env5 → ∃ dk F env, Ok (C.at F1) dk σ5 H5 F env ∧ wFor t wb (xs.drop (i + 1)) env P := fun env5 σ5 H5 F5 dk5 p5 o5 => ⟨dk5, F5, env5, o5, p5⟩
    exact ⟨C.at F1, dk2, F3, env4, _, rfl, o4, p4, ⟨again, f'.nx, again, f'.rt, f'.ex⟩⟩
  · rintro σ2 H2 ⟨dk2, F2, env2, o2, w2⟩
    rw [List.drop_length] at w2
    exact f'.nx _ _ _ _ _ w2 o2⟩
end
end Dl

namespace Dl
open PySem PySem.Spec PyProof.Rows L2

/-! ### values that are walked: lists, tuples, texts -/
inductive Sk where
  | l | t | s
def signs (z : Str) : List V := z.cps.toList.map fun c => V.str ⟨#[c]⟩
def SqV (K : PySem.W.Frag) (H : Hp) : Sk → V → List V → Prop
  | .l, .ref a, xs => SqL K H a xs
  | .t, .ref a, xs => SqT K H a xs
  | .s, .str z, xs => xs = signs z
  | _, _, _ => False
def Sit : Sk → Value → Addr → Nat → Heap → Prop
  | .l, .ref a, it, i, h => h.IsListIter it a i
  | .t, .ref a, it, i, h => h.IsTupleIter it a i
  | .s, .str x t, it, i, h => h.IsStrIter it (strIterType x) x t i
  | _, _, _, _, _ => False
def Sob : Sk → Value → Obj
  | .l, v => { cls := .type "list_iterator", data := .fields #[v, .int 0 0] }
  | .t, v => { cls := .type "tuple_iterator", data := .fields #[v, .int 0 0] }
  | .s, .str x t => { cls := .type (strIterType x), data := .fields #[.str x t, .int 0 0] }
  | .s, v => { cls := .type "str_iterator", data := .fields #[v, .int 0 0] }
theorem Sit.live {k : Sk} {u : Value} {it : Addr} {i : Nat} {h : Heap} (x : Sit k u it i h) : ∃ o vs, h.get? it = some o ∧ o.data = .fields vs := by
  cases k <;> cases u <;> first | exact False.elim x | (obtain ⟨o, e, c, d⟩ := x; exact ⟨o, _, e, d⟩)
theorem Sit.at {k : Sk} {u : Value} {it : Addr} {i : Nat} {h h' : Heap} (x : Sit k u it i h) (e : ∀ o, h.get? it = some o → h'.get? it = some o) : Sit k u it i h' := by
  cases k <;> cases u <;> first | exact False.elim x | (obtain ⟨o, q, r⟩ := x; exact ⟨o, e _ q, r⟩)
section
variable {X : Cx} {pins : List (Addr × Obj)} {σ : L2.St} {H : Hp} {s : Shared}
theorem SqV.inj {k : Sk} {v : V} {xs ys : List V} (I : Inv X pins σ H s) (h : SqV X.K H k v xs) (h' : SqV X.K H k v ys) : xs = ys := by
  cases k <;> cases v <;> first | exact False.elim h | skip
  · exact I.list_inj h h'
  · exact I.tuple_inj h h'
  · have e : xs = signs _ := h
    have e' : ys = signs _ := h'
    rw [e, e']
/-- what is not the iterators' own -/
def Old (X : Cx) (H : Hp) (b : Addr) : Prop := H b ≠ none ∨ ∃ o, X.base.get? b = some o
theorem Old.ne {b c : Addr} (I : Inv X pins σ H s) (h : Old X H b) (f : FpOk X pins H c) : c ≠ b := by
  rintro rfl
  rcases h with h | ⟨o, h⟩
  · exact h f.1
  · rcases f.2.2.2.1 with q | q
    · exact I.ok.noex _ _ h q
    · exact absurd (Nat.lt_of_lt_of_le (Heap.lt_size h) (Nat.le_trans I.ok.bsz q)) (Nat.lt_irrefl _)
theorem old_L {K} {a : Addr} {xs : List V} (hK : X.K = K) (I : Inv X pins σ H s) (h : SqL K H a xs) : Old X H a := by
  subst hK
  rcases h with (h | ⟨o, h⟩) | ⟨o, its, n, h, _⟩
  · exact .inl (by rw [h]; simp)
  · exact .inl (by rw [h]; simp)
  · exact .inr ⟨o, I.ok.mod.kin a o h⟩
theorem old_T {K} {a : Addr} {xs : List V} (hK : X.K = K) (I : Inv X pins σ H s) (h : SqT K H a xs) : Old X H a := by
  subst hK
  rcases h with (h | ⟨o, h⟩) | ⟨o, its, n, h, _⟩
  · exact .inl (by rw [h]; simp)
  · exact .inl (by rw [h]; simp)
  · exact .inr ⟨o, I.ok.mod.kin a o h⟩
theorem draws_of {k : Sk} {v : V} {u : Value} {xs : List V} (A : Around) (hh : A.handled = none) (I : Inv X pins σ H s) (r : RelV v u) (q : SqV X.K H k v xs) (it : Addr) (f : FpOk X pins H it) :
    ∃ (fp : List Addr) (Pd : Nat → Value → Prop) (St : Nat → Heap → Prop), Draws X.prog X.w A it fp xs.length Pd St ∧ it ∈ fp ∧ (∀ i, Sit k u it i s.heap → St i s.heap) ∧ (∀ i h, St i h → Sit k u it i h) ∧
      (∀ i y, Pd i y → ∃ x, xs[i]? = some x ∧ RelV x y) ∧ ∀ b ∈ fp, b = it ∨ Old X H b := by
  cases k <;> cases v <;> first | exact False.elim q | skip
  · rename_i a
    cases r
    obtain ⟨its, rv, p, hz⟩ := I.list q
    have hl := rv.length
    have D := Draws.list (prog := X.prog) (w := X.w) hh it a (Ne.symm ((old_L rfl I q).ne I f)) its.toArray
    rw [List.size_toArray, ← hl] at D
    refine ⟨_, _, _, D, by simp, fun i z => ⟨z, p.isList⟩, fun i h z => z.1, fun i y z => ?_, fun b hb => ?_⟩
    · have z' : its[i]? = some y := by simpa using z
      obtain ⟨x, e⟩ : ∃ x, xs[i]? = some x := by
        have : i < its.length := (List.getElem?_eq_some_iff.mp z').1
        exact ⟨xs[i], List.getElem?_eq_getElem (by omega)⟩
      obtain ⟨u', h1, h2⟩ := rv.get e
      rw [z'] at h1; cases h1
      exact ⟨x, e, h2⟩
    · have hb' : b = it ∨ b = a := by simpa using hb
      exact hb'.imp id fun e => by rw [e]; exact old_L rfl I q
  · rename_i a
    cases r
    obtain ⟨its, rv, p, hz⟩ := I.tuple q
    have hl := rv.length
    have D := Draws.tuple (prog := X.prog) (w := X.w) hh it a (Ne.symm ((old_T rfl I q).ne I f)) its.toArray
    rw [List.size_toArray, ← hl] at D
    refine ⟨_, _, _, D, by simp, fun i z => ⟨z, p⟩, fun i h z => z.1, fun i y z => ?_, fun b hb => ?_⟩
    · have z' : its[i]? = some y := by simpa using z
      obtain ⟨x, e⟩ : ∃ x, xs[i]? = some x := by
        have : i < its.length := (List.getElem?_eq_some_iff.mp z').1
        exact ⟨xs[i], List.getElem?_eq_getElem (by omega)⟩
      obtain ⟨u', h1, h2⟩ := rv.get e
      rw [z'] at h1; cases h1
      exact ⟨x, e, h2⟩
    · have hb' : b = it ∨ b = a := by simpa using hb
      exact hb'.imp id fun e => by rw [e]; exact old_T rfl I q
  · rename_i z
    obtain ⟨t, rfl⟩ := r
    have q' : xs = signs z := q
    subst q'
    have D := Draws.text (prog := X.prog) (w := X.w) hh it z t
    have e : z.cps.size = (signs z).length := by unfold signs; simp
    rw [e] at D
    refine ⟨_, _, _, D, by simp, fun i z => z, fun i h z => z, fun i y h => ?_, fun b hb => .inl (by simpa using hb)⟩
    obtain ⟨c, u', h1, rfl⟩ := h
    refine ⟨.str ⟨#[c]⟩, ?_, u', rfl⟩
    unfold signs
    rw [List.getElem?_map]
    have : z.cps.toList[i]? = some c := by simpa using h1
    rw [this]; rfl
/-- an iterator that hands out new tuples: one turn -/
theorem tup_turn {Iw : Addr} {fp wr : List Addr} {n i : Nat} {Pt : Nat → Array Value → Prop} {St : Nat → Heap → Prop} {Mid : Nat → Addr → Heap → Prop} {elts : List Expr} {kk : Nat} {pos : Pos} {vs : List V} {E : Value → Shared → Prop} {ch : List Addr}
    (W : WalksT X.prog X.w X.A Iw fp wr n Pt St Mid) (I : Inv X pins σ H s) (hi : i < n) (st : St i s.heap) (hw : ∀ b ∈ wr, b ∈ ch) (hf : ∀ b ∈ ch, FpOk X pins H b) (hl : vs.length ≤ sizeLine) (hP : ∀ vals, Pt i vals → Vals vs vals.toList)
    {R : V → Hp → Shared → Prop} (hR : ∀ T s2, H T = none → s.heap.objs.size ≤ T → Inv X pins σ (upd H T (.tup vs)) s2 → St (i + 1) s2.heap → R (.ref T) (upd H T (.tup vs)) s2) :
    wpAny (model X.prog X.w) X.A (pyNext (.ref Iw)) (fun r s1 => ∃ u, r = some u ∧ wpAny (model X.prog X.w) X.A (letOwnedTupleGo (.Tuple elts kk pos) (.ref Iw) u) (fun _ s2 => ∃ x H', RelV x u ∧ R x H' s2) E s1) E s := by
  refine W.item i s _ _ hi st fun T vals h' tk hp hT ht hm hk => ⟨_, rfl, W.go elts kk pos i T { s with heap := h', toks := tk } _ _ hm fun h'' st2 hk2 => ?_⟩
  have nT : H T = none := I.hok.fresh hT
  have ap : T ∉ wr := W.apart i T h' hm
  have new : ObjOk X.prog X.w (upd H T (.tup vs)) h'' T (.tup vs) := by
    refine ⟨hl, vals.toList, hP vals hp, ?_⟩
    obtain ⟨o, e, c, m, d⟩ := ht
    exact ⟨o, hk2 T o ap e, c, m, by simpa using d⟩
  have J : Inv X pins σ (upd H T (.tup vs)) { s with heap := h'', toks := tk } :=
    I.turnedNew (ch := ch) (fun b o hb e => hk2 b o (fun q => hb (hw b q)) (hk b o (fun q => hb (hw b q)) e)) hf hT new
  exact ⟨.ref T, _, rfl, hR T _ nT hT J st2⟩
end
/-! enumerate -/
def ItE (K : PySem.W.Frag) (k : Sk) (v : V) : It :=
  ⟨fun i H => ∃ xs x, SqV K H k v xs ∧ xs[i]? = some x, fun i H y H' => ∃ T x, y = .ref T ∧ H T = none ∧ H' = upd H T (.tup [.int (i : Nat), x]) ∧ ∀ xs, SqV K H k v xs → xs[i]? = some x, fun i H => ∃ xs, SqV K H k v xs ∧ xs.length = i⟩
theorem turn_enumV {P : Program} {w : World} {K : PySem.W.Frag} {elts : List Expr} {kk : Nat} {tpos : Pos} (k : Sk) (v : V) (u : Value) (r : RelV v u) (e it : Addr) :
    Turn P w K (.Tuple elts kk tpos) (ItE K k v) [e, it] e (fun i h => (∃ old, IsEnum h e it ((0 : Int) + (i : Int)) old) ∧ Sit k u it i h ∧ e ≠ it) where
  mem := by simp
  obj := fun i h st b hb => by
    obtain ⟨⟨old, he⟩, hs, _⟩ := st
    have e' : b = e ∨ b = it := by simpa using hb
    rcases e' with z | z
    · rw [z]; exact ⟨_, he, fun v q => nomatch q⟩
    · obtain ⟨o, vs, ho, hd⟩ := hs.live
      rw [z]; exact ⟨o, ho, fun v q => by rw [hd] at q; cases q⟩
  keep := fun i h h' st kp => let ⟨⟨old, he⟩, hi, hne⟩ := st; ⟨⟨old, kp e (by simp) _ he⟩, hi.at fun o q => kp it (by simp) o q, hne⟩
  item := by
    intro X hP hw hK hc i pins s σ H E I hf st hg
    subst hP hw hK
    obtain ⟨⟨old, he⟩, hit, hne⟩ := st
    obtain ⟨xs, x, hq, hx⟩ := hg
    have fit := hf it (by simp)
    have fe := hf e (by simp)
    obtain ⟨fp, Pd, St, D, mem, st1, st2, hP, hold⟩ := draws_of X.A.in1 (by exact I.ok.hd hc) I r hq it fit
    have hef : e ∉ fp := fun z => (hold e z).elim hne fun q => q.ne I fe rfl
    have hlt : i < xs.length := (List.getElem?_eq_some_iff.mp hx).1
    refine wpAny_mono (tup_turn (ch := [e, it]) (vs := [.int (i : Nat), x]) (WalksT.enumFrom 0 D e hne hef mem) I hlt ⟨⟨old, he⟩, st1 i hit⟩ (fun b hb => hb) hf (by show 2 ≤ sizeLine; decide) (fun vals ⟨t, y, h1, h2⟩ => ?_)
      (R := fun x' H' s2 => Inv X pins σ H' s2 ∧ (ItE X.K k v).yld i H x' H' ∧ ((∃ old, IsEnum s2.heap e it ((0 : Int) + ((i + 1 : Nat) : Int)) old) ∧ Sit k u it (i + 1) s2.heap ∧ e ≠ it) ∧ ∀ b ∈ [e, it], H' b = none) fun T s2 nT hT J st' => ?_)
      (fun r s1 ⟨u', e1, e2⟩ => ⟨u', e1, wpAny_mono e2 (fun _ s2 ⟨x', H', q1, q2, q3, q4, q5⟩ => ⟨x', H', q2, q1, q3, q4, q5⟩) fun _ _ z => z⟩) fun _ _ z => z
    · obtain ⟨x'', h3, h4⟩ := hP i y h1
      rw [hx] at h3; cases h3
      rw [h2]
      exact .cons ⟨t, by rw [Int.zero_add]⟩ (.cons h4 .nil)
    · refine ⟨J, ⟨T, x, rfl, nT, rfl, fun ys hy => by rw [hy.inj I hq]; exact hx⟩, ⟨st'.1, st2 _ _ st'.2, hne⟩, fun b hb => ?_⟩
      have hb' : b ≠ T := fun z => by
        subst z
        have e' : b = e ∨ b = it := by simpa using hb
        rcases e' with z | z
        · rw [z] at hT; exact absurd (Nat.lt_of_lt_of_le (Heap.lt_size he) hT) (Nat.lt_irrefl _)
        · obtain ⟨o, vs, ho, _⟩ := hit.live
          rw [z] at hT; exact absurd (Nat.lt_of_lt_of_le (Heap.lt_size ho) hT) (Nat.lt_irrefl _)
      rw [upd_ne hb']
      exact (hf b hb).1
  done := by
    intro X hP hw hK hc i pins s σ H E I hf st hg
    subst hP hw hK
    obtain ⟨⟨old, he⟩, hit, hne⟩ := st
    obtain ⟨xs, hq, hx⟩ := hg
    have fit := hf it (by simp)
    have fe := hf e (by simp)
    obtain ⟨fp, Pd, St, D, mem, st1, st2, hP, hold⟩ := draws_of X.A.in1 (by exact I.ok.hd hc) I r hq it fit
    have hef : e ∉ fp := fun z => (hold e z).elim hne fun q => q.ne I fe rfl
    subst hx
    refine (WalksT.enumFrom 0 D e hne hef mem).done s _ _ ⟨⟨old, he⟩, st1 _ hit⟩ fun h' tk hk => ⟨rfl, I.turnedL (ch := [e, it]) (fun b o hb z => hk b o hb z) hf⟩
  self := fun A i s Q E st h => let ⟨⟨_, he⟩, _⟩ := st; wpAny_pyIter_enum he h
/-! zip of two -/
def ItZ (K : PySem.W.Frag) (k k' : Sk) (v v' : V) : It :=
  ⟨fun i H => ∃ xs x ys y, SqV K H k v xs ∧ xs[i]? = some x ∧ SqV K H k' v' ys ∧ ys[i]? = some y,
   fun i H z H' => ∃ T x y, z = .ref T ∧ H T = none ∧ H' = upd H T (.tup [x, y]) ∧ (∀ xs, SqV K H k v xs → xs[i]? = some x) ∧ ∀ ys, SqV K H k' v' ys → ys[i]? = some y,
   fun i H => ∃ xs ys, SqV K H k v xs ∧ SqV K H k' v' ys ∧ min xs.length ys.length = i⟩
structure ZA (z TI TO i1 i2 : Addr) : Prop where
  TIz : TI ≠ z
  TOz : TO ≠ z
  TITO : TI ≠ TO
  TIi1 : TI ≠ i1
  TIi2 : TI ≠ i2
  z1 : z ≠ i1
  z2 : z ≠ i2
  T1 : TO ≠ i1
  T2 : TO ≠ i2
  i12 : i1 ≠ i2
theorem turn_zipV {P : Program} {w : World} {K : PySem.W.Frag} {elts : List Expr} {kk : Nat} {tpos : Pos} (k k' : Sk) (v v' : V) (u u' : Value) (r : RelV v u) (r' : RelV v' u') (z TI TO i1 i2 : Addr) (D : ZA z TI TO i1 i2) :
    Turn P w K (.Tuple elts kk tpos) (ItZ K k k' v v') [z, TI, TO, i1, i2] z (fun i h => IsZip h z TI TO .none ∧ IsTupOf2 h TI (.ref i1) (.ref i2) ∧ (∃ a1 a2, IsTupOf2 h TO a1 a2) ∧ Sit k u i1 i h ∧ Sit k' u' i2 i h) where
  mem := by simp
  obj := fun i h st c hc => by
    obtain ⟨hz, hTI, ⟨x, y, hTO⟩, h1, h2⟩ := st
    have e' : c = z ∨ c = TI ∨ c = TO ∨ c = i1 ∨ c = i2 := by simpa using hc
    rcases e' with q | q | q | q | q
    · rw [q]; exact ⟨_, hz, fun v q => nomatch q⟩
    · rw [q]; exact ⟨_, hTI, fun v q => nomatch q⟩
    · rw [q]; exact ⟨_, hTO, fun v q => nomatch q⟩
    · obtain ⟨o, vs, ho, hd⟩ := h1.live; rw [q]; exact ⟨o, ho, fun v q => by rw [hd] at q; cases q⟩
    · obtain ⟨o, vs, ho, hd⟩ := h2.live; rw [q]; exact ⟨o, ho, fun v q => by rw [hd] at q; cases q⟩
  keep := fun i h h' st kp => by
    obtain ⟨hz, hTI, ⟨x, y, hTO⟩, h1, h2⟩ := st
    exact ⟨kp z (by simp) _ hz, kp TI (by simp) _ hTI, ⟨x, y, kp TO (by simp) _ hTO⟩, h1.at fun o q => kp i1 (by simp) o q, h2.at fun o q => kp i2 (by simp) o q⟩
  item := by
    intro X hP hw hK hc i pins s σ H E I hf st hg
    subst hP hw hK
    obtain ⟨hz, hTI, ⟨x0, y0, hTO⟩, h1, h2⟩ := st
    obtain ⟨xs, x, ys, y, hq, hx, hq', hy⟩ := hg
    obtain ⟨fp, Pd, St, D1, mem, st1, st2, hP, hold⟩ := draws_of X.A.in1 (by exact I.ok.hd hc) I r hq i1 (hf i1 (by simp))
    obtain ⟨fp', Pd', St', D2, mem', st1', st2', hP', hold'⟩ := draws_of X.A.in1 (by exact I.ok.hd hc) I r' hq' i2 (hf i2 (by simp))
    have nin : ∀ c, c ∈ [z, TI, TO, i1, i2] → c ≠ i1 → c ∉ fp := fun c hc n q => (hold c q).elim n fun o => o.ne I (hf c hc) rfl
    have nin' : ∀ c, c ∈ [z, TI, TO, i1, i2] → c ≠ i2 → c ∉ fp' := fun c hc n q => (hold' c q).elim n fun o => o.ne I (hf c hc) rfl
    have S : ZipSep2 z TI TO i1 i2 fp fp' := ⟨D.TIz, D.TOz, D.TITO, D.TIi1, mem, nin z (by simp) D.z1, nin TO (by simp) D.T1, D.TIi2, mem', nin' z (by simp) D.z2, nin' TO (by simp) D.T2, nin' i1 (by simp) D.i12, nin i2 (by simp) (Ne.symm D.i12)⟩
    have hlt : i < xs.length := (List.getElem?_eq_some_iff.mp hx).1
    have hlt' : i < ys.length := (List.getElem?_eq_some_iff.mp hy).1
    refine wpAny_mono (tup_turn (ch := [z, TI, TO, i1, i2]) (vs := [x, y]) (WalksT.zipD2 S D1 D2) I (by omega) ⟨hz, hTI, ⟨x0, y0, hTO⟩, st1 i h1, st1' i h2⟩ (fun b hb => by
        have e' : b = z ∨ b = TO ∨ b = i1 ∨ b = i2 := by simpa using hb
        rcases e' with q | q | q | q <;> rw [q] <;> simp) hf (by show 2 ≤ sizeLine; decide) (fun vals ⟨a, b, g1, g2, g3⟩ => ?_)
      (R := fun x' H' s2 => Inv X pins σ H' s2 ∧ (ItZ X.K k k' v v').yld i H x' H' ∧ (IsZip s2.heap z TI TO .none ∧ IsTupOf2 s2.heap TI (.ref i1) (.ref i2) ∧ (∃ a1 a2, IsTupOf2 s2.heap TO a1 a2) ∧ Sit k u i1 (i + 1) s2.heap ∧ Sit k' u' i2 (i + 1) s2.heap) ∧ ∀ b ∈ [z, TI, TO, i1, i2], H' b = none) fun T s2 nT hT J st' => ?_)
      (fun r s1 ⟨u', e1, e2⟩ => ⟨u', e1, wpAny_mono e2 (fun _ s2 ⟨x', H', q1, q2, q3, q4, q5⟩ => ⟨x', H', q2, q1, q3, q4, q5⟩) fun _ _ z => z⟩) fun _ _ z => z
    · obtain ⟨x'', h3, h4⟩ := hP i a g1
      obtain ⟨y'', h5, h6⟩ := hP' i b g2
      rw [hx] at h3; cases h3
      rw [hy] at h5; cases h5
      rw [g3]
      exact .cons h4 (.cons h6 .nil)
    · refine ⟨J, ⟨T, x, y, rfl, nT, rfl, fun l hl => by rw [hl.inj I hq]; exact hx, fun l hl => by rw [hl.inj I hq']; exact hy⟩, ⟨st'.1, st'.2.1, st'.2.2.1, st2 _ _ st'.2.2.2.1, st2' _ _ st'.2.2.2.2⟩, fun b hb => ?_⟩
      have lv : ∃ o, s.heap.get? b = some o := by
        have e' : b = z ∨ b = TI ∨ b = TO ∨ b = i1 ∨ b = i2 := by simpa using hb
        rcases e' with q | q | q | q | q
        · rw [q]; exact ⟨_, hz⟩
        · rw [q]; exact ⟨_, hTI⟩
        · rw [q]; exact ⟨_, hTO⟩
        · obtain ⟨o, vs, ho, _⟩ := h1.live; rw [q]; exact ⟨o, ho⟩
        · obtain ⟨o, vs, ho, _⟩ := h2.live; rw [q]; exact ⟨o, ho⟩
      obtain ⟨o, ho⟩ := lv
      have hb' : b ≠ T := fun q => by
        subst q
        exact absurd (Nat.lt_of_lt_of_le (Heap.lt_size ho) hT) (Nat.lt_irrefl _)
      rw [upd_ne hb']
      exact (hf b hb).1
  done := by
    intro X hP hw hK hc i pins s σ H E I hf st hg
    subst hP hw hK
    obtain ⟨hz, hTI, ⟨x0, y0, hTO⟩, h1, h2⟩ := st
    obtain ⟨xs, ys, hq, hq', hn⟩ := hg
    obtain ⟨fp, Pd, St, D1, mem, st1, st2, hP, hold⟩ := draws_of X.A.in1 (by exact I.ok.hd hc) I r hq i1 (hf i1 (by simp))
    obtain ⟨fp', Pd', St', D2, mem', st1', st2', hP', hold'⟩ := draws_of X.A.in1 (by exact I.ok.hd hc) I r' hq' i2 (hf i2 (by simp))
    have nin : ∀ c, c ∈ [z, TI, TO, i1, i2] → c ≠ i1 → c ∉ fp := fun c hc n q => (hold c q).elim n fun o => o.ne I (hf c hc) rfl
    have nin' : ∀ c, c ∈ [z, TI, TO, i1, i2] → c ≠ i2 → c ∉ fp' := fun c hc n q => (hold' c q).elim n fun o => o.ne I (hf c hc) rfl
    have S : ZipSep2 z TI TO i1 i2 fp fp' := ⟨D.TIz, D.TOz, D.TITO, D.TIi1, mem, nin z (by simp) D.z1, nin TO (by simp) D.T1, D.TIi2, mem', nin' z (by simp) D.z2, nin' TO (by simp) D.T2, nin' i1 (by simp) D.i12, nin i2 (by simp) (Ne.symm D.i12)⟩
    subst hn
    refine (WalksT.zipD2 S D1 D2).done s _ _ ⟨hz, hTI, ⟨x0, y0, hTO⟩, st1 _ h1, st1' _ h2⟩ fun h' tk hk => ⟨rfl, I.turnedL (ch := [z, TI, TO, i1, i2]) (fun b o hb q => hk b o (fun m => hb (by
        have e' : b = z ∨ b = TO ∨ b = i1 ∨ b = i2 := by simpa using m
        rcases e' with q | q | q | q <;> rw [q] <;> simp)) q) hf⟩
  self := fun A i s Q E st h => wpAny_pyIter_zip st.1 h
theorem begins_of {X : Cx} {pins : List (Addr × Obj)} {σ : L2.St} {H : Hp} {s : Shared} {k : Sk} {v : V} {u : Value} {xs : List V} (I : Inv X pins σ H s) (r : RelV v u) (q : SqV X.K H k v xs) : ∃ Hd, Begins u (Sob k u) Hd ∧ Hd s.heap ∧ ∀ it h, h.get? it = some (Sob k u) → Sit k u it 0 h := by
  cases k <;> cases v <;> first | exact False.elim q | skip
  · rename_i a
    cases r
    obtain ⟨its, rv, p, hz⟩ := I.list q
    exact ⟨_, begins_list a its.toArray, p.isList, fun it h e => ⟨_, e, rfl, rfl⟩⟩
  · rename_i a
    cases r
    obtain ⟨its, rv, p, hz⟩ := I.tuple q
    exact ⟨_, begins_tuple a its.toArray, p, fun it h e => ⟨_, e, rfl, rfl⟩⟩
  · rename_i z
    obtain ⟨t, rfl⟩ := r
    exact ⟨_, begins_text z t, trivial, fun it h e => ⟨_, e, rfl, rfl⟩⟩
set_option maxHeartbeats 4000000 in
theorem meets_enum1 {v : Value} {o : Obj} {H : Heap → Prop} (B : Begins v o H) : Meets (Builtin.«enumerate.__new__» ⟨[.type "enumerate", v], []⟩) (fun _ R s => H s.heap ∧
      R (.ok (.ret (.ref (s.heap.push o).objs.size))) { s with heap := (s.heap.push o).push { cls := .type "enumerate", data := .fields #[.none, .bool false, .ref s.heap.objs.size, rawInt 0, .none, .none] } }) :=
  .of_wp fun prog w A R s0 hh => by
    obtain ⟨hp, g, d, tk, os⟩ := s0
    obtain ⟨h1, hfin⟩ := hh
    have hsub := sub_enumerate
    have go : ∀ {A' : Around} {E : Value → Shared → Prop} {Q : Value → Shared → Prop}, Q (.ref hp.objs.size) ⟨hp.push o, g, d, tk, os⟩ → wpAny (model prog w) A' (pyIter v) Q E ⟨hp, g, d, tk, os⟩ := fun q => B.iter prog w _ _ ⟨hp, g, d, tk, os⟩ _ h1 q
    wp_walk using go
    refine wpAny_stack_any fun _ => wpAny_pure ?_
    split
    · rename_i c' _ _ _ _ _
      cases (c' == Value.type "enumerate") <;> (wp_walk using go; exact ⟨_, rfl, hfin⟩)
    · wp_walk using go; exact ⟨_, rfl, hfin⟩
/-! how they begin -/
section
variable {X : Cx} {elts : List Expr} {kk : Nat} {tpos p pos : Pos} {e e2 : Expr} {ta : TA}
def iEnumV (K : PySem.W.Frag) (ta : TA) : TI := fun σ H R => ta σ H fun vs H1 => ∃ k v xs, vs = [v] ∧ SqV K H1 k v xs ∧ R (ItE K k v) H1
theorem pi_enumV (hg : Gl X "enumerate") (hm : X.mg "enumerate" = none) (ha : PA X [e] ta) (hs : starEach [e] X.env = [(false, eval e X.env)] := by rfl) :
    PI X (.Tuple elts kk tpos) (.Call (.Name "enumerate" p) [e] [] pos) (iEnumV X.K ta) := by
  refine ⟨fun pins s σ H R I h => ?_⟩
  refine Call_ (ld_blt I hg hm boot_enumerate (PyProof.Rows.callWith_type1 (thn (ha.run pos pins s σ H _ I h) fun us s1 ⟨vs, H1, I1, r1, q1⟩ => ?_) hs rfl))
  obtain ⟨k, v, xs, rfl, hq, q⟩ := q1
  obtain ⟨u, rfl, r⟩ := Vals.one r1
  obtain ⟨Hd, B, hB, h0⟩ := begins_of I1 r hq
  refine callType_new F.called_enumerate (by decide) (F.typeCall_enumerate_1 _) (F.newCall_enumerate_1 _) (fun obj => F.args_object_init_2 obj _) F.entry_enumerate_new (meets_enum1 B) ⟨hB, ?_⟩
  have hz : (s1.heap.push (Sob k u)).objs.size = s1.heap.objs.size + 1 := Heap.size_push ..
  show _ ∧ _
  rw [hz]
  generalize hE : ({ cls := .type "enumerate", data := .fields #[.none, .bool false, .ref s1.heap.objs.size, rawInt 0, .none, .none] } : Obj) = eo
  have he : ((s1.heap.push (Sob k u)).push eo).get? (s1.heap.objs.size + 1) = some eo := by
    rw [← hz]
    exact Heap.get?_push_size _ (by rw [← hE]; rfl)
  have hi : ((s1.heap.push (Sob k u)).push eo).get? s1.heap.objs.size = some (Sob k u) := Heap.get?_push_of_some _ (Heap.get?_push_size _ B.free)
  have hk : ∀ b o, s1.heap.get? b = some o → ((s1.heap.push (Sob k u)).push eo).get? b = some o := fun b o x => Heap.get?_push_of_some _ (Heap.get?_push_of_some _ x)
  have hen : IsEnum ((s1.heap.push (Sob k u)).push eo) (s1.heap.objs.size + 1) s1.heap.objs.size (0 + ((0 : Nat) : Int)) .none := by rw [← hE] at he ⊢; exact he
  refine ⟨⟨_, he, by rw [← hE]⟩, wpAny_pyIter_enum (by rw [← hE] at he ⊢; exact he) ?_⟩
  have I2 : Inv X pins σ H1 { s1 with heap := (s1.heap.push (Sob k u)).push eo } := I1.kept (t' := s1.toks) hk
  refine ⟨s1.heap.objs.size + 1, [s1.heap.objs.size + 1, s1.heap.objs.size], _, _, H1, rfl, I2, turn_enumV k v u r (s1.heap.objs.size + 1) s1.heap.objs.size, ⟨⟨.none, hen⟩, h0 _ _ hi, Nat.succ_ne_self _⟩, fun b hb => ?_, q⟩
  have hle : s1.heap.objs.size ≤ b := by
    have e' : b = s1.heap.objs.size + 1 ∨ b = s1.heap.objs.size := by simpa using hb
    rcases e' with z | z
    · rw [z]; exact Nat.le_succ _
    · rw [z]; exact Nat.le_refl _
  exact I1.fpOk hle (I1.hok.fresh hle)
def iZipV (K : PySem.W.Frag) (ta : TA) : TI := fun σ H R => ta σ H fun vs H1 => ∃ k v xs k' v' ys, vs = [v, v'] ∧ SqV K H1 k v xs ∧ SqV K H1 k' v' ys ∧ R (ItZ K k k' v v') H1
theorem pi_zipV (hg : Gl X "zip") (hm : X.mg "zip" = none) (ha : PA X [e, e2] ta)
    (hs : starEach [e, e2] X.env = (false, eval e X.env) :: starEach [e2] X.env := by rfl) (hpl : (backTo pos (starEach [e2] X.env)).any (·.1) = false := by rfl) :
    PI X (.Tuple elts kk tpos) (.Call (.Name "zip" p) [e, e2] [] pos) (iZipV X.K ta) := by
  refine ⟨fun pins s σ H R I h => ?_⟩
  refine Call_ (ld_blt I hg hm PyProof.Rows.boot_zip (PyProof.Rows.callWith_type1 (thn (ha.run pos pins s σ H _ I h) fun us s1 ⟨vs, H1, I1, r1, q1⟩ => ?_) hs hpl))
  obtain ⟨k, v, xs, k', v', ys, rfl, hq, hq', q⟩ := q1
  obtain ⟨u, u', rfl, r, r'⟩ := Vals.two r1
  obtain ⟨Hd, B, hB, h0⟩ := begins_of I1 r hq
  obtain ⟨Hd', B', hB', h0'⟩ := begins_of I1 r' hq'
  refine zip_begins2 B B' hB hB' fun h' g1 g2 g3 g4 g5 sz hk => wpAny_pyIter_zip g1 ?_
  have I2 : Inv X pins σ H1 { s1 with heap := h' } := I1.kept (t' := s1.toks) hk
  generalize hn : s1.heap.objs.size = n at *
  have ZA0 : ZA (n + 4) (n + 2) (n + 3) n (n + 1) := by
    constructor <;> (intro q; have q' : (_ : Nat) = _ := q; omega)
  refine ⟨n + 4, [n + 4, n + 2, n + 3, n, n + 1], _, _, H1, rfl, I2, turn_zipV k k' v v' u u' r r' (n + 4) (n + 2) (n + 3) n (n + 1) ZA0, ⟨g1, g2, ⟨_, _, g3⟩, h0 _ _ g4, h0' _ _ g5⟩, fun b hb => ?_, q⟩
  have hle : n ≤ b := by
    have e' : b = n + 4 ∨ b = n + 2 ∨ b = n + 3 ∨ b = n ∨ b = n + 1 := by simpa using hb
    rcases e' with q | q | q | q | q <;> rw [q] <;> first | exact Nat.le_add_right _ _ | exact Nat.le_refl _
  exact I1.fpOk (by rw [hn]; exact hle) (I1.hok.fresh (by rw [hn]; exact hle))
end
end Dl

namespace Dl
open PySem PySem.Spec PyProof.Rows L2

/-! ### what is walked, by data -/
def signsD (z : Str) : List PyData := z.cps.toList.map fun c => PyData.str ⟨#[c]⟩
def itemsD : PyData → Option (List PyData)
  | .list ds => some ds
  | .tuple ds => some ds
  | .str z => some (signsD z)
  | _ => none
theorem DqAll.signs {K : PySem.W.Frag} {F : Hp} (z : Str) : DqAll K F (signs z) (signsD z) := by
  unfold Dl.signs signsD
  generalize z.cps.toList = l
  induction l with
  | nil => exact .nil
  | cons c l ih => exact .cons (.str _) ih
theorem seq_of {K : PySem.W.Frag} {F : Hp} {v : V} {x : PyData} {ds : List PyData} (h : Dq K F v x) (e : itemsD x = some ds) : ∃ k vs, (∀ H, Sub F H → SqV K H k v vs) ∧ DqAll K F vs ds := by
  cases h <;> first | (cases e; done) | skip
  · cases e; exact ⟨.s, _, fun H s => rfl, DqAll.signs _⟩
  · cases e; rename_i a vs h1 h2; exact ⟨.l, vs, fun H s => SqL.of (s _ _ h1), h2⟩
  · cases e; rename_i a vs h1 h2; exact ⟨.t, vs, fun H s => s.seqT h1, h2⟩
def ItS (K : PySem.W.Frag) : Sk → V → It
  | .l, .ref a => Itl K a
  | .t, .ref a => Itt K a
  | .s, .str z => Its z
  | _, _ => Itr 0 0
theorem walk_S {K : PySem.W.Frag} {k : Sk} {v : V} {xs : List V} {F : Hp} (h : ∀ H, Sub F H → SqV K H k v xs) : Walk (ItS K k v) xs.length (fun H => SqV K H k v xs) (YAt xs) := by
  have h' := h F (Sub.refl F)
  cases k <;> cases v <;> first | exact False.elim h' | skip
  · exact walk_list
  · exact walk_tup
  · rename_i z
    have e : xs = signs z := h'
    subst e
    have w := walk_str (z := z)
    have e2 : z.cps.size = (signs z).length := by unfold signs; simp
    rw [e2] at w
    refine w.mono (fun _ _ => trivial) fun i H x H' _ _ ⟨q, c, q1, q2⟩ => ⟨q, ?_⟩
    unfold signs
    rw [List.getElem?_map]
    have : z.cps.toList[i]? = some c := by simpa using q1
    rw [this, q2]; rfl
theorem walk_E {K : PySem.W.Frag} {k : Sk} {v : V} {xs : List V} (inj : ∀ H ys, SqV K H k v xs → SqV K H k v ys → True) : Walk (ItE K k v) xs.length (fun H => SqV K H k v xs) (fun i H y H' => ∃ T x, y = .ref T ∧ H T = none ∧ H' = upd H T (.tup [.int (i : Nat), x]) ∧ xs[i]? = some x) where
  goes := fun i H hi h => ⟨xs, _, h, List.getElem?_eq_getElem hi⟩
  stops := fun H h => ⟨xs, h, rfl⟩
  yields := fun i H x H' hi h ⟨T, y, e1, e2, e3, e4⟩ => ⟨T, y, e1, e2, e3, e4 xs h⟩
theorem walk_Z {K : PySem.W.Frag} {k k' : Sk} {v v' : V} {xs ys : List V} : Walk (ItZ K k k' v v') (min xs.length ys.length) (fun H => SqV K H k v xs ∧ SqV K H k' v' ys) (fun i H z H' => ∃ T x y, z = .ref T ∧ H T = none ∧ H' = upd H T (.tup [x, y]) ∧ xs[i]? = some x ∧ ys[i]? = some y) where
  goes := fun i H hi h => ⟨xs, _, ys, _, h.1, List.getElem?_eq_getElem (by omega), h.2, List.getElem?_eq_getElem (by omega)⟩
  stops := fun H h => ⟨xs, ys, h.1, h.2, rfl⟩
  yields := fun i H x H' hi h ⟨T, x, y, e1, e2, e3, e4, e5⟩ => ⟨T, x, y, e1, e2, e3, e4 xs h.1, e5 ys h.2⟩
section
variable {X : Cx} {tg : Expr}
def iSeqV (K : PySem.W.Frag) (te : TE) : TI := fun σ H R => te σ H fun v H1 => ∃ k xs, SqV K H1 k v xs ∧ R (ItS K k v) H1
theorem pi_seqV {e : Expr} {te : TE} (he : PE X e te) : PI X tg e (iSeqV X.K te) := by
  refine ⟨fun pins s σ H R I h => ?_⟩
  refine thn (he.run pins s σ H _ I h) fun u s1 ⟨v, H1, I1, r1, k, xs, hq, q⟩ => ?_
  cases k <;> cases v <;> first | exact False.elim hq | skip
  · cases r1
    obtain ⟨its, rv, p, hz⟩ := I1.list hq
    exact wpAny_pyIter_list p.isList (pi_one (tk := s1.toks) I1 _ (turn_list _ _) ⟨_, Heap.get?_push_size _ rfl, rfl, rfl⟩ q)
  · rename_i a
    cases r1
    obtain ⟨its, rv, p, hz⟩ := I1.tuple hq
    exact wpAny_pyIter_tuple (show s1.heap.IsTuple a its.toArray from p) (pi_one (tk := s1.toks) I1 _ (turn_tuple _ _) ⟨_, Heap.get?_push_size _ rfl, rfl, rfl⟩ q)
  · rename_i x
    obtain ⟨t, rfl⟩ := r1
    cases ha : x.cps.all (· < 128)
    · exact wpAny_pyIter_wide ha (pi_one (tk := s1.toks) I1 _ (turn_str _ x t "str_iterator" (.inr rfl)) ⟨_, Heap.get?_push_size _ rfl, rfl, rfl⟩ q)
    · exact wpAny_pyIter_ascii ha (pi_one (tk := s1.toks) I1 _ (turn_str _ x t "str_ascii_iterator" (.inl rfl)) ⟨_, Heap.get?_push_size _ rfl, rfl, rfl⟩ q)
end
section
variable {G : DG} {W : WX} {X : Cx} {tg : Expr}
theorem itok_S {K : PySem.W.Frag} {k : Sk} {v : V} {xs : List V} {ds : List PyData} {F : Hp} (h : ∀ H, Sub F H → SqV K H k v xs) (d : DqAll K F xs ds) : ItOk K (ItS K k v) ds F := by
  refine ⟨fun H => SqV K H k v xs, YAt xs, by rw [← d.length]; exact walk_S h, h, fun i H y H' hi ⟨e1, e2⟩ => .inl ⟨e1, ?_⟩⟩
  obtain ⟨x, g, k⟩ := d.get e2
  exact ⟨x, g, k⟩
def zipInt (ds : List PyData) : List PyData := ds.mapIdx fun i x => .tuple [.int (i : Nat), x]
theorem itok_E {K : PySem.W.Frag} {k : Sk} {v : V} {xs : List V} {ds : List PyData} {F : Hp} (h : ∀ H, Sub F H → SqV K H k v xs) (d : DqAll K F xs ds) : ItOk K (ItE K k v) (zipInt ds) F := by
  have w := walk_E (K := K) (k := k) (v := v) (xs := xs) (fun _ _ _ _ => trivial)
  have e : xs.length = (zipInt ds).length := by unfold zipInt; rw [d.length, List.length_mapIdx]
  rw [e] at w
  refine ⟨_, _, w, h, fun i H y H' hi ⟨T, x, e1, e2, e3, e4⟩ => .inr ?_⟩
  obtain ⟨z, g, q⟩ := d.get e4
  refine ⟨T, _, [.int (i : Nat), z], e1, e2, e3, ?_, .cons (.int _) (.cons q .nil)⟩
  unfold zipInt
  rw [List.getElem?_mapIdx, g]; rfl
def zipD (ds es : List PyData) : List PyData := List.zipWith (fun x y => .tuple [x, y]) ds es
theorem itok_Z {K : PySem.W.Frag} {k k' : Sk} {v v' : V} {xs ys : List V} {ds es : List PyData} {F : Hp} (h : ∀ H, Sub F H → SqV K H k v xs) (d : DqAll K F xs ds) (h' : ∀ H, Sub F H → SqV K H k' v' ys) (d' : DqAll K F ys es) : ItOk K (ItZ K k k' v v') (zipD ds es) F := by
  have w := walk_Z (K := K) (k := k) (k' := k') (v := v) (v' := v') (xs := xs) (ys := ys)
  have e : min xs.length ys.length = (zipD ds es).length := by unfold zipD; rw [d.length, d'.length, List.length_zipWith]
  rw [e] at w
  refine ⟨_, _, w, fun H s => ⟨h H s, h' H s⟩, fun i H y H' hi ⟨T, x, y, e1, e2, e3, e4, e5⟩ => .inr ?_⟩
  obtain ⟨a, g, q⟩ := d.get e4
  obtain ⟨b, g', q'⟩ := d'.get e5
  refine ⟨T, _, [a, b], e1, e2, e3, ?_, .cons q (.cons q' .nil)⟩
  unfold zipD
  rw [List.getElem?_zipWith, g, g']
def rangeD (lo : Int) (n : Nat) : List PyData := (List.range n).map fun (i : Nat) => PyData.int (lo + (i : Int))
def downD (hi : Int) (n : Nat) : List PyData := (List.range n).map fun (i : Nat) => PyData.int (hi + (i : Int) * (-1))
theorem itok_R {K : PySem.W.Frag} {lo : Int} {n : Nat} {F : Hp} : ItOk K (Itr lo n) (rangeD lo n) F := by
  have w := walk_range (lo := lo) (n := n)
  have e : n = (rangeD lo n).length := by unfold rangeD; rw [List.length_map, List.length_range]
  have w' : Walk (Itr lo n) (rangeD lo n).length (fun _ => True) (YFn fun i => .int (lo + i)) := by rw [← e]; exact w
  refine ⟨_, _, w', fun _ _ => trivial, fun i H y H' hi ⟨e1, e2⟩ => .inl ⟨e1, .int (lo + i), ?_, by rw [e2]; exact .int _⟩⟩
  unfold rangeD
  rw [List.getElem?_map, List.getElem?_range (by omega)]; rfl
theorem itok_C {K : PySem.W.Frag} {hi : Int} {n : Nat} {F : Hp} : ItOk K (Itc hi (-1) n) (downD hi n) F := by
  have w := walk_rangeC (lo := hi) (c := -1) (n := n)
  have e : n = (downD hi n).length := by unfold downD; rw [List.length_map, List.length_range]
  have w' : Walk (Itc hi (-1) n) (downD hi n).length (fun _ => True) (YFn fun i => .int (hi + (i : Nat) * (-1))) := by rw [← e]; exact w
  refine ⟨_, _, w', fun _ _ => trivial, fun i H y H' hh ⟨e1, e2⟩ => .inl ⟨e1, .int (hi + i * (-1)), ?_, by rw [e2]; exact .int _⟩⟩
  unfold downD
  rw [List.getElem?_map, List.getElem?_range (by omega)]; rfl
/-- a value that is walked -/
def wiS (w : WE) : WI := fun env P Ex => w env (fun r e => match r.toD with
  | some x => (match itemsD x with
    | some ds => P ds (r.hold e)
    | none => False)
  | none => False) Ex
theorem evi_seq {e : Expr} {w : WE} (hK : X.K = G.K) (h : Ev G W X e w) : EvI G W X tg e (wiS w) := ⟨PI.imp (pi_seqV h.pe) fun σ H R q => by
  obtain ⟨C, dk, F, env, P, Ex, rfl, o, hw, f1, f2⟩ := q
  refine ⟨C, dk, F, env, _, Ex, rfl, o, hw, fun r e v H1 F1 p s1 l1 o1 k1 => ?_, f2⟩
  cases z : r.toD with
  | none => rw [z] at p; exact p.elim
  | some x =>
    rw [z] at p
    cases z2 : itemsD x with
    | none =>
      have p' : (match itemsD x with
        | some ds => P ds (r.hold e)
        | none => False) := p
      rw [z2] at p'; exact p'.elim
    | some ds =>
      have p' : (match itemsD x with
        | some ds => P ds (r.hold e)
        | none => False) := p
      rw [z2] at p'
      obtain ⟨F2, s2, o2, l2, k2⟩ := k1.held o1 z
      obtain ⟨k, vs, h1, h2⟩ := seq_of k2 z2
      rw [hK]
      exact ⟨k, vs, h1 _ o2.sub, f1 _ _ _ _ _ p' (s1.trans s2) (l1.trans l2) o2 (itok_S h1 h2)⟩⟩
def Small (i : Int) : Prop := -(2 ^ 62) ≤ i ∧ i < 2 ^ 62
/-- what is walked by a call: the arguments' data, a condition, the items -/
def wiC (c : List PyData → Prop) (op : List PyData → List PyData) (ws : List WE) : WI := fun env P Ex => wA ws env (fun rs e => match toDs rs with
  | some xs => c xs ∧ P (op xs) (holdAll rs e)
  | none => False) Ex
theorem L.iter {C : DC} {ws : List WE} {c : List PyData → Prop} {op : List PyData → List PyData} {dk : Dk} {σ : L2.St} {H F : Hp} {env : En} {P : List PyData → En → Prop} {Ex : Exn → En → Prop} {Q' : List V → Hp → Prop} (o : Ok C dk σ H F env) (h : wiC c op ws env P Ex)
    (f2 : ∀ x env' cls d H' F', Ex x env' → Sub F F' → EnLe env env' → Ok C dk σ H' F' env' → XOk C F' H' x cls d → W cls d σ H')
    (k : ∀ vs xs H2 F2 env2, DqAll C.g.K F2 vs xs → c xs → xs.length = ws.length → Ok C dk σ H2 F2 env2 → P (op xs) env2 → Sub F F2 → EnLe env env2 → Q' vs H2) : LA C.g W ws σ H Q' := by
  refine ⟨C, dk, F, env, _, Ex, rfl, o, h, fun rs e vs H1 F1 p n s1 l1 o1 k1 => ?_, f2⟩
  cases z : toDs rs with
  | none => rw [z] at p; exact p.elim
  | some xs =>
    rw [z] at p
    obtain ⟨F2, s2, o2, l2, k2⟩ := k1.held o1 z
    exact k vs xs H1 F2 _ k2 p.1 (by rw [← toDs_len z]; exact n) o2 p.2 (s1.trans s2) (l1.trans l2)
def cR1 : List PyData → Prop
  | [.int j] => Small j
  | _ => False
def oR1 : List PyData → List PyData
  | [.int j] => rangeD 0 j.toNat
  | _ => []
def cR2 : List PyData → Prop
  | [.int i, .int j] => Small i ∧ Small j
  | _ => False
def oR2 : List PyData → List PyData
  | [.int i, .int j] => rangeD i (j - i).toNat
  | _ => []
def cR3 : List PyData → Prop
  | [.int i, .int j, .int c] => c = -1 ∧ Small i ∧ Small j
  | _ => False
def oR3 : List PyData → List PyData
  | [.int i, .int j, .int _] => downD i (i - j).toNat
  | _ => []
variable {a b c : Expr} {w1 w2 w3 : WE} {p pos : Pos}
theorem evi_range1 (hm : X.mg "range" = none) (ha : EvA G W X [a] [w1]) (hg : Gl X "range" := by rfl) (hs : starEach [a] X.env = [(false, eval a X.env)] := by rfl) : EvI G W X tg (.Call (.Name "range" p) [a] [] pos) (wiC cR1 oR1 [w1]) := ⟨PI.imp (pi_range1 hg hm ha.pa hs) fun σ H R q => by
  obtain ⟨C, dk, F, env, P, Ex, rfl, o, hw, f1, f2⟩ := q
  refine L.iter o hw f2 fun vs xs H2 F2 env2 d e n o2 p2 s2 l2 => ?_
  match xs, e, d with
  | [.int j], e, d =>
    cases d with
    | cons d1 d2 =>
      cases d2; cases d1
      exact ⟨j, rfl, e.1, e.2, f1 _ _ _ _ _ p2 s2 l2 o2 itok_R⟩⟩
theorem evi_range2 (hm : X.mg "range" = none) (ha : EvA G W X [a, b] [w1, w2]) (hg : Gl X "range" := by rfl) (hs : starEach [a, b] X.env = [(false, eval a X.env), (false, eval b X.env)] := by rfl) (hs2 : starEach [b] X.env = [(false, eval b X.env)] := by rfl) :
    EvI G W X tg (.Call (.Name "range" p) [a, b] [] pos) (wiC cR2 oR2 [w1, w2]) := ⟨PI.imp (pi_range2 hg hm ha.pa hs hs2) fun σ H R q => by
  obtain ⟨C, dk, F, env, P, Ex, rfl, o, hw, f1, f2⟩ := q
  refine L.iter o hw f2 fun vs xs H2 F2 env2 d e n o2 p2 s2 l2 => ?_
  match xs, e, d with
  | [.int i, .int j], e, d =>
    cases d with
    | cons d1 d2 =>
      cases d2 with
      | cons d2 d3 =>
        cases d3; cases d2; cases d1
        exact ⟨i, j, rfl, ⟨e.1.1, e.1.2, e.2.1, e.2.2⟩, f1 _ _ _ _ _ p2 s2 l2 o2 itok_R⟩⟩
theorem evi_range3 (hm : X.mg "range" = none) (ha : EvA G W X [a, b, c] [w1, w2, w3]) (hg : Gl X "range" := by rfl)
    (hs : starEach [a, b, c] X.env = (false, eval a X.env) :: starEach [b, c] X.env := by rfl) (hs2 : (backTo pos (starEach [b, c] X.env)).any (·.1) = false := by rfl) :
    EvI G W X tg (.Call (.Name "range" p) [a, b, c] [] pos) (wiC cR3 oR3 [w1, w2, w3]) := ⟨PI.imp (pi_range3 hg hm ha.pa hs hs2) fun σ H R q => by
  obtain ⟨C, dk, F, env, P, Ex, rfl, o, hw, f1, f2⟩ := q
  refine L.iter o hw f2 fun vs xs H2 F2 env2 d e n o2 p2 s2 l2 => ?_
  match xs, e, d with
  | [.int i, .int j, .int k], e, d =>
    obtain ⟨rfl, e1, e2⟩ := e
    cases d with
    | cons d1 d2 =>
      cases d2 with
      | cons d2 d3 =>
        cases d3 with
        | cons d3 d4 =>
          cases d4; cases d3; cases d2; cases d1
          exact ⟨i, j, -1, _, rfl, RgC.neg e1.1 e1.2 e2.1 e2.2, f1 _ _ _ _ _ p2 s2 l2 o2 itok_C⟩⟩
def itemsL (x : PyData) : List PyData := (itemsD x).getD []
def cE : List PyData → Prop
  | [x] => (itemsD x).isSome = true
  | _ => False
def oE : List PyData → List PyData
  | [x] => zipInt (itemsL x)
  | _ => []
def cZ : List PyData → Prop
  | [x, y] => (itemsD x).isSome = true ∧ (itemsD y).isSome = true
  | _ => False
def oZ : List PyData → List PyData
  | [x, y] => zipD (itemsL x) (itemsL y)
  | _ => []
theorem items_some {x : PyData} (h : (itemsD x).isSome = true) : itemsD x = some (itemsL x) := by
  unfold itemsL
  cases e : itemsD x with
  | none => rw [e] at h; cases h
  | some y => rfl
variable {elts : List Expr} {kk : Nat} {tpos : Pos}
theorem evi_enum (hK : X.K = G.K) (hm : X.mg "enumerate" = none) (ha : EvA G W X [a] [w1]) (hg : Gl X "enumerate" := by rfl) (hs : starEach [a] X.env = [(false, eval a X.env)] := by rfl) : EvI G W X (.Tuple elts kk tpos) (.Call (.Name "enumerate" p) [a] [] pos) (wiC cE oE [w1]) := ⟨PI.imp (pi_enumV hg hm ha.pa hs) fun σ H R q => by
  obtain ⟨C, dk, F, env, P, Ex, rfl, o, hw, f1, f2⟩ := q
  refine L.iter o hw f2 fun vs xs H2 F2 env2 d e n o2 p2 s2 l2 => ?_
  match xs, e, d with
  | [x], e, d =>
    cases d with
    | cons d1 d2 =>
      cases d2
      obtain ⟨k, ws, h1, h2⟩ := seq_of d1 (items_some e)
      rw [hK]
      exact ⟨k, _, ws, rfl, h1 _ o2.sub, f1 _ _ _ _ _ p2 s2 l2 o2 (itok_E h1 h2)⟩⟩
theorem evi_zip (hK : X.K = G.K) (hm : X.mg "zip" = none) (ha : EvA G W X [a, b] [w1, w2]) (hg : Gl X "zip" := by rfl) (hs : starEach [a, b] X.env = (false, eval a X.env) :: starEach [b] X.env := by rfl) (hpl : (backTo pos (starEach [b] X.env)).any (·.1) = false := by rfl) :
    EvI G W X (.Tuple elts kk tpos) (.Call (.Name "zip" p) [a, b] [] pos) (wiC cZ oZ [w1, w2]) := ⟨PI.imp (pi_zipV hg hm ha.pa hs hpl) fun σ H R q => by
  obtain ⟨C, dk, F, env, P, Ex, rfl, o, hw, f1, f2⟩ := q
  refine L.iter o hw f2 fun vs xs H2 F2 env2 d e n o2 p2 s2 l2 => ?_
  match xs, e, d with
  | [x, y], e, d =>
    cases d with
    | cons d1 d2 =>
      cases d2 with
      | cons d2 d3 =>
        cases d3
        obtain ⟨k, ws, h1, h2⟩ := seq_of d1 (items_some e.1)
        obtain ⟨k', ws', h1', h2'⟩ := seq_of d2 (items_some e.2)
        rw [hK]
        exact ⟨k, _, ws, k', _, ws', rfl, h1 _ o2.sub, h1' _ o2.sub, f1 _ _ _ _ _ p2 s2 l2 o2 (itok_Z h1 h2 h1' h2')⟩⟩
end
end Dl

namespace Dl
open PySem PySem.Spec PyProof.Rows L2

/-! ### comprehensions -/
abbrev W0 : WX := fun _ _ _ _ => False
def wipeE : List Nat → En → En
  | [], e => e
  | v :: vs, e => (wipeE vs e).set v .no
def restE : List Nat → En → En → En
  | [], _, e3 => e3
  | v :: vs, e, e3 => (restE vs e e3).set v ((e[v]?).getD .no)
def frzAll : List Nat → En → En
  | [], e => e
  | v :: vs, e => frzAll vs (frz e v)
def wLcL (vs : List Nat) (t : WG) (c : WT) (w : WE) : List PyData → List PyData → En → (List PyData → En → Prop) → Prop
  | [], acc, env, K => K acc env
  | x :: xs, acc, env, K => t x (wipeE vs env) fun e1 => c e1 (fun b e2 => if b = true then w e2 (fun r e3 => match r.toD with
      | some y => wLcL vs t c w xs (acc ++ [y]) (restE vs env (r.hold e3)) K
      | none => False) (fun _ _ => False) else wLcL vs t c w xs acc (restE vs env e2) K) fun _ _ => False
def wLc (vs : List Nat) (i : WI) (t : WG) (c : WT) (w : WE) : WE := fun env P Ex => i env (fun xs e => xs.length ≤ sizeLine ∧ wLcL vs t c w xs [] (frzAll vs e) fun acc e' => P (.nw (.lst acc)) e') Ex
section
variable {C : DC} {dk : Dk} {σ : L2.St} {H F : Hp} {env : En}
theorem Ok.clear (o : Ok C dk σ H F env) (i : Nat) : Ok C dk (σ.set i none) H F (env.set i .no) where
  sub := o.sub
  len := by rw [List.length_set, List.length_set]; exact o.len
  slot := fun j s e => by
    rw [List.getElem?_set] at e
    by_cases h : i = j
    · subst h
      rw [if_pos rfl] at e
      by_cases hl : i < env.length
      · rw [if_pos hl] at e; cases e; trivial
      · rw [if_neg hl] at e; cases e
    · rw [if_neg h] at e
      have : gt (σ.set i none) j = gt σ j := by unfold gt; rw [List.getElem?_set_ne h]
      rw [this]; exact o.slot j s e
  sep := fun a b c c' p e1 e2 e3 e4 => by
    have n : ∀ {m : Nat} {c}, (env.set i .no)[m]? = some (Sl.own c) → m ≠ i ∧ env[m]? = some (.own c) := fun {m c} y => by
      rw [List.getElem?_set] at y
      by_cases h : i = m
      · subst h
        rw [if_pos rfl] at y
        split at y <;> cases y
      · rw [if_neg h] at y; exact ⟨Ne.symm h, y⟩
    have g : ∀ {m : Nat}, m ≠ i → gt (σ.set i none) m = gt σ m := fun {m} h => by unfold gt; rw [List.getElem?_set_ne (Ne.symm h)]
    rw [g (n e1).1] at e3
    rw [g (n e2).1] at e4
    exact o.sep a b c c' p (n e1).2 (n e2).2 e3 e4
  deck := o.deck
  base := o.base
  fnew := o.fnew
  f0 := o.f0
  dkr := o.dkr
theorem Ok.wipe (o : Ok C dk σ H F env) : ∀ vs : List Nat, Ok C dk (L2.wipe σ vs) H F (wipeE vs env)
  | [] => o
  | v :: vs => (Ok.wipe o vs).clear v
def NoOwn (vs : List Nat) (env : En) : Prop := ∀ j ∈ vs, ∀ c, env[j]? ≠ some (Sl.own c)
theorem NoOwn.le {vs : List Nat} {env env' : En} (n : NoOwn vs env) (l : ∀ (j : Nat) c, env'[j]? = some (Sl.own c) → env[j]? = some (.own c)) : NoOwn vs env' := fun j hj c e => n j hj c (l j c e)
theorem own_frz {env : En} {i j : Nat} {c : Cell} (h : (frz env i)[j]? = some (Sl.own c)) : env[j]? = some (.own c) ∧ j ≠ i := by
  rw [frz_get] at h
  by_cases e : j = i
  · rw [if_pos e] at h
    cases q : env[j]? with
    | none => rw [q] at h; cases h
    | some s =>
      rw [q] at h
      cases s <;> first | (cases h; done) | (rename_i c'; cases c'; cases h)
  · rw [if_neg e] at h; exact ⟨h, e⟩
theorem frzAll_no : ∀ (vs : List Nat) (env : En), NoOwn vs (frzAll vs env) ∧ ∀ (j : Nat) c, (frzAll vs env)[j]? = some (Sl.own c) → env[j]? = some (.own c)
  | [], env => ⟨fun j hj => absurd hj (by simp), fun _ _ h => h⟩
  | v :: vs, env => by
    obtain ⟨a, b⟩ := frzAll_no vs (frz env v)
    refine ⟨fun j hj c e => ?_, fun j c e => (own_frz (b j c e)).1⟩
    rcases List.mem_cons.mp hj with rfl | hj
    · exact (own_frz (b _ c e)).2 rfl
    · exact a j hj c e
theorem Ok.frzs : ∀ (vs : List Nat) {F : Hp} {env : En}, Ok C dk σ H F env → ∃ F', Sub F F' ∧ Ok C dk σ H F' (frzAll vs env) ∧ EnLe env (frzAll vs env)
  | [], F, env, o => ⟨F, Sub.refl F, o, EnLe.refl _⟩
  | v :: vs, F, env, o => by
    obtain ⟨F1, s1, o1, l1⟩ := o.freeze v
    obtain ⟨F2, s2, o2, l2⟩ := Ok.frzs vs o1
    exact ⟨F2, s1.trans s2, o2, l1.trans l2⟩
theorem restE_get {vs : List Nat} {e e3 : En} {j : Nat} : (restE vs e e3)[j]? = if j ∈ vs then (if j < e3.length then some ((e[j]?).getD .no) else none) else e3[j]? := by
  have hl : ∀ vs : List Nat, (restE vs e e3).length = e3.length := fun vs => by
    induction vs with
    | nil => rfl
    | cons v vs ih => show ((restE vs e e3).set v _).length = _; rw [List.length_set, ih]
  induction vs with
  | nil => rw [if_neg (by simp)]; rfl
  | cons v vs ih =>
    show ((restE vs e e3).set v _)[j]? = _
    rw [List.getElem?_set, hl]
    by_cases h : v = j
    · subst h; rw [if_pos rfl, if_pos (List.mem_cons_self)]
    · rw [if_neg h, ih]
      by_cases h2 : j ∈ vs
      · rw [if_pos h2, if_pos (List.mem_cons_of_mem _ h2)]
      · rw [if_neg h2, if_neg (by simp [h2, Ne.symm h])]
theorem wipeE_get {vs : List Nat} {e : En} {j : Nat} (h : j ∉ vs) : (wipeE vs e)[j]? = e[j]? := by
  induction vs with
  | nil => rfl
  | cons v vs ih =>
    show ((wipeE vs e).set v _)[j]? = _
    rw [List.getElem?_set_ne (by rintro rfl; exact h (by simp))]
    exact ih fun z => h (List.mem_cons_of_mem _ z)
theorem wipe_get {vs : List Nat} {τ : L2.St} {j : Nat} : (L2.wipe τ vs)[j]? = if j ∈ vs then (if j < τ.length then some none else none) else τ[j]? := by
  induction vs with
  | nil => rw [if_neg (by simp)]; rfl
  | cons v vs ih =>
    show ((L2.wipe τ vs).set v none)[j]? = _
    rw [List.getElem?_set, wipe_length]
    by_cases h : v = j
    · subst h; rw [if_pos rfl, if_pos (List.mem_cons_self)]
    · rw [if_neg h, ih]
      by_cases h2 : j ∈ vs
      · rw [if_pos h2, if_pos (List.mem_cons_of_mem _ h2)]
      · rw [if_neg h2, if_neg (by simp [h2, Ne.symm h])]
theorem chg_wipe {vs sl : List Nat} {σ σ' : L2.St} (c : Chg sl (L2.wipe σ vs) σ') (hs : ∀ j ∈ sl, j ∈ vs) : L2.wipe σ' vs = L2.wipe σ vs := by
  have hl : σ'.length = σ.length := by rw [c.1, wipe_length]
  apply List.ext_getElem?
  intro j
  rw [wipe_get, wipe_get, hl]
  by_cases h : j ∈ vs
  · rw [if_pos h, if_pos h]
  · rw [if_neg h, if_neg h]
    have := c.2 j fun z => h (hs j z)
    rw [wipe_get, if_neg h] at this
    exact this
theorem gt_eq {σ σ' : L2.St} {j : Nat} (h : σ'[j]? = σ[j]?) : gt σ' j = gt σ j := by unfold gt; rw [h]
/-- behind a turn: the block's own names are forgotten, the def's stand as they stood -/
theorem Ok.rest {vs : List Nat} {σ' : L2.St} {H' F' : Hp} {env' : En} (o : Ok C dk σ H F env) (o3 : Ok C dk σ' H' F' env') (s : Sub F F') (no : NoOwn vs env) (hw : L2.wipe σ' vs = L2.wipe σ vs) : Ok C dk σ H' F' (restE vs env env') := by
  have hl : σ'.length = σ.length := by have := congrArg List.length hw; rw [wipe_length, wipe_length] at this; exact this
  have hle : env'.length = env.length := by rw [← o3.len, hl, o.len]
  have hg : ∀ j, j ∉ vs → σ'[j]? = σ[j]? := fun j h => by
    have := congrArg (fun l => l[j]?) hw
    simp only [wipe_get, if_neg h] at this
    exact this
  have out : ∀ {j : Nat} {c}, (restE vs env env')[j]? = some (Sl.own c) → j ∉ vs ∧ env'[j]? = some (.own c) := fun {j c} e => by
    rw [restE_get] at e
    by_cases h : j ∈ vs
    · rw [if_pos h] at e
      split at e <;> first | (cases e; done) | skip
      cases q : env[j]? with
      | none => rw [q] at e; cases e
      | some z => rw [q] at e; cases e; exact absurd q (no j h c)
    · rw [if_neg h] at e; exact ⟨h, e⟩
  refine ⟨o3.sub, ?_, fun j z e => ?_, fun a b c c' p e1 e2 e3 e4 => ?_, o3.deck, o3.base, o3.fnew, o3.f0, o3.dkr⟩
  · have : (restE vs env env').length = env'.length := by
      clear out hg hw hl no s
      induction vs with
      | nil => rfl
      | cons v vs ih => show ((restE vs env env').set v _).length = _; rw [List.length_set, ih]
    rw [this, hle, o.len]
  · rw [restE_get] at e
    by_cases h : j ∈ vs
    · rw [if_pos h] at e
      split at e <;> first | (cases e; done) | skip
      cases e
      cases q : env[j]? with
      | none => trivial
      | some z =>
        have k := o.slot j z q
        show SlOk C dk H' F' z (gt σ j)
        cases z with
        | no => trivial
        | d x => obtain ⟨v, e1, k1⟩ := k; exact ⟨v, e1, k1.mono s⟩
        | own c => exact absurd q (no j h c)
        | deck => exact k
        | opq y => exact k
    · rw [if_neg h] at e
      have k := o3.slot j z e
      rw [gt_eq (hg j h)] at k
      exact k
  · obtain ⟨n1, g1⟩ := out e1
    obtain ⟨n2, g2⟩ := out e2
    rw [← gt_eq (hg a n1)] at e3
    rw [← gt_eq (hg b n2)] at e4
    exact o3.sep a b c c' p g1 g2 e3 e4
/-- an object is guarded: all that runs leaves it as it is -/
abbrev DC.guard (C : DC) (D : Addr) (u : HO) : DC := { C with B := upd C.B D u }
theorem Ok.guard {D : Addr} {u : HO} (o : Ok C dk σ H F env) (hu : H D = some u) (off : Off dk D) (no : ∀ (i : Nat) c', env[i]? = some (.own c') → gt σ i ≠ some (.ref D)) (nf : F D = none) : Ok (C.guard D u) dk σ H F env where
  sub := o.sub
  len := o.len
  slot := fun j z e => by
    have k := o.slot j z e
    cases z with
    | own c =>
      obtain ⟨p, e1, k⟩ := k
      have np : p ≠ D := fun q => no j c e (by rw [← q]; exact e1)
      exact ⟨p, e1, k.nf, by show upd C.B D u p = none; rw [upd_ne np]; exact k.nb, k.off, k.at_⟩
    | _ => exact k
  sep := o.sep
  deck := o.deck
  base := fun a w e f => by
    by_cases q : a = D
    · subst q
      have e' : upd C.B a u a = some w := e
      rw [upd_same] at e'; rw [← e']; exact hu
    · have e' : upd C.B D u a = some w := e
      rw [upd_ne q] at e'; exact o.base a w e' f
  fnew := fun a w e f => by
    have na : a ≠ D := fun q => by rw [q, nf] at e; cases e
    show upd C.B D u a = none
    rw [upd_ne na]; exact o.fnew a w e f
  f0 := o.f0
  dkr := by
    rcases o.dkr with w | ⟨w1, w2⟩
    · exact .inl w
    · refine .inr ⟨w1, fun da dl e => ?_⟩
      obtain ⟨n1, n2⟩ := off da dl e
      obtain ⟨b1, b2⟩ := w2 da dl e
      exact ⟨by show upd C.B D u da = none; rw [upd_ne (Ne.symm n1)]; exact b1, by show upd C.B D u dl = none; rw [upd_ne (Ne.symm n2)]; exact b2⟩
theorem Ok.unguard {D : Addr} {u : HO} {σ' : L2.St} {H' F' : Hp} {env' : En} (o : Ok (C.guard D u) dk σ' H' F' env') (nb : C.B D = none) (off : Off dk D) (nf0 : C.F0 D = none) :
    Ok C dk σ' H' F' env' ∧ H' D = some u ∧ F' D = none ∧ ∀ (i : Nat) c', env'[i]? = some (.own c') → gt σ' i ≠ some (.ref D) := by
  have offk : Off C.dk0 D := by
    rcases o.dkr with w | ⟨w, _⟩
    · intro da dl e; exact off da dl (w.trans e)
    · intro da dl e
      have w' : C.dk0 = none := w
      rw [w'] at e; cases e
  have nF : F' D = none := by
    cases q : F' D with
    | none => rfl
    | some w =>
      have z : upd C.B D u D = none := o.fnew D w q nf0
      rw [upd_same] at z; cases z
  have low : ∀ {a}, upd C.B D u a = none → C.B a = none := fun {a} e => by
    by_cases q : a = D
    · rw [q]; exact nb
    · rw [upd_ne q] at e; exact e
  refine ⟨⟨o.sub, o.len, fun j z e => ?_, o.sep, o.deck, fun a w e f => ?_, fun a w e f => low (o.fnew a w e f), o.f0, ?_⟩, o.base D u upd_same offk, nF, fun i c' e q => ?_⟩
  · have k := o.slot j z e
    cases z with
    | own c => obtain ⟨p, e1, k⟩ := k; exact ⟨p, e1, k.nf, low k.nb, k.off, k.at_⟩
    | _ => exact k
  · have na : a ≠ D := fun q => by rw [q, nb] at e; cases e
    exact o.base a w (by show upd C.B D u a = some w; rw [upd_ne na]; exact e) f
  · rcases o.dkr with w | ⟨w1, w2⟩
    · exact .inl w
    · exact .inr ⟨w1, fun da dl e => ⟨low (w2 da dl e).1, low (w2 da dl e).2⟩⟩
  · obtain ⟨p, e1, k⟩ := o.slot i _ e
    rw [q] at e1; cases e1
    have z : upd C.B D u D = none := k.nb
    rw [upd_same] at z; cases z
/-- a cell that no name has is written -/
theorem Ok.write {D : Addr} {u : HO} (o : Ok C dk σ H F env) (nf : F D = none) (nb : C.B D = none) (off : Off dk D) (no : ∀ (i : Nat) c', env[i]? = some (.own c') → gt σ i ≠ some (.ref D)) : Ok C dk σ (upd H D u) F env where
  sub := fun a w e => by
    have na : a ≠ D := fun q => by rw [q, nf] at e; cases e
    rw [upd_ne na]; exact o.sub a w e
  len := o.len
  slot := fun j z e => by
    have k := o.slot j z e
    cases z with
    | own c =>
      obtain ⟨p, e1, k⟩ := k
      have np : p ≠ D := fun q => no j c e (by rw [← q]; exact e1)
      obtain ⟨ho, w, k2⟩ := k.at_
      exact ⟨p, e1, k.nf, k.nb, k.off, ho, by rw [upd_ne np]; exact w, k2⟩
    | _ => exact k
  sep := o.sep
  deck := by
    have d := o.deck
    cases dk with
    | none => trivial
    | some kk =>
      obtain ⟨da, dl⟩ := kk
      obtain ⟨a1, a2, a3, o1, o2, h1, h2, a4⟩ := d
      obtain ⟨n1, n2⟩ := off da dl rfl
      exact ⟨a1, a2, a3, o1, o2, by rw [upd_ne (Ne.symm n1)]; exact h1, by rw [upd_ne (Ne.symm n2)]; exact h2, a4⟩
  base := fun a w e f => by
    have na : a ≠ D := fun q => by rw [q, nb] at e; cases e
    rw [upd_ne na]; exact o.base a w e f
  fnew := o.fnew
  f0 := o.f0
  dkr := o.dkr
end
structure EvTs (G : DG) (W : WX) (X : Cx) (ifs : List Expr) (w : WT) : Prop where
  pt : PTs X ifs (LT G W w)
def tYesW : WT := fun env P _ => P true env
section
variable {G : DG} {W : WX} {X : Cx}
theorem evts_nil : EvTs G W X [] tYesW := ⟨⟨fun pins s σ H Q I q => by
  obtain ⟨C, dk, F, env, P, Ex, rfl, o, h1, f1, f2⟩ := q
  exact pts_nil.run pins s σ H Q I (f1 _ _ _ _ h1 (Sub.refl F) (EnLe.refl _) o)⟩⟩
theorem evts_one {c : Expr} {w : WT} (h : EvT G W X c w) : EvTs G W X [c] w := ⟨pts_one h.pt⟩
theorem L.lc {C : DC} {wi : WI} {sl vs : List Nat} {t : WG} {c : WT} {we : WE} {dk : Dk} {σ : L2.St} {H F : Hp} {env : En} {P : R → En → Prop} {Ex : Exn → En → Prop} {Q : VK} (hsl : ∀ j ∈ sl, j ∈ vs) (o : Ok C dk σ H F env) (hw : wLc vs wi t c we env P Ex) (f : Fin C W dk σ F env P Ex Q) :
    tLc (LI C.g W wi) (LG C.g sl t) (LT C.g W0 c) (L C.g W0 we) vs σ H Q := by
  refine ⟨C, dk, F, env, _, Ex, rfl, o, hw, fun xs env1 H1 F1 J p s1 l1 o1 it => ?_, fun x e c d H' F' p s l o' q => f.2 x e c d H' F' p s l o' q trivial⟩
  intro D hD
  obtain ⟨hz, p⟩ := p
  obtain ⟨Gd, Y, wk, hG, hY⟩ := it
  obtain ⟨F2, s2, o2, l2⟩ := Ok.frzs vs o1
  have off := o2.offNew hD
  have nb := o2.nb hD
  have nf2 := o2.sub.free0 hD
  have o3 := Ok.up o2 (o2.newCell (.lst []) hD) (Sub.refl F2)
  refine lc_it wk (fun i H => ∃ F env acc vsD, Ok (C.at F2) dk σ H F env ∧ EnLe (frzAll vs env1) env ∧ i ≤ xs.length ∧ acc.length ≤ i ∧ H D = some (.lst vsD) ∧ DqAll C.g.K F vsD acc ∧ F D = none ∧ (∀ (i : Nat) c', env[i]? = some (.own c') → gt σ i ≠ some (.ref D)) ∧ wLcL vs t c we (xs.drop i) acc env (fun acc e' => P (.nw (.lst acc)) e'))
    ⟨F2, _, [], [], o3, EnLe.refl _, Nat.zero_le _, Nat.le_refl _, upd_same, .nil, nf2, o2.ownNe hD, p⟩ (fun i H _ ⟨F, env, _, _, o, _⟩ => hG H ((s2.trans o.f0).trans o.sub)) ?_ ?_
  · rintro i v H4 H5 hlt ⟨F4, env4, acc, vsD, o4, l4, hle, hla, hD4, dq4, nf4, no4, w4⟩ y
    have og := o4.guard hD4 off no4 nf4
    obtain ⟨d, F5, e5, s5, o5, k5⟩ := It.step (C := (C.at F2).guard D (.lst vsD)) (J := J) (F1 := F1) og (s2.trans o4.f0) hlt y hY
    rw [drop_cons e5] at w4
    have nO : NoOwn vs env4 := (frzAll_no vs env1).1.le fun j c e => by
      cases q : (frzAll vs env1)[j]? with
      | none =>
        have h1 : (frzAll vs env1).length ≤ j := List.getElem?_eq_none_iff.mp q
        have h2 : j < env4.length := (List.getElem?_eq_some_iff.mp e).1
        have h3 : env4.length = (frzAll vs env1).length := by rw [← o4.len, ← o2.len]
        omega
      | some z =>
        rcases l4 j z q with k | ⟨c', x, _, _, k⟩
        · rw [e] at k; cases k; rfl
        · rw [e] at k; cases k
    have next : ∀ (H8 F9 : Hp) (σ6 : L2.St) (e9 : En) , Ok ((C.at F2).guard D (.lst vsD)) dk σ6 H8 F9 e9 → Sub F5 F9 → L2.wipe σ6 vs = L2.wipe σ vs → EnLe (wipeE vs env4) e9 ∨ (∃ e6, Chg sl (wipeE vs env4) e6 ∧ EnLe e6 e9) →
        ∃ o : Ok (C.at F2) dk σ H8 F9 (restE vs env4 e9), EnLe (frzAll vs env1) (restE vs env4 e9) ∧ H8 D = some (.lst vsD) ∧ DqAll C.g.K F9 vsD acc ∧ F9 D = none ∧ (∀ (i : Nat) c', (restE vs env4 e9)[i]? = some (.own c') → gt σ i ≠ some (.ref D)) := fun H8 F9 σ6 e9 o9 s9 hw9 le9 => by
      have o10 := Ok.rest o5 o9 s9 nO hw9
      obtain ⟨o11, hD8, nf9, no11⟩ := o10.unguard nb off nf2
      refine ⟨o11, l4.trans fun j z e => ?_, hD8, dq4.mono (s5.trans s9), nf9, no11⟩
      have hlen : j < e9.length := by
        have h1 : j < env4.length := (List.getElem?_eq_some_iff.mp e).1
        have h2 := congrArg List.length hw9
        rw [wipe_length, wipe_length] at h2
        rw [← o9.len, h2, o4.len]; exact h1
      rw [restE_get]
      by_cases hj : j ∈ vs
      · rw [if_pos hj, if_pos hlen, e]; exact .inl rfl
      · rw [if_neg hj]
        rcases le9 with le | ⟨e6, c6, le⟩
        · exact le j z (by rw [wipeE_get hj]; exact e)
        · exact le j z (by rw [c6.2 j fun q => hj (hsl j q), wipeE_get hj]; exact e)
    refine ⟨(C.at F2).guard D (.lst vsD), dk, F5, wipeE vs env4, d, _, rfl, o5.wipe vs, k5, w4, fun env6 σ6 p6 c6 ce6 o6 => ?_⟩
    have hw6 := chg_wipe c6 hsl
    refine ⟨hw6, (C.at F2).guard D (.lst vsD), dk, F5, env6, _, _, rfl, o6, p6, fun b e7 H7 F7 p7 s7 l7 o7 => ?_, fun _ _ _ _ _ _ z => z.elim⟩
    cases b with
    | false =>
      obtain ⟨o8, h1, h2, h3, h4, h5⟩ := next H7 F7 σ6 e7 o7 s7 hw6 (.inr ⟨env6, ce6, l7⟩)
      exact ⟨F7, _, acc, vsD, o8, h1, hlt, by omega, h2, h3, h4, h5, p7⟩
    | true =>
      refine ⟨(C.at F2).guard D (.lst vsD), dk, F7, e7, _, _, rfl, o7, p7, fun r e8 v8 H8 F8 p8 s8 l8 o8 k8 => ?_, fun _ _ _ _ _ _ z => z.elim⟩
      cases z : r.toD with
      | none => rw [z] at p8; exact p8.elim
      | some x =>
        rw [z] at p8
        obtain ⟨F9, s9, o9, l9, k9⟩ := k8.held o8 z
        obtain ⟨o10, h1, h2, h3, h4, h5⟩ := next H8 F9 σ6 (r.hold e8) o9 ((s7.trans s8).trans s9) hw6 (.inr ⟨env6, ce6, (l7.trans l8).trans l9⟩)
        refine ⟨vsD, h2, by rw [h3.length]; omega, F9, _, acc ++ [x], vsD ++ [v8], o10.write h4 nb off h5, h1, hlt, by rw [List.length_append]; simp; omega, upd_same, h3.snoc k9, h4, h5, p8⟩
  · rintro H4 ⟨F4, env4, acc, vsD, o4, l4, hle, hla, hD4, dq4, nf4, no4, w4⟩
    rw [List.drop_length] at w4
    have o4' := Ok.down o2 o4
    exact f.1 _ _ _ _ _ w4 ((s1.trans s2).trans o4.f0) ((l1.trans l2).trans l4) o4' ⟨D, rfl, ⟨nf4, nb, off, _, hD4, dq4⟩, no4⟩
theorem ev_lc {elt tg iter : Expr} {ifs : List Expr} {scope : Scope} {own : List (Str × Nat)} {pos : Pos} {wi : WI} {sl : List Nat} {t : WG} {c : WT} {we : WE} (hN : X.N.Nodup) (hi : EvI G W X tg iter wi) (ok : BlkOk X.N X.env.scope scope own)
    (hg : ∀ (s : Shared) (H : Hp) (C : Addr) (cl : List (Str × Addr)) (fp : List Addr), EvG G (X.blk s H scope (compEnvC scope cl C X.env) fp) tg sl t)
    (ht : ∀ (s : Shared) (H : Hp) (C : Addr) (cl : List (Str × Addr)) (fp : List Addr), EvTs G W0 (X.blk s H scope (compEnvC scope cl C X.env) fp) ifs c)
    (he : ∀ (s : Shared) (H : Hp) (C : Addr) (cl : List (Str × Addr)) (fp : List Addr), Ev G W0 (X.blk s H scope (compEnvC scope cl C X.env) fp) elt we) (hc : X.calm = true := by rfl) (hsl : ∀ j ∈ sl, j ∈ own.map (·.2) := by decide)
    (hs : ∀ x, foldedSetIterable iter X.env x = pure x := by intro _; rfl) : Ev G W X (.ListComp elt [⟨tg, iter, ifs, 0⟩] scope pos) (wLc (own.map (·.2)) wi t c we) :=
  Ev.of (pe_lc hc hN hi.pi ok (fun s H C cl fp => (hg s H C cl fp).pg) (fun s H C cl fp => (ht s H C cl fp).pt) (fun s H C cl fp => (he s H C cl fp).pe) hs) fun C hC dk σ H F env P Ex Q o hw f => by
    subst hC
    exact L.lc hsl o hw f
/-- name = [..] on one line, the name a local -/
theorem evs_setLc {i : Nat} {y : Str} {py : Pos} {elt tg iter : Expr} {ifs : List Expr} {scope : Scope} {own : List (Str × Nat)} {pos spos : Pos} {wi : WI} {sl : List Nat} {t : WG} {c : WT} {we : WE} (hN : X.N.Nodup)
    (hi : EvI G W X tg iter wi) (ok : BlkOk X.N X.env.scope scope own)
    (hg : ∀ (s : Shared) (H : Hp) (C : Addr) (cl : List (Str × Addr)) (fp : List Addr), EvG G (X.blk s H scope (compEnvC scope cl C X.env) fp) tg sl t)
    (ht : ∀ (s : Shared) (H : Hp) (C : Addr) (cl : List (Str × Addr)) (fp : List Addr), EvTs G W0 (X.blk s H scope (compEnvC scope cl C X.env) fp) ifs c)
    (he : ∀ (s : Shared) (H : Hp) (C : Addr) (cl : List (Str × Addr)) (fp : List Addr), Ev G W0 (X.blk s H scope (compEnvC scope cl C X.env) fp) elt we) (hc : X.calm = true := by rfl) (hsl : ∀ j ∈ sl, j ∈ own.map (·.2) := by decide)
    (hy : X.N[i]? = some y := by rfl) (hyl : X.env.scope.names.lookup y = some .local := by rfl) (hsw : swapsWith (.ListComp elt [⟨tg, iter, ifs, 0⟩] scope pos) (some (.Name y py)) spos.line X.env = pure true := by exact sw_true rfl rfl rfl (by decide +kernel))
    (hs : ∀ x, foldedSetIterable iter X.env x = pure x := by intro _; rfl) : EvS G W X (.Assign [.Name y py] (.ListComp elt [⟨tg, iter, ifs, 0⟩] scope pos) spos) (wSet i (wLc (own.map (·.2)) wi t c we)) :=
  ⟨PS.imp (ps_setLc hc hN hy hyl hsw hi.pi ok (fun s H C cl fp => (hg s H C cl fp).pg) (fun s H C cl fp => (ht s H C cl fp).pt) (fun s H C cl fp => (he s H C cl fp).pe) hs) fun D σ H q => by
    obtain ⟨C, dk, F, env, P, rfl, o, hw, f⟩ := q
    exact L.lc hsl o hw ⟨fun r e v H' F' p s l o' k => by
      obtain ⟨F2, o2⟩ := k.store i o'
      exact f.nx _ _ _ _ _ p o2, fun x e c d H' F' p _ _ o' q _ => f.ex x e c d σ H' F' dk p o' q⟩⟩
end
end Dl

namespace Dl
open PySem PySem.Spec PyProof.Rows L2
/-! ### calls by names -/
structure EvK (G : DG) (W : WX) (X : Cx) (kws : List Keyword) (ws : List WE) : Prop where
  pk : PK X kws (LA G W ws)
theorem PK.imp {X : Cx} {es : List Keyword} {t u : TA} (h : PK X es t) (i : ∀ σ H Q, u σ H Q → t σ H Q) : PK X es u := ⟨fun pos pins s σ H Q I q => h.run pos pins s σ H Q I (i σ H Q q)⟩
section
variable {G : DG} {W : WX} {X : Cx}
theorem evk_nil : EvK G W X [] [] := ⟨PK.imp pk_nil fun σ H Q h => by
  obtain ⟨C, dk, F, env, P, Ex, e, o, h1, f1, f2⟩ := h
  exact f1 _ _ _ _ _ h1 rfl (Sub.refl F) (EnLe.refl _) o trivial⟩
theorem evk_cons {e : Expr} {nm : Option Str} {kpos : Pos} {es : List Keyword} {w : WE} {ws : List WE} (h : Ev G W X e w) (hr : EvK G W X es ws) : EvK G W X (⟨nm, e, kpos⟩ :: es) (w :: ws) := by
  refine ⟨PK.imp (pk_cons h.pe hr.pk) fun σ H Q q => ?_⟩
  obtain ⟨C, dk, F, env, P, Ex, rfl, o, h1, f1, f2⟩ := q
  refine ⟨C, dk, F, env, fun r e => wA ws e (fun rs e' => P (r.calm :: rs) e') Ex, Ex, rfl, o, h1, fun r env1 v H1 F1 p s1 l1 o1 k1 => ?_, f2⟩
  obtain ⟨F2, s2, o2, k2, st⟩ := k1.calmed o1
  have s12 := s1.trans s2
  refine ⟨C, dk, F2, env1, fun rs e' => P (r.calm :: rs) e', Ex, rfl, o2, p, fun rs env3 vs H3 F3 p3 n3 s3 l3 o3 k3 => ?_, fun x env' cls d H' F' p' s' l' o' k' => f2 x env' cls d H' F' p' (s12.trans s') (l1.trans l') o' k'⟩
  exact f1 _ _ _ _ _ p3 (congrArg Nat.succ n3) (s12.trans s3) (l1.trans l3) o3 ⟨⟨st, k2.keep st s3 l3⟩, k3⟩
/-- by the places idx -/
def prm {α : Type} (idx : List Nat) (l : List α) : List α := idx.filterMap fun i => l[i]?
theorem ROks.at {C : DC} {dk : Dk} {σ : L2.St} {H F : Hp} {env : En} : ∀ {rs : List R} {vs : List V} (i : Nat), ROks C dk σ H F env rs vs → (rs[i]? = none ∧ vs[i]? = none) ∨ ∃ r v, rs[i]? = some r ∧ vs[i]? = some v ∧ r.still ∧ ROk C dk σ H F env r v
  | [], [], _, _ => .inl ⟨rfl, rfl⟩
  | r :: rs, v :: vs, 0, h => .inr ⟨r, v, rfl, rfl, h.1.1, h.1.2⟩
  | r :: rs, v :: vs, i + 1, h => by
    rcases ROks.at i h.2 with ⟨a, b⟩ | ⟨r', v', a, b, c⟩
    · exact .inl ⟨by simpa using a, by simpa using b⟩
    · exact .inr ⟨r', v', by simpa using a, by simpa using b, c⟩
  | [], _ :: _, _, h => h.elim
  | _ :: _, [], _, h => h.elim
theorem ROks.prm {C : DC} {dk : Dk} {σ : L2.St} {H F : Hp} {env : En} {rs : List R} {vs : List V} (h : ROks C dk σ H F env rs vs) : ∀ idx : List Nat, ROks C dk σ H F env (prm idx rs) (prm idx vs)
  | [] => trivial
  | i :: idx => by
    unfold Dl.prm
    rcases ROks.at i h with ⟨a, b⟩ | ⟨r, v, a, b, c⟩
    · rw [List.filterMap_cons, List.filterMap_cons, a, b]; exact ROks.prm h idx
    · rw [List.filterMap_cons, List.filterMap_cons, a, b]; exact ⟨c, ROks.prm h idx⟩
theorem vals_at : ∀ {vs : List V} {us : List Value} (i : Nat), Vals vs us → (vs[i]? = none ∧ us[i]? = none) ∨ ∃ v u, vs[i]? = some v ∧ us[i]? = some u ∧ RelV v u
  | [], [], _, _ => .inl ⟨rfl, rfl⟩
  | v :: vs, u :: us, 0, .cons r _ => .inr ⟨v, u, rfl, rfl, r⟩
  | v :: vs, u :: us, i + 1, .cons _ t => by
    rcases vals_at i t with ⟨a, b⟩ | ⟨r', v', a, b, c⟩
    · exact .inl ⟨by simpa using a, by simpa using b⟩
    · exact .inr ⟨r', v', by simpa using a, by simpa using b, c⟩
theorem Vals.prm {vs : List V} {us : List Value} (h : Vals vs us) : ∀ idx : List Nat, Vals (prm idx vs) (prm idx us)
  | [] => .nil
  | i :: idx => by
    unfold Dl.prm
    rcases vals_at i h with ⟨a, b⟩ | ⟨r, v, a, b, c⟩
    · rw [List.filterMap_cons, List.filterMap_cons, a, b]; exact Vals.prm h idx
    · rw [List.filterMap_cons, List.filterMap_cons, a, b]; exact .cons c (Vals.prm h idx)
theorem prm_len {α : Type} {l : List α} : ∀ {idx : List Nat}, (∀ i ∈ idx, i < l.length) → (prm idx l).length = idx.length
  | [], _ => rfl
  | i :: idx, h => by
    unfold prm
    have hi := h i List.mem_cons_self
    rw [List.filterMap_cons, List.getElem?_eq_getElem hi]
    exact congrArg Nat.succ (prm_len fun j hj => h j (List.mem_cons_of_mem _ hj))
def wCallK (f : FSem) (idx : List Nat) (ws : List WE) : WE := fun env P Ex => wA ws env (fun rs e => f ((prm idx rs).map argOf) (fun t => match t with
  | .deck => False
  | t => P t (if t.flat = true then e else holdAll (prm idx rs) e)) fun x => Ex x (holdAll (prm idx rs) e)) Ex
variable {x : Str} {p pos : Pos} {kws : List Keyword} {ws : List WE} {st : Stmt} {k : Nat} {ps ks : List Str} {f : FSem} {idx : List Nat}
/-- f(k = e, ..) -/
theorem ev_callK (D : Fg X.prog X.w G X.base x st k ps f) (c : Ctx0 G X) (tk : Takes X W) (hr : Room k X.A) (ha : EvK G W X kws ws)
    (hb : ∀ (kV doc pm : Value) (an : Option Addr) (cdv ct : Value) (us : List Value), us.length = ks.length → bindArgs (PySem.W.fnOf x x (defArgs st) (defBody st) (defScope st) .none kV doc pm an cdv ct) ⟨[], ks.zip us⟩ = pure (ps.zip (prm idx us)))
    (hlen : ws.length = ks.length := by rfl) (hidx : ∀ i ∈ idx, i < ks.length := by decide) (hps : idx.length = ps.length := by rfl) (hg : Gl X x := by rfl) (hd : (x == ("__debug__" : Str)) = false := by decide)
    (hall : (backToKw pos (keywordEach kws X.env)).all (·.1.isSome) = true := by rfl) (hks : (backToKw pos (keywordEach kws X.env)).filterMap (·.1) = ks := by rfl)
    (hpl : ((backTo pos (starEach [] X.env)).any (·.1) || (backToKw pos (keywordEach kws X.env)).any (·.1.isNone)) = false := by rfl) : Ev G W X (.Call (.Name x p) [] kws pos) (wCallK f idx ws) := by
  obtain ⟨a, fd, hm, Fn, run⟩ := D.ex
  refine ⟨⟨fun pins s σ H Q I q => ?_⟩⟩
  obtain ⟨C, dk, F, env, P, Ex, hC, o, hw, fin⟩ := q.fin
  subst hC
  have hk : PySem.W.keepIn X.K (.ref a) = true := by rw [c.K]; exact Fn.kp
  refine wpAny_Call_Name_kw (ld_glob I hg (by rw [c.mg]; exact hm) ?_ hd)
  have q2 : LA C.g W ws σ H fun vs H1 => vs.length = ks.length ∧ spOf C.g f (prm idx vs) H1 Q (L2.WE W σ) :=
    L.args (Q := Q) (P := P) (Ex := Ex) (g := fun rs e P Ex => f ((prm idx rs).map argOf) (fun t => match t with
      | .deck => False
      | t => P t (if t.flat = true then e else holdAll (prm idx rs) e)) fun x => Ex x (holdAll (prm idx rs) e)) o hw fin fun rs vs H1 F1 env1 n1 o1 k1 h1 f1 =>
        ⟨by rw [← k1.len, n1]; exact hlen, L.call (W := W) o1 (k1.prm idx) h1 f1 fun _ _ _ z => z⟩
  refine PySem.W.callWith_KW0 (h₀ := X.base) I.ok.mod.kin hk hall (thn (ha.pk.run pos pins s σ H _ I q2) fun us s1 ⟨vs, H1, I1, rv, hl, hsp⟩ => ⟨I1.kIn, ?_⟩) hpl
  rw [hks]
  have e1 : us.length = ks.length := by rw [← rv.length]; exact hl
  obtain ⟨oc, od, kV, doc, pm, an, cdv, ct, osl, efd, lk, hcd⟩ := Fn.ex
  have bind : BindsTo s1 fd ⟨[], ks.zip us⟩ (ps.zip (prm idx us)) := by rw [efd]; exact BindsTo.of_eq (hb kV doc pm an cdv ct us e1)
  have hl2 : (prm idx vs).length = ps.length := by rw [prm_len fun i hi => by rw [hl]; exact hidx i hi]; exact hps
  exact run_fg (args := ⟨[], ks.zip us⟩) ⟨c.mg, c.K⟩ tk hr c.g run I1 (Vals.prm rv idx) hl2 bind hsp
/-! ### f() -/
def wCall0 (f : FSem) : WE := wCall f []
theorem ev_call0 (D : Fg X.prog X.w G X.base x st k [] f) (c : Ctx0 G X) (tk : Takes X W) (hr : Room k X.A)
    (hb : ∀ (kV doc pm : Value) (an : Option Addr) (cdv ct : Value), bindArgs (PySem.W.fnOf x x (defArgs st) (defBody st) (defScope st) .none kV doc pm an cdv ct) ⟨[], []⟩ = pure [])
    (hg : Gl X x := by rfl) (hd : (x == ("__debug__" : Str)) = false := by decide) : Ev G W X (.Call (.Name x p) [] [] pos) (wCall f []) := by
  obtain ⟨a, fd, hm, Fn, run⟩ := D.ex
  refine ⟨⟨fun pins s σ H Q I q => ?_⟩⟩
  obtain ⟨C, dk, F, env, P, Ex, hC, o, hw, fin⟩ := q.fin
  subst hC
  have hk : PySem.W.keepIn X.K (.ref a) = true := by rw [c.K]; exact Fn.kp
  refine wpAny_Call_Name_kw (ld_glob I hg (by rw [c.mg]; exact hm) ?_ hd)
  refine PySem.W.callWith_K0 I.kIn hk ?_
  obtain ⟨oc, od, kV, doc, pm, an, cdv, ct, osl, efd, lk, hcd⟩ := Fn.ex
  have hw' : f ([] : List R) (fun t => match t with
      | .deck => False
      | t => P t (if t.flat = true then env else holdAll [] env)) fun x => Ex x (holdAll [] env) := hw
  exact run_fg (args := ⟨[], []⟩) (us := []) (vs := []) ⟨c.mg, c.K⟩ tk hr c.g run I .nil rfl (by rw [efd]; exact BindsTo.of_eq (hb kV doc pm an cdv ct)) (L.call (W := W) (rs := []) o trivial hw' fin fun _ _ _ z => z)

/-! ### repr -/
def dRepr : OpN := fun xs P => match xs with
  | [d] => d.showable = true ∧ d.hasDict = false ∧ d.depth ≤ 60 ∧ d.shown.length ≤ sizeLine ∧ P (.d (.str d.shown))
  | _ => False
def rReprD (K : PySem.W.Frag) : List V → Hp → VK → Prop := fun xs H Q => ∃ x d, xs = [x] ∧ Dp K H x d ∧ d.showable = true ∧ d.hasDict = false ∧ d.depth ≤ 60 ∧ d.shown.length ≤ sizeLine ∧ Q (.str d.shown) H
theorem call_reprD (hg : X.A.guards = some []) (hu : X.A.units + 65 < cLine) : CallR X (.builtin "repr") (rReprD X.K) := by
  intro pins s σ H xs us Q I r h
  obtain ⟨x, d, rfl, hd, hs, hn, hdp, hz, q⟩ := h
  obtain ⟨u, rfl, rx⟩ := vals1 r
  obtain ⟨as, rd⟩ := Dp.reads I d x u hd rx
  cases u with
  | ref a =>
    exact repr_of_reads' rd hs (PyData.noDict_hsm hn) hg (by omega) (fun _ _ e => e) (fun h' u' tk kk => ⟨.str d.shown, H, I.kept (t' := tk) kk, ⟨_, rfl⟩, q⟩) hz
  | none => cases rd; exact PySem.P.repr_of_none ⟨.str _, H, I.tok _, ⟨_, rfl⟩, q⟩
  | bool b => cases rd; exact PySem.P.repr_of_bool ⟨.str _, H, I.tok _, ⟨_, rfl⟩, q⟩
  | int i t =>
    cases rd
    have hs' : decide (i.natAbs.log2 < 1920) = true := hs
    exact PySem.P.repr_of_int (of_decide_eq_true hs') ⟨.str _, H, I.tok _, ⟨_, rfl⟩, q⟩
  | str z t => cases rd; exact PySem.P.repr_of_str ⟨.str _, H, I.tok _, ⟨_, rfl⟩, q⟩ hz
  | _ => cases rd
theorem snd_repr : SndN G (rReprD G.K) dRepr := by
  intro C hC dk σ H F env rs vs xs Q P o k e h q
  subst hC
  match xs, h with
  | [d], h =>
    obtain ⟨r, v, rfl, rfl, k1, e1⟩ := k.one e
    exact ⟨v, d, rfl, (k1.dp o e1).dp, h.1, h.2.1, h.2.2.1, h.2.2.2.1, q _ _ _ _ h.2.2.2.2 (Sub.refl F) o (Dq.str _)⟩
variable {e : Expr} {es : List Expr}
theorem ev_repr (c : Ctx0 G X) (hm : X.mg "repr" = none) (ha : EvA G W X (e :: es) ws) (hg : Gl X "repr" := by rfl)
    (he : starEach (e :: es) X.env = (false, eval e X.env) :: starEach es X.env := by rfl) (hpl : (backTo pos (starEach es X.env)).any (·.1) = false := by rfl) : Ev G W X (.Call (.Name "repr" p) (e :: es) [] pos) (wB dRepr ws) :=
  ev_callB (by have := call_reprD c.g c.un; rw [c.K] at this; exact this) snd_repr hm (by decide +kernel) ha hg (by decide) (by decide) he hpl
end
end Dl

namespace Dl
open PySem PySem.Spec PyProof.Rows L2
/-! ### a def by its data -/
def slOf : R → Sl
  | .d x => .d x
  | .deck => .deck
  | .opq v => .opq v
  | _ => .no
def startE (N : List Str) (us : List R) : En := us.map slOf ++ List.replicate (N.length - us.length) .no
theorem ArgsOk.at {g : DG} {dk : Dk} {F : Hp} : ∀ {us : List R} {vs : List V} {i : Nat} {r : R}, ArgsOk g dk F us vs → us[i]? = some r → ∃ v, vs[i]? = some v ∧ (match r with
    | .d x => Dq g.K F v x
    | .deck => ∃ da dl, dk = some (da, dl) ∧ v = .ref da
    | .opq y => v = y
    | _ => False)
  | r :: us, v :: vs, 0, _, h, e => ⟨v, rfl, by cases e; exact h.1⟩
  | r :: us, v :: vs, i + 1, r', h, e => by
    obtain ⟨v', e1, k⟩ := ArgsOk.at (i := i) h.2 (by simpa using e)
    exact ⟨v', by simpa using e1, k⟩
  | [], _, _, _, _, e => by simp at e
  | _ :: _, [], _, _, h, _ => h.elim
/-- the ends of a def's body -/
def rtP (P : R → Prop) : R → Prop
  | .deck => False
  | r => P r
def bodyP (P : R → Prop) (Ex : Exn → Prop) : Pd := ⟨fun _ => P (.d .none), rtP P, fun _ => False, fun _ => False, fun x _ => Ex x⟩
theorem start_at {N : List Str} {vs : List V} {i : Nat} (hi : i < vs.length) : gt (L2.start N vs) i = vs[i]? := by
  unfold gt L2.start
  rw [List.getElem?_append_left (by rw [List.length_map]; exact hi), List.getElem?_map, List.getElem?_eq_getElem hi]
  rfl
theorem body_run {g : DG} {N : List Str} {f : FSem} {vs : List V} {H : Hp} {Q : VK} {E : XK} {wb : WS} (hN : vs.length ≤ N.length) (hf : ∀ us P Ex, f us P Ex → wb (startE N us) (bodyP P Ex)) (h : spOf g f vs H Q E) :
    LS g (fun cls d _ H => E cls d H) wb { nx := fun _ H' => Q .non H', rt := Q } (L2.start N vs) H := by
  obtain ⟨F, dk, us, sF, dO, aO, P, Ex, hfu, hP, hE⟩ := h
  have lu : us.length = vs.length := ArgsOk.len aO
  have aft : ∀ {dk1 : Dk} {σ1 : L2.St} {H1 F1 : Hp} {env1 : En}, Ok ⟨g, H, F, dk⟩ dk1 σ1 H1 F1 env1 → Aft g dk H F H1 F1 := fun {dk1 σ1 H1 F1 env1} o => by
    refine ⟨o.f0, o.sub, fun a u e z => o.fnew a u e z, fun a u e z => o.base a u e z, ?_⟩
    rcases o.dkr with q | ⟨q, _⟩
    · have := o.deck
      rw [q] at this
      exact this
    · have q' : dk = none := q
      rw [q']
      trivial
  refine ⟨⟨g, H, F, dk⟩, dk, F, startE N us, bodyP P Ex, rfl, ⟨sF, ?_, fun i s e => ?_, fun i j c c' p e _ _ _ => ?_, dO, fun a u e _ => e, fun a u e z => ?_, Sub.refl F, .inl rfl⟩, hf us P Ex hfu, ⟨fun env σ H1 F1 dk1 p o => ?_, fun _ _ _ _ _ p _ => p.elim, fun _ _ _ _ _ p _ => p.elim, fun r v env σ H1 F1 dk1 p o k => ?_, fun x env cls d σ H1 F1 dk1 p o k => ?_⟩⟩
  · unfold L2.start startE
    simp [lu]
  · unfold startE at e
    by_cases hi : i < us.length
    · rw [List.getElem?_append_left (by rw [List.length_map]; exact hi), List.getElem?_map] at e
      cases er : us[i]? with
      | none => rw [er] at e; cases e
      | some r =>
        rw [er] at e
        have es : slOf r = s := Option.some.inj e
        obtain ⟨v, ev, k⟩ := ArgsOk.at aO er
        have hg : gt (L2.start N vs) i = some v := by rw [start_at (by omega)]; exact ev
        rw [← es, hg]
        cases r with
        | d x => exact ⟨v, rfl, k⟩
        | deck => obtain ⟨da, dl, e1, e2⟩ := k; exact ⟨da, dl, e1, by rw [e2]⟩
        | opq y => have k' : v = y := k; exact congrArg some k'
        | nw c => exact k.elim
        | bw j c => exact k.elim
    · rw [List.getElem?_append_right (by rw [List.length_map]; omega), List.getElem?_replicate] at e
      by_cases hz : i - (us.map slOf).length < N.length - us.length
      · rw [if_pos hz] at e
        cases e
        trivial
      · rw [if_neg hz] at e; cases e
  · unfold startE at e
    by_cases hi : i < us.length
    · rw [List.getElem?_append_left (by rw [List.length_map]; exact hi), List.getElem?_map] at e
      cases er : us[i]? with
      | none => rw [er] at e; cases e
      | some r =>
        rw [er] at e
        have es : slOf r = .own c := Option.some.inj e
        cases r <;> cases es
    · rw [List.getElem?_append_right (by rw [List.length_map]; omega), List.getElem?_replicate] at e
      by_cases hz : i - (us.map slOf).length < N.length - us.length
      · rw [if_pos hz] at e; cases e
      · rw [if_neg hz] at e; cases e
  · have z' : F a = none := z
    rw [z'] at e; cases e
  · exact hP (.d .none) .non H1 F1 p (aft o) Dq.non
  · cases r with
    | d x => exact hP (.d x) v H1 F1 p (aft o) k
    | nw c =>
      obtain ⟨a, rfl, k1⟩ := k
      refine hP (.nw c) _ H1 F1 p (aft o) ⟨a, rfl, k1.nf, k1.nb, ?_, k1.at_⟩
      rcases o.dkr with q | ⟨q, _⟩
      · have := k1.off
        rw [q] at this
        exact this
      · have q' : dk = none := q
        rw [q']
        exact fun _ _ z => by cases z
    | bw i c => exact k.elim
    | deck => exact False.elim p
    | opq y => exact hP (.opq y) v H1 F1 p (aft o) k
  · exact hE x cls d H1 F1 p (aft o) k
section
variable {P : Program} {w : World} {g : DG} {base : Heap} {x : Str} {st : Stmt} {k : Nat} {ps N : List Str} {f : FSem} {a : Addr} {fd : FuncData} {wb : WS}
/-- what is known where a def's body runs -/
structure Bc (P : Program) (w : World) (g : DG) (base : Heap) (k : Nat) (W : WX) (X : Cx) : Prop where
  c : Ctx0 g X
  r : Room k X.A
  t : Takes X W
  p : PassesOwn (model X.prog X.w) X.A X.env X.xe
  pr : X.prog = P
  w : X.w = w
  b : X.base = base
theorem fg_dl (hm : g.mg x = some (.ref a)) (F : L2.Fun g.K x x st a fd) (S : FnScope N ps (defScope st))
    (hb : ∀ (cdv : Value) (A : Around) (outer : List Env) (s : Shared) (H : Hp) (E : XK), Bc P w g base k (fun cls d _ H => E cls d H) (cxOf (L2.CX P w) P w g.K g.mg base N x (defScope st) a cdv A outer s H E) → EvB g (fun cls d _ H => E cls d H) (cxOf (L2.CX P w) P w g.K g.mg base N x (defScope st) a cdv A outer s H E) (defBody st) wb)
    (hf : ∀ us P Ex, f us P Ex → wb (startE N us) (bodyP P Ex)) : Fg P w g base x st (k + 1) ps f := by
  refine fg_of hm F S fun cdv A outer s H vs Q E hr hg hl hsp => ?_
  refine ⟨_, (hb cdv A outer s H E ⟨⟨rfl, rfl, ?_, hg⟩, hr, takes_of rfl rfl rfl rfl, passes_of rfl, rfl, rfl, rfl⟩).ps, body_run ?_ hf hsp⟩
  · have := hr.un
    show (A.deeper _).units + 65 < cLine
    omega
  · have := congrArg List.length S.pre
    rw [List.length_take] at this
    omega
end
/-! contexts of blocks, of a try's body -/
section
variable {G : DG} {X : Cx} {P : Program} {w : World} {base : Heap} {k : Nat} {W : WX}
theorem Ctx0.blk (c : Ctx0 G X) {s : Shared} {H : Hp} {sc : Scope} {ce : Env} {fp : List Addr} : Ctx0 G (X.blk s H sc ce fp) := ⟨c.K, c.mg, c.un, c.g⟩
theorem Ctx0.tr (c : Ctx0 G X) {pn : List (Addr × Obj)} {xe : Value → Shared → Prop} : Ctx0 G (X.tr pn xe) := ⟨c.K, c.mg, c.un, c.g⟩
/-- .. of an expression -/
structure Bx (P : Program) (w : World) (g : DG) (base : Heap) (k : Nat) (W : WX) (X : Cx) : Prop where
  c : Ctx0 g X
  r : Room k X.A
  t : Takes X W
  pr : X.prog = P
  w : X.w = w
  b : X.base = base
theorem Bc.bx (c : Bc P w G base k W X) : Bx P w G base k W X := ⟨c.c, c.r, c.t, c.pr, c.w, c.b⟩
theorem Bx.blk (c : Bx P w G base k W X) {s : Shared} {H : Hp} {sc : Scope} {ce : Env} {fp : List Addr} : Bx P w G base k W0 (X.blk s H sc ce fp) := ⟨c.c.blk, c.r, takes0, c.pr, c.w, c.b⟩
theorem Bc.tr (c : Bc P w G base k W X) {W' : WX} {pn : List (Addr × Obj)} {xe : Value → Shared → Prop} (t : Takes (X.tr pn xe) W') (p : PassesOwn (model X.prog X.w) X.A X.env xe) : Bc P w G base k W' (X.tr pn xe) := ⟨c.c.tr, c.r, t, p, c.pr, c.w, c.b⟩
/-- a, b, c = x, y, z with plain local names -/
def wPar3 (i j l : Nat) (wa wb wc : WE) : WS := fun env P => wA [wa, wb, wc] env (fun rs e => match toDs rs with
  | some [x, y, z] => P.nx ((((holdAll rs e).set i (.d x)).set j (.d y)).set l (.d z))
  | _ => False) P.ex
theorem evs_par3 {i j l : Nat} {x y z : Str} {a b c : Expr} {wa wb wc : WE} {px py pz pt pos : Pos} {kt k2 pt2} (hN : X.N.Nodup) (h : EvA G W X [a, b, c] [wa, wb, wc]) (hc : X.calm = true := by rfl) (hi : X.N[i]? = some x := by rfl) (hj : X.N[j]? = some y := by rfl) (hl : X.N[l]? = some z := by rfl)
    (hij : i ≠ j := by decide) (hil : i ≠ l := by decide) (hjl : j ≠ l := by decide) (hx : X.env.scope.names.lookup x = some .local := by rfl) (hy : X.env.scope.names.lookup y = some .local := by rfl) (hz : X.env.scope.names.lookup z = some .local := by rfl)
    (hw : swappedStores [.Tuple [.Name x px, .Name y py, .Name z pz] kt pt] (.Tuple [a, b, c] k2 pt2) X.env = pure (some [x, y, z]) := by rfl)
    (hs : swapsWithSole [.Tuple [.Name x px, .Name y py, .Name z pz] kt pt] (.Tuple [a, b, c] k2 pt2) pos.line X.env = pure false := by rfl) :
    EvS G W X (.Assign [.Tuple [.Name x px, .Name y py, .Name z pz] kt pt] (.Tuple [a, b, c] k2 pt2) pos) (wPar3 i j l wa wb wc) := ⟨PS.imp (ps_par3 hc hN hi hj hl hij hil hjl hx hy hz h.pa hw hs) fun D σ H q => by
  obtain ⟨C, dk, F, env, P, rfl, o, hw, f⟩ := q
  refine ⟨C, dk, F, env, _, P.ex, rfl, o, hw, fun rs e vs H' F' p n s l' o' k => ?_, fun x e c d H' F' p _ _ o' q => f.ex x e c d σ H' F' dk p o' q⟩
  cases zz : toDs rs with
  | none => rw [zz] at p; exact p.elim
  | some xs =>
    rw [zz] at p
    match xs, p with
    | [x, y, z], p =>
      obtain ⟨F2, s2, o2, l2, k2⟩ := k.held o' zz
      match vs, k2 with
      | [v1, v2, v3], .cons q1 (.cons q2 (.cons q3 .nil)) =>
        have o3 := o2.store (i := i) (s := .d x) ⟨_, rfl, q1⟩ fun c e => by cases e
        have o4 := o3.store (i := j) (s := .d y) ⟨_, rfl, q2⟩ fun c e => by cases e
        have o5 := o4.store (i := l) (s := .d z) ⟨_, rfl, q3⟩ fun c e => by cases e
        exact ⟨v1, v2, v3, rfl, f.nx _ _ _ _ _ p o5⟩⟩
end
end Dl

namespace Dl
open PySem PySem.Spec PyProof.Rows L2

/-! ### a law's end, guards told -/
/-- what a law's def must do where the claim calls it -/
def LawRun (P : Program) (w : World) (K : PySem.W.Frag) (mg : Str → Option Value) (base : Heap) (fa a : Addr) (ns : List Int) : Prop :=
  ∀ (s : Shared) (H : Hp), Env0 P w K mg base callerA [] s H → Only H → SqL K H a (ns.map V.int) → codeAny (model P w) callerA (.call (.ref fa) ⟨[.ref a], []⟩) (CR (L2.CX P w) [] P w H s (fun v _ => v = .bl true) fun _ _ _ => False) s
/-- what is known of the script's object -/
def scrObj (vals : List Value) : Obj := { cls := .type "list", data := .seq vals.toArray }
section
variable {P : Program} {w : World} {K : PySem.W.Frag} {mg mb : Str → Option Value} {fa a : Addr} {s1 : Shared} {vals : List Value} {ns : List Int}
/-- the end of the law's call, from an abstract heap that tracks the script at most -/
theorem law_core (kin : K.In s1.heap) (ng : s1.heap.Ns mainGlobals mg) (nb : s1.heap.Ns builtinsNs mb) (eb : ∀ x : Str, x ≠ "__name__" → mb x = bootBuiltins x) (nl : s1.heap.NoLimit) (gens0 : s1.gens = #[]) (obj : s1.heap.get? a = some (scrObj vals))
    (run : ∀ base : Heap, K.In base → base.Ns mainGlobals mg → LawRun P w K mg base fa a ns) {H : Hp} (only : Only H) (sq : SqL K H a (ns.map V.int)) (hok : HOk P w H s1.heap) (at_a : ∀ c, H c ≠ none → c = a) (out : H a ≠ none → K.lookup a = none) :
    codeAny (model P w) callerA (.call (.ref fa) ⟨[.ref a], []⟩) (fun r s2 => r = .ok (.ret (.bool true)) ∧ OldK s1.heap s2.heap ∧ s2.os = s1.os ∧ AllBare s2.gens) s1 := by
  have at_b : ∀ {c : Addr} {o : Obj}, s1.heap.get? c = some o → H c = none → (hidT s1.heap H).get? c = some o := fun e z => hidT_get e z
  have dict_free : ∀ {c : Addr} {o : Obj} {es : Array DictEntry} {n : Nat}, s1.heap.get? c = some o → o.data = .dict es n → H c = none := by
    intro c o es n e d
    cases z : H c with
    | none => rfl
    | some u =>
      have ec := at_a c (by rw [z]; exact fun y => nomatch y)
      rw [ec, obj] at e
      have eo := Option.some.inj e
      rw [← eo] at d
      exact nomatch d
  have nsB : ∀ {c : Addr} {m : Str → Option Value}, s1.heap.Ns c m → (hidT s1.heap H).Ns c m := by
    rintro c m ⟨o, es, n, e, d, rest⟩
    exact ⟨o, es, n, at_b e (dict_free e d), d, rest⟩
  have kinB : K.In (hidT s1.heap H) := by
    intro c o e
    refine at_b (kin c o e) ?_
    cases z : H c with
    | none => rfl
    | some u =>
      have ec := at_a c (by rw [z]; exact fun y => nomatch y)
      have nk := out (by rw [← ec, z]; exact fun y => nomatch y)
      rw [ec, nk] at e
      exact nomatch e
  obtain ⟨ml, l1, l2⟩ := id nl
  have env : Env0 P w K mg (hidT s1.heap H) callerA [] s1 H := ⟨rfl, ⟨kinB, nsB ng, ⟨mb, nsB nb, eb⟩, ⟨ml, nsB l1, l2⟩⟩, fun c o e => of_hidT e, Nat.le_of_eq (hidT_size _ _), trivial, fun c hc => (List.not_mem_nil hc).elim, hok, .of_eq gens0⟩
  refine codeAny_mono (run _ kinB (nsB ng) s1 H env only sq) fun r s2 z => ?_
  cases r with
  | error e =>
    obtain ⟨_, _, _, _, _, _, _, _, _, _, _, _, bad⟩ := z
    exact bad.elim
  | ok fl =>
    cases fl with
    | ret u =>
      obtain ⟨v, H2, os2, bare2, un, hok2, rel, ev⟩ := z
      obtain rfl : v = .bl true := ev
      obtain rfl : u = Value.bool true := rel
      refine ⟨rfl, OldK.of_keep fun c o e => ?_, os2, bare2⟩
      cases hc : H c with
      | none => exact un.keep c o e hc (fun y => (List.not_mem_nil y).elim) (by simp)
      | some u =>
        rcases only c with q | ⟨ob, xs, q⟩
        · rw [hc] at q; exact nomatch q
        · obtain ⟨y1, _⟩ := hok c _ q
          obtain ⟨y2, _⟩ := hok2 c _ (un.frzs c ob _ q)
          have eo : o = ob := Option.some.inj (e.symm.trans y1)
          rw [eo]
          exact y2
    | _ => exact False.elim z
theorem law_end (kin : K.In s1.heap) (ng : s1.heap.Ns mainGlobals mg) (nb : s1.heap.Ns builtinsNs mb) (eb : ∀ x : Str, x ≠ "__name__" → mb x = bootBuiltins x) (nl : s1.heap.NoLimit) (gens0 : s1.gens = #[]) (obj : s1.heap.get? a = some (scrObj vals)) (hin : IntsAre vals ns) (few : ns.length ≤ sizeLine)
    (run : ∀ base : Heap, K.In base → base.Ns mainGlobals mg → LawRun P w K mg base fa a ns) : codeAny (model P w) callerA (.call (.ref fa) ⟨[.ref a], []⟩) (fun r s2 => r = .ok (.ret (.bool true)) ∧ OldK s1.heap s2.heap ∧ s2.os = s1.os ∧ AllBare s2.gens) s1 := by
  have rel := vals_ints hin
  have len := hin.length
  cases hk : K.lookup a with
  | some o =>
    have e : scrObj vals = o := Option.some.inj (obj.symm.trans (kin a o hk))
    refine law_core kin ng nb eb nl gens0 obj run (H := fun _ => none) (fun _ => .inl rfl) (.inr ⟨o, vals.toArray, 0, hk, by rw [← e]; rfl, by rw [← e]; rfl, by rw [← e]; rfl, by rw [List.size_toArray, len]; exact few, rel⟩) (fun c u z => nomatch z) (fun c z => (z rfl).elim) fun z => (z rfl).elim
  | none =>
    have yes : (fun c => if c = a then some (HO.frz (scrObj vals) (.lst (ns.map V.int))) else none) a = some (HO.frz (scrObj vals) (.lst (ns.map V.int))) := if_pos rfl
    have no : ∀ {c : Addr}, c ≠ a → (fun c => if c = a then some (HO.frz (scrObj vals) (.lst (ns.map V.int))) else none) c = none := fun h => if_neg h
    refine law_core kin ng nb eb nl gens0 obj run (H := fun c => if c = a then some (.frz (scrObj vals) (.lst (ns.map V.int))) else none) (fun c => ?_) (.inl (.inr ⟨scrObj vals, yes⟩)) (fun c u z => ?_) (fun c z => ?_) fun _ => hk
    · by_cases hc : c = a
      · rw [hc]; exact .inr ⟨_, _, yes⟩
      · exact .inl (no hc)
    · by_cases hc : c = a
      · subst hc
        have eu := Option.some.inj (yes.symm.trans z)
        rw [← eu]
        exact ⟨obj, by rw [List.length_map]; exact few, vals, _, rel, obj⟩
      · exact nomatch (no hc).symm.trans z
    · by_cases hc : c = a
      · exact hc
      · exact (z (no hc)).elim
end
/-- the law of a head by facts -/
theorem walk_law {l : PySem.W.OpenLaw} {n : Nat} {q : Program} {loose : List Str} {XP : (Str → Option Value) → Heap → Prop} {YP : World → Heap → Prop} {d : DefRec} (hn : l.most = some n) (hn2 : n ≤ sizeLine) (hdf : d.params.defaults = [])
    (F : ∀ (w : World) (mg : Str → Option Value) (fa : Addr) (h : Heap), YP w h → h.Ns mainGlobals mg → mg d.name = some (.ref fa) → ∃ K : PySem.W.Frag, K.In h ∧ ∀ (a : Addr) (ns : List Int), ns.length ≤ n → ∀ base : Heap, K.In base → base.Ns mainGlobals mg → LawRun l.prog w K mg base fa a ns) :
    PySem.W.WalkO q loose XP YP l.row.toRowW d [] (fun f vs => PySem.call f vs) := by
  refine Att.attach_call hn hdf fun w s0 s1 mg mb fa o pm cd doc a vals ns G Y ho hd hcd hmg hobj hints hlen hg => ?_
  obtain ⟨K, kin, run⟩ := F w mg fa _ Y G.T.g hmg
  exact law_end kin G.T.g G.T.b G.T.builtins G.T.nolimit hg hobj hints (Nat.le_trans hlen hn2) (run a ns hlen)
end Dl

namespace Dl
open PySem PySem.Spec PyProof.Rows L2

/-! ### a number drawn: any one below many -/
def drawOk (n r : Int) : Prop := 0 ≤ r ∧ (r < n ∨ r = 0)
/-- how great a number may be drawn below -/
abbrev drawMax : Int := 2 ^ 8000
def sDraw : FSem := fun us P _ => ∃ n : Int, us = [.deck, .d (.int n)] ∧ n < drawMax ∧ ∀ r, drawOk n r → P (.d (.int r))
theorem divC_small {i j : Int} (h : 0 < j) (h2 : j < drawMax) : DivC i j := by
  refine ⟨by omega, PyProof.noPylong_of_log2 ?_⟩
  have h3 : j.natAbs < 2 ^ 8000 := by
    have : (j.natAbs : Int) < 2 ^ 8000 := by rw [Int.natAbs_of_nonneg (by omega)]; exact h2
    exact_mod_cast this
  have : j.natAbs.log2 < 8000 := (Nat.log2_lt (by omega)).mpr h3
  omega
theorem mulC_l {i j : Int} (h : i.natAbs < 18446744073709551616) : MulC i j := CMul.ok (.inl ⟨by omega, by omega⟩)
theorem mulC_r {i j : Int} (h : j.natAbs < 18446744073709551616) : MulC i j := CMul.ok (.inr ⟨by omega, by omega⟩)
theorem fmod_bd (i : Int) {j : Int} (h : 0 < j) : 0 ≤ i.fmod j ∧ i.fmod j < j := by
  rw [Int.fmod_eq_emod_of_nonneg i (by omega)]
  exact ⟨Int.emod_nonneg i (by omega), Int.emod_lt_of_pos i h⟩
theorem fdiv_nn {i j : Int} (h : 0 ≤ i) (h2 : 0 < j) : 0 ≤ i.fdiv j := by
  rw [Int.fdiv_eq_ediv_of_nonneg i (by omega)]
  exact Int.ediv_nonneg h (by omega)

/-! ### raw readings -/
abbrev tS (x : String) : TE := tC (.str (Str.ofString x))
abbrev rAddI : R2 := rI0 fun i j => .int (i + j)
abbrev rMulI : R2 := rI MulC fun i j => .int (i * j)
abbrev rModI : R2 := rI (fun _ j => j ≠ 0) fun i j => .int (i.fmod j)
abbrev rDivI : R2 := rI DivC fun i j => .int (i.fdiv j)
abbrev rLtI : R2 := rI0 fun i j => .bl (decide (i < j))
abbrev rToInt : List V → Hp → VK → Prop := fun xs H Q => (∃ i, xs = [.int i] ∧ Q (.int i) H) ∨ ∃ k, xs = [.bl k] ∧ Q (.int (if k then 1 else 0)) H
section
variable {σ : L2.St} {H : Hp} {ta tb : TE} {i j : Int} {a : Addr} {kvs : List (Key × V)} {k : Key} {v : V}
theorem v_add (ha : Val ta σ H (.int i)) (hb : Val tb σ H (.int j)) : Val (tOp rAddI ta tb) σ H (.int (i + j)) := val_op ha hb fun Q q => ⟨_, _, rfl, rfl, q⟩
theorem v_mul (ha : Val ta σ H (.int i)) (hb : Val tb σ H (.int j)) (c : MulC i j) : Val (tOp rMulI ta tb) σ H (.int (i * j)) := val_op ha hb fun Q q => ⟨_, _, rfl, rfl, c, q⟩
theorem v_mod (ha : Val ta σ H (.int i)) (hb : Val tb σ H (.int j)) (c : j ≠ 0) : Val (tOp rModI ta tb) σ H (.int (i.fmod j)) := val_op ha hb fun Q q => ⟨_, _, rfl, rfl, c, q⟩
theorem v_div (ha : Val ta σ H (.int i)) (hb : Val tb σ H (.int j)) (c : DivC i j) : Val (tOp rDivI ta tb) σ H (.int (i.fdiv j)) := val_op ha hb fun Q q => ⟨_, _, rfl, rfl, c, q⟩
theorem v_int (ha : Val ta σ H (.int i)) : Val (tCB rToInt (tCons ta tNil)) σ H (.int i) := fun Q q => ha _ (.inl ⟨_, rfl, q⟩)
theorem v_get (ha : Val ta σ H (.ref a)) (hb : Val tb σ H (kV k)) (e : H a = some (.dK kvs)) (hv : valV kvs k = some v) : Val (tDGet ta tb) σ H v := fun Q q => ha _ (hb _ ⟨a, v, rfl, by rw [← hv]; exact DGet.k e, q⟩)
theorem v_lt {n : Int} (ha : Val ta σ H (.int i)) (hb : Val tb σ H (.int j)) : Ans (tTest (tOp rLtI ta tb)) σ H (decide (i < j)) := ans_cmp ha hb fun Q q => ⟨i, j, rfl, rfl, q⟩
theorem v_ge (ha : Val ta σ H (.int i)) (hb : Val tb σ H (.int j)) : Ans (tTest (tOp L2.rGe ta tb)) σ H (decide (j ≤ i)) := ans_cmp ha hb fun Q q => ⟨i, j, rfl, rfl, q⟩
end
/-- xs != [] -/
def tNeNil (K : PySem.W.Frag) (ta : TE) : TT := tTest (tOp (rNeD K) ta (tLst tNil))
theorem dp_ints {K : PySem.W.Frag} {H : Hp} : ∀ (gs : List Int), DpAll K H (gs.map V.int) (gs.map PyData.int)
  | [] => .nil
  | g :: gs => .cons (.int g) (dp_ints gs)
theorem shaped_ints (gs : List Int) : SeqAt.shaped (.list (gs.map PyData.int)) = true := by
  induction gs with
  | nil => rfl
  | cons g gs ih => exact ih
theorem a_neNil {K : PySem.W.Frag} {ta : TE} {σ : L2.St} {H : Hp} {a : Addr} {gs : List Int} {Q : Bool → Hp → Prop} (ha : Val ta σ H (.ref a)) (e : H a = some (.lst (gs.map V.int))) (q : ∀ p, H p = none → Q (decide (gs ≠ [])) (upd H p (.lst []))) : tNeNil K ta σ H Q := by
  refine ha _ ⟨by rw [sizeLine_eq]; exact Nat.zero_le _, fun p hp => ?_⟩
  have hne : p ≠ a := fun z => by rw [z, e] at hp; cases hp
  have e2 : upd H p (.lst []) a = some (.lst (gs.map V.int)) := by rw [upd_ne (Ne.symm hne)]; exact e
  refine ⟨.list (gs.map PyData.int), .list [], .lst (SqL.of e2) (dp_ints gs), .lst (SqL.of upd_same) .nil, shaped_ints gs, rfl, _, rfl, ?_⟩
  have : (!PyData.eqv (.list (gs.map PyData.int)) (.list [])) = decide (gs ≠ []) := by
    cases gs with
    | nil => rfl
    | cons g gs => rfl
  rw [this]
  exact q p hp
end Dl

namespace Dl
open PySem PySem.Spec PyProof.Rows L2
/-! ### raw lists of whole numbers, made by for -/
theorem wipe1 (σ : L2.St) (i : Nat) (v : Option V) : wipe ((wipe σ [i]).set i v) [i] = wipe σ [i] := by
  show ((σ.set i none).set i v).set i none = σ.set i none
  rw [List.set_set, List.set_set]
theorem raw_lc {K : PySem.W.Frag} {a D : Addr} {ns : List Int} {f : Int → Int} {keep : Int → Bool} {σ : L2.St} {H1 : Hp} {i : Nat} {tt : TT} {te : TE} {Qd : Hp → Prop} (hs : SqL K H1 a (ns.map V.int)) (hD : H1 D = none) (hl : ns.length < sizeLine)
    (st : ∀ (n : Int) (H : Hp), n ∈ ns → Ans tt ((wipe σ [i]).set i (some (.int n))) H (keep n) ∧ Val te ((wipe σ [i]).set i (some (.int n))) H (.int (f n)))
    (q : ∀ H, H D = some (.lst (((ns.filter keep).map f).map V.int)) → (∀ b o, H1 b = some o → H b = some o) → Qd H) :
    ∃ W : Nat → Nat → Hp → Prop, (∃ m, W 0 m (upd H1 D (.lst []))) ∧ ∀ j m H, W j m H →
      ((Itl K a).stop j H ∧ Qd H) ∨ ((Itl K a).go j H ∧ ∃ Nx : Hp → Prop, (∀ H', Nx H' → ∃ m', m' < m ∧ W (j + 1) m' H') ∧ ∀ x H', (Itl K a).yld j H x H' → gName i x (wipe σ [i]) H' fun σ2 H2 => wipe σ2 [i] = wipe σ [i] ∧ tt σ2 H2 fun b H3 =>
        if b = true then te σ2 H3 fun y H4 => ∃ acc, H4 D = some (.lst acc) ∧ acc.length < sizeLine ∧ Nx (upd H4 D (.lst (acc ++ [y]))) else Nx H3) := by
  have keepD : ∀ {b : Addr} {o : HO}, H1 b = some o → b ≠ D := fun e z => by rw [z, hD] at e; cases e
  refine lc_list (K := K) (a := a) (xs := ns.map V.int) (fun j H => H D = some (.lst ((((ns.take j).filter keep).map f).map V.int)) ∧ ∀ b o, H1 b = some o → H b = some o)
    ⟨by rw [List.take_zero]; exact upd_same, fun b o e => by rw [upd_ne (keepD e)]; exact e⟩ (fun j H _ p => Same.seq p.2 hs) ?_ fun H p => ?_
  · rintro j x H hx ⟨p1, p2⟩
    obtain ⟨n, hn, rfl⟩ : ∃ n, ns[j]? = some n ∧ V.int n = x := by
      rw [List.getElem?_map] at hx
      cases e : ns[j]? with
      | none => rw [e] at hx; cases hx
      | some n => rw [e] at hx; exact ⟨n, rfl, Option.some.inj hx⟩
    have hm : n ∈ ns := List.mem_of_getElem? hn
    have tk : ns.take (j + 1) = ns.take j ++ [n] := by
      rw [List.take_add_one, hn]; rfl
    refine ⟨wipe1 σ i _, (st n H hm).1 _ ?_⟩
    cases kn : keep n with
    | true =>
      rw [if_pos rfl]
      refine (st n H hm).2 _ ⟨_, p1, ?_, ?_, fun b o e => ?_⟩
      · rw [List.length_map, List.length_map]
        exact Nat.lt_of_le_of_lt (Nat.le_trans (List.length_filter_le _ _) (List.length_take_le _ _)) (by
          have : j < ns.length := (List.getElem?_eq_some_iff.mp hn).1
          omega)
      · rw [tk, List.filter_append]
        have : [n].filter keep = [n] := by simp [kn]
        rw [this, List.map_append, List.map_append]
        exact upd_same
      · rw [upd_ne (keepD e)]; exact p2 b o e
    | false =>
      rw [if_neg Bool.false_ne_true]
      refine ⟨?_, p2⟩
      rw [tk, List.filter_append]
      have : [n].filter keep = [] := by simp [kn]
      rw [this, List.append_nil]
      exact p1
  · have e : ns.take (ns.map V.int).length = ns := by rw [List.length_map]; exact List.take_length
    obtain ⟨p1, p2⟩ := p
    rw [e] at p1
    exact q H p1 p2
section
variable {σ : L2.St} {H : Hp} {ta tb : TE} {i j : Int}
abbrev rAbs : List V → Hp → VK → Prop := fun xs H Q => ∃ i, xs = [.int i] ∧ Q (.int (if i < 0 then -i else i)) H
theorem v_abs (ha : Val ta σ H (.int i)) : Val (tCB rAbs (tCons ta tNil)) σ H (.int (i.natAbs : Int)) := fun Q q => ha _ ⟨i, rfl, by rw [natAbs_ite]; exact q⟩
theorem v_intb {b : Bool} (ha : Val ta σ H (.bl b)) : Val (tCB rToInt (tCons ta tNil)) σ H (.int (if b then 1 else 0)) := fun Q q => ha _ (.inr ⟨b, rfl, q⟩)
theorem v_ltb (ha : Val ta σ H (.int i)) (hb : Val tb σ H (.int j)) : Val (tOp rLtI ta tb) σ H (.bl (decide (i < j))) := val_op ha hb fun Q q => ⟨_, _, rfl, rfl, q⟩
abbrev rPowI : R2 := rI CPow fun i j => .int (i ^ j.toNat)
theorem v_pow (ha : Val ta σ H (.int i)) (hb : Val tb σ H (.int j)) (c : CPow i j) : Val (tOp rPowI ta tb) σ H (.int (i ^ j.toNat)) := val_op ha hb fun Q q => ⟨_, _, rfl, rfl, c, q⟩
end
/-- xs[:n] of whole numbers, n not below 0 -/
theorem cutV_take (xs : List V) (n : Nat) : cutV xs none (some (n : Int)) = xs.take n := by
  unfold cutV
  have h0 : HT.sIx xs.length 0 none = 0 := rfl
  have h1 : HT.sIx xs.length xs.length (some (n : Int)) = min n xs.length := by
    simp only [HT.sIx]
    by_cases h : (n : Int) < 0
    · omega
    · simp only [h, if_false]
      omega
  rw [h0, h1, List.drop_zero, Nat.sub_zero]
  by_cases h : n ≤ xs.length
  · rw [Nat.min_eq_left h]
  · rw [Nat.min_eq_right (by omega), List.take_length, List.take_of_length_le (by omega)]
end Dl

namespace Dl
open PySem PySem.Spec PyProof.Rows L2

abbrev kS (x : String) : Key := .inr (Str.ofString x)
abbrev kvA (dl : Addr) (s t : Int) : List (Key × V) := [(kS "great", .ref dl), (kS "stirred", .int s), (kS "turn", .int t)]
def dkiA : Addr → HO → HO → Prop := fun dl o1 o2 => ∃ (s t : Int) (gs : List Int), o1 = .dK (kvA dl s t) ∧ o2 = .lst (gs.map V.int) ∧ 0 ≤ s ∧ s < 4294967296 ∧ (∀ g ∈ gs, (0 : Int) ≤ g) ∧ gs.length ≤ 100
/-- the draw's reading -/
def t_drawA (K : PySem.W.Frag) : TS :=
  tSeq (tAsg (tDGet (tVar 0) (tS "great")) (gName 2))
  (tSeq (tIfS (tTest (tOp rLtI (tVar 1) (tC (.int 2)))) (tRet (tC (.int 0))) tNext)
  (tSeq (tIfS (tNeNil K (tVar 2))
    (tSeq (tAsg (tBM0 K "list" rPop (tVar 2)) (gName 3))
    (tSeq (tIfS (tTest (tOp L2.rGe (tVar 3) (tVar 1))) (tDrop (tBM K "list" rAppend (tVar 2) (tCons (tOp rDivI (tVar 3) (tVar 1)) tNil))) tNext)
    (tRet (tOp rModI (tCB rToInt (tCons (tVar 3) tNil)) (tVar 1))))) tNext)
  (tSeq (sDPut (tVar 0) (tS "turn") (tOp rAddI (tDGet (tVar 0) (tS "turn")) (tC (.int 1))))
  (tSeq (tAsg (tOp rModI (tCB rToInt (tCons (tOp rAddI (tDGet (tVar 0) (tS "stirred")) (tOp rMulI (tC (.int 2654435761)) (tDGet (tVar 0) (tS "turn")))) tNil)) (tC (.int 4294967279))) (gName 4))
  (tSeq (tAsg (tOp rModI (tCB rToInt (tCons (tOp rAddI (tOp rAddI (tOp rMulI (tVar 4) (tVar 4)) (tOp rMulI (tC (.int 97)) (tDGet (tVar 0) (tS "turn")))) (tC (.int 53))) tNil)) (tC (.int 4294967231))) (gName 4))
  (tSeq (tAsg (tOp rModI (tCB rToInt (tCons (tOp rAddI (tOp rMulI (tVar 4) (tVar 4)) (tDGet (tVar 0) (tS "stirred"))) tNil)) (tC (.int 4294967197))) (gName 4))
  (tRet (tOp rModI (tCB rToInt (tCons (tOp rDivI (tVar 4) (tC (.int 16))) tNil)) (tVar 1)))))))))
theorem st_asg {te : TE} {σ : L2.St} {H : Hp} {v : V} {i : Nat} {D : Ends} (h : Val te σ H v) (q : D.nx (σ.set i (some v)) H) : tAsg te (gName i) D σ H := h _ q
section
variable {t u t1 : TS} {te : TE} {c : TT} {σ : L2.St} {H : Hp} {v : V} {i : Nat} {D : Ends}
theorem sq_asg (h : Val te σ H v) (q : t D (σ.set i (some v)) H) : tSeq (tAsg te (gName i)) t D σ H := h _ q
theorem sq_pop {K : PySem.W.Frag} {a : Addr} {xs : List V} {y : V} (h : Val te σ H (.ref a)) (e : H a = some (.lst xs)) (hy : xs[xs.length - 1]? = some y) (q : t D (σ.set i (some y)) (upd H a (.lst xs.dropLast))) : tSeq (tAsg (tBM0 K "list" rPop te) (gName i)) t D σ H :=
  st_seq (h _ ⟨.inl ⟨rfl, _, SqL.of e⟩, a, _, y, rfl, rfl, e, hy, q⟩)
theorem sq_app {K : PySem.W.Frag} {a : Addr} {xs : List V} {y : V} {tv : TE} (h : Val te σ H (.ref a)) (h2 : Val tv σ H y) (e : H a = some (.lst xs)) (hl : xs.length < sizeLine) (q : D.nx σ (upd H a (.lst (xs ++ [y])))) : tDrop (tBM K "list" rAppend te (tCons tv tNil)) D σ H :=
  h _ ⟨.inl ⟨rfl, _, SqL.of e⟩, h2 _ ⟨a, _, _, rfl, rfl, e, hl, q⟩⟩
theorem sq_yes (h : Ans c σ H true) (q : t1 { D with nx := t D } σ H) : tSeq (tIfS c t1 u) t D σ H := st_seq (st_yes h q)
theorem sq_no (h : Ans c σ H false) (q : t D σ H) : tSeq (tIfS c t1 tNext) t D σ H := st_seq (st_no h q)
end
theorem getLast_split {α : Type} (l : List α) (h : l ≠ []) : ∃ l' x, l = l' ++ [x] := ⟨l.dropLast, l.getLast h, (List.dropLast_concat_getLast h).symm⟩
theorem pure_drawA {K : PySem.W.Frag} {H : Hp} {da dl : Addr} {o1 o2 : HO} {n : Int} {D : Ends} (h1 : H da = some o1) (h2 : H dl = some o2) (hne : da ≠ dl) (inv : dkiA dl o1 o2) (hn : n < drawMax)
    (hq : ∀ r H' o1' o2', drawOk n r → H' da = some o1' → H' dl = some o2' → dkiA dl o1' o2' → (∀ a, a ≠ da → a ≠ dl → ∀ o, H a = some o → H' a = some o) → D.rt (.int r) H') :
    t_drawA K D [some (.ref da), some (.int n), none, none, none] H := by
  obtain ⟨s, t, gs, rfl, rfl, s0, s1, g0, g1⟩ := inv
  refine sq_asg (v_get (a := da) (k := kS "great") (kvs := kvA dl s t) (v := .ref dl) (val_var rfl) val_c h1 rfl) ?_
  by_cases c : n < 2
  · refine sq_yes ((v_lt (n := n) (i := n) (j := 2) (val_var rfl) val_c).to (decide_eq_true c)) ?_
    exact hq 0 H _ _ ⟨by omega, .inr rfl⟩ h1 h2 ⟨s, t, gs, rfl, rfl, s0, s1, g0, g1⟩ fun _ _ _ _ e => e
  · have hn0 : 0 < n := by omega
    refine sq_no ((v_lt (n := n) (i := n) (j := 2) (val_var rfl) val_c).to (decide_eq_false c)) ?_
    refine st_seq ?_
    refine a_neNil (a := dl) (gs := gs) (val_var rfl) h2 fun p hp => ?_
    have pa : da ≠ p := fun z => by rw [z, hp] at h1; cases h1
    have pl : dl ≠ p := fun z => by rw [z, hp] at h2; cases h2
    have h1' : upd H p (.lst []) da = some (.dK (kvA dl s t)) := by rw [upd_ne pa]; exact h1
    have h2' : upd H p (.lst []) dl = some (.lst (gs.map V.int)) := by rw [upd_ne pl]; exact h2
    have keep : ∀ a, a ≠ da → a ≠ dl → ∀ o, H a = some o → upd H p (.lst []) a = some o := fun a _ _ o e => by
      rw [upd_ne (ne_of_none e hp)]; exact e
    generalize upd H p (.lst []) = H1 at h1' h2' keep
    by_cases cg : gs = []
    · rw [decide_eq_false (not_not_intro cg), if_neg Bool.false_ne_true]
      subst cg
      refine st_seq ?_
      refine v_add (v_get (a := da) (k := kS "turn") (kvs := kvA dl s t) (v := .int t) (val_var rfl) val_c h1' rfl) val_c _ ?_
      refine val_var (i := 0) (v := .ref da) rfl _ ?_
      refine val_c _ ?_
      refine ⟨da, _, rfl, DPut.k (k := kS "turn") h1' (by rw [sizeLine_eq]; show 3 < 16777216; omega), ?_⟩
      have e2 : putK (kvA dl s t) (kS "turn") (.int (t + 1)) = kvA dl s (t + 1) := rfl
      rw [e2]
      have h3 : upd H1 da (.dK (kvA dl s (t + 1))) da = some (.dK (kvA dl s (t + 1))) := upd_same
      have h4 : upd H1 da (.dK (kvA dl s (t + 1))) dl = some (.lst (([] : List Int).map V.int)) := by rw [upd_ne (Ne.symm hne)]; exact h2'
      have keep2 : ∀ a, a ≠ da → a ≠ dl → ∀ o, H a = some o → upd H1 da (.dK (kvA dl s (t + 1))) a = some o := fun a na nl o e => by rw [upd_ne na]; exact keep a na nl o e
      generalize upd H1 da (.dK (kvA dl s (t + 1))) = H2 at h3 h4 keep2
      refine sq_asg (v_mod (v_int (v_add (v_get (a := da) (k := kS "stirred") (kvs := kvA dl s (t + 1)) (v := .int s) (val_var rfl) val_c h3 rfl) (v_mul val_c (v_get (a := da) (k := kS "turn") (kvs := kvA dl s (t + 1)) (v := .int (t + 1)) (val_var rfl) val_c h3 rfl) (mulC_l (by decide))))) val_c (by decide)) ?_
      generalize hx : (s + 2654435761 * (t + 1)).fmod 4294967279 = x
      have bx := fmod_bd (s + 2654435761 * (t + 1)) (j := 4294967279) (by decide)
      rw [hx] at bx
      refine sq_asg (v_mod (v_int (v_add (v_add (v_mul (i := x) (j := x) (val_var rfl) (val_var rfl) (mulC_l (by omega))) (v_mul val_c (v_get (a := da) (k := kS "turn") (kvs := kvA dl s (t + 1)) (v := .int (t + 1)) (val_var rfl) val_c h3 rfl) (mulC_l (by decide)))) val_c)) val_c (by decide)) ?_
      generalize hy : (x * x + 97 * (t + 1) + 53).fmod 4294967231 = y
      have by_ := fmod_bd (x * x + 97 * (t + 1) + 53) (j := 4294967231) (by decide)
      rw [hy] at by_
      refine sq_asg (v_mod (v_int (v_add (v_mul (i := y) (j := y) (val_var rfl) (val_var rfl) (mulC_l (by omega))) (v_get (a := da) (k := kS "stirred") (kvs := kvA dl s (t + 1)) (v := .int s) (val_var rfl) val_c h3 rfl))) val_c (by decide)) ?_
      generalize hz : (y * y + s).fmod 4294967197 = z
      have bz := fmod_bd (y * y + s) (j := 4294967197) (by decide)
      rw [hz] at bz
      refine v_mod (i := z.fdiv 16) (j := n) (v_int (v_div (i := z) (j := 16) (val_var rfl) val_c (divC_small (by decide) (by decide)))) (val_var rfl) (by omega) _ ?_
      have br := fmod_bd (z.fdiv 16) hn0
      exact hq _ H2 _ _ ⟨br.1, .inl br.2⟩ h3 h4 ⟨s, t + 1, [], rfl, rfl, s0, s1, g0, g1⟩ keep2
    · rw [decide_eq_true cg, if_pos rfl]
      obtain ⟨g', x, rfl⟩ := getLast_split gs cg
      have x0 : 0 ≤ x := g0 x (by simp)
      have g0' : ∀ g ∈ g', (0 : Int) ≤ g := fun g hg => g0 g (by simp [hg])
      have g1' : g'.length + 1 ≤ 100 := by rw [List.length_append] at g1; exact g1
      refine sq_pop (a := dl) (y := .int x) (val_var rfl) h2' (by simp) ?_
      have e5 : ((g' ++ [x]).map V.int).dropLast = g'.map V.int := by simp
      rw [e5]
      have h3 : upd H1 dl (.lst (g'.map V.int)) da = some (.dK (kvA dl s t)) := by rw [upd_ne hne]; exact h1'
      have h4 : upd H1 dl (.lst (g'.map V.int)) dl = some (.lst (g'.map V.int)) := upd_same
      have keep2 : ∀ a, a ≠ da → a ≠ dl → ∀ o, H a = some o → upd H1 dl (.lst (g'.map V.int)) a = some o := fun a na nl o e => by rw [upd_ne nl]; exact keep a na nl o e
      generalize upd H1 dl (.lst (g'.map V.int)) = H2 at h3 h4 keep2
      have fin : ∀ (H3 : Hp) (g2 : List Int), H3 da = some (.dK (kvA dl s t)) → H3 dl = some (.lst (g2.map V.int)) → (∀ g ∈ g2, (0 : Int) ≤ g) → g2.length ≤ 100 → (∀ a, a ≠ da → a ≠ dl → ∀ o, H a = some o → H3 a = some o) →
          ∀ D' : Ends, D'.rt = D.rt → tRet (tOp rModI (tCB rToInt (tCons (tVar 3) tNil)) (tVar 1)) D' [some (.ref da), some (.int n), some (.ref dl), some (.int x), none] H3 := fun H3 g2 a1 a2 a3 a4 a5 D' eD => by
        have br := fmod_bd x hn0
        refine v_mod (i := x) (j := n) (v_int (val_var rfl)) (val_var rfl) (by omega) _ ?_
        rw [eD]
        exact hq _ H3 _ _ ⟨br.1, .inl br.2⟩ a1 a2 ⟨s, t, g2, rfl, rfl, s0, s1, a3, a4⟩ a5
      by_cases cx : n ≤ x
      · refine sq_yes ((v_ge (i := x) (j := n) (val_var rfl) (val_var rfl)).to (decide_eq_true cx)) ?_
        refine sq_app (a := dl) (y := .int (x.fdiv n)) (val_var rfl) (v_div (i := x) (j := n) (val_var rfl) (val_var rfl) (divC_small hn0 hn)) h4 (by rw [sizeLine_eq, List.length_map]; omega) ?_
        have e6 : g'.map V.int ++ [V.int (x.fdiv n)] = (g' ++ [x.fdiv n]).map V.int := by simp
        rw [e6]
        refine fin _ (g' ++ [x.fdiv n]) (by rw [upd_ne hne]; exact h3) upd_same (fun g hg => ?_) (by rw [List.length_append]; exact g1') (fun a na nl o e => by rw [upd_ne nl]; exact keep2 a na nl o e) _ rfl
        rcases List.mem_append.mp hg with hg | hg
        · exact g0' g hg
        · rw [List.mem_singleton.mp hg]; exact fdiv_nn x0 hn0
      · refine sq_no ((v_ge (i := x) (j := n) (val_var rfl) (val_var rfl)).to (decide_eq_false cx)) ?_
        exact fin H2 g' h3 h4 g0' (by omega) keep2 _ rfl

/-- a deck's def, told raw -/
theorem draw_spec {g : DG} {da dl : Addr} {dk : Dk} {H H' F : Hp} {o1' o2' : HO} (hdk : dk = some (da, dl)) (s : Sub F H) (d : DeckOk g H F dk) (h1 : H' da = some o1') (h2 : H' dl = some o2') (i : g.dki dl o1' o2')
    (k : ∀ a, a ≠ da → a ≠ dl → ∀ o, H a = some o → H' a = some o) : Aft g dk H F H' F := by
  subst hdk
  obtain ⟨f1, f2, ne, _⟩ := d
  refine ⟨Sub.refl F, fun a o e => k a (fun z => (by rw [z, f1] at e; cases e)) (fun z => (by rw [z, f2] at e; cases e)) o (s a o e), fun a o e z => (by rw [z] at e; cases e), fun a o e f => ?_, f1, f2, ne, _, _, h1, h2, i⟩
  obtain ⟨n1, n2⟩ := f da dl rfl
  exact k a n1 n2 o e
theorem run_drawA {g : DG} (hg : g.dki = dkiA) (x1 x2 x3 x4 x5 : Str) {vs : List V} {H : Hp} {Q : VK} {E : XK} (h : spOf g sDraw vs H Q E) : t_drawA g.K { nx := fun _ H' => Q .non H', rt := Q } (start [x1, x2, x3, x4, x5] vs) H := by
  obtain ⟨F, dk, us, sF, dO, aO, P, Ex, ⟨n, rfl, hn, hP⟩, hQ, _⟩ := h
  match vs, aO with
  | [v1, v2], aO =>
    obtain ⟨⟨da, dl, rfl, rfl⟩, h2, _⟩ := aO
    cases h2
    obtain ⟨f1, f2, ne, o1, o2, e1, e2, iv⟩ := id dO
    rw [hg] at iv
    exact pure_drawA e1 e2 ne iv hn fun r H' o1' o2' hr a1 a2 a3 a4 => hQ (.d (.int r)) _ H' F (hP r hr) (draw_spec rfl sF dO a1 a2 (by rw [hg]; exact a3) a4) (Dq.int r)
  | [], aO => exact aO.elim
  | [_], aO => exact aO.2.elim
  | _ :: _ :: _ :: _, aO => exact aO.2.2.elim
end Dl

namespace Dl
open PySem PySem.Spec PyProof.Rows L2
/-! ### the deck is made -/
abbrev rLenSq (K : PySem.W.Frag) : List V → Hp → VK → Prop := fun xs H Q => ∃ p ys, xs = [.ref p] ∧ (SqL K H p ys ∨ SqT K H p ys) ∧ Q (.int ys.length) H
/-- names: script, cells, stirred, cell -/
def t_deckA (K : PySem.W.Frag) : TS :=
  tSeq (tPar 1 2 (tCons (tLc (iList K (tSl (rSlL K) (tVar 0) tNoPart (tPart (tC (.int 60))))) (gName 3) tYes
      (tOp rAddI (tOp rMulI (tC (.int 2)) (tCB rAbs (tCons (tVar 3) tNil))) (tCB rToInt (tCons (tOp rLtI (tVar 3) (tC (.int 0))) tNil))) [3])
    (tCons (tOp rAddI (tC (.int 3001)) (tCB (rLenSq K) (tCons (tVar 0) tNil))) tNil)))
  (tSeq (tFor (iList K (tVar 1)) (gName 3) (tAsg (tOp rModI (tCB rToInt (tCons (tOp rAddI (tOp rAddI (tOp rMulI (tVar 2) (tC (.int 69069))) (tVar 3)) (tC (.int 7))) tNil)) (tC (.int 4294967291))) (gName 2)))
  (tRet (tDisp [(tS "great", tLc (iList K (tVar 1)) (gName 3) (tTest (tOp L2.rGe (tVar 3) (tOp rPowI (tC (.int 10)) (tC (.int 16))))) (tVar 3) [3]), (tS "stirred", tVar 2), (tS "turn", tC (.int 0))])))
/-- a deck is made -/
def spDeck (g : DG) : Sp := fun vs H Q _ => ∃ (a : Addr) (ns : List Int), vs = [.ref a] ∧ SqL g.K H a (ns.map V.int) ∧ ns.length ≤ 63 ∧
  ∀ da dl H', H da = none → H dl = none → (∀ b o, H b = some o → H' b = some o) → DeckOk g H' (fun _ => none) (some (da, dl)) → Q (.ref da) H'
theorem run_deckA {g : DG} (hg : g.dki = dkiA) (x1 x2 x3 x4 : Str) {vs : List V} {H : Hp} {Q : VK} {E : XK} (h : spDeck g vs H Q E) : t_deckA g.K { nx := fun _ H' => Q .non H', rt := Q } (start [x1, x2, x3, x4] vs) H := by
  obtain ⟨a, ns, rfl, hs, hl, hq⟩ := h
  show tSeq _ _ _ [some (.ref a), none, none, none] H
  refine st_seq ?_
  refine ⟨.ref a, rfl, 60, rfl, a, _, rfl, hs, fun p hp => ?_⟩
  have e60 : cutV (ns.map V.int) none (some 60) = (ns.take 60).map V.int := by
    rw [show (60 : Int) = ((60 : Nat) : Int) from rfl, cutV_take, List.map_take]
  rw [e60]
  have hp1 : upd H p (.lst ((ns.take 60).map V.int)) p = some (.lst ((ns.take 60).map V.int)) := upd_same
  have k1 : ∀ b o, H b = some o → upd H p (.lst ((ns.take 60).map V.int)) b = some o := fun b o e => by rw [upd_ne (ne_of_none e hp)]; exact e
  generalize upd H p (.lst ((ns.take 60).map V.int)) = H1 at hp1 k1
  refine ⟨p, rfl, ⟨_, SqL.of hp1⟩, fun D hD => ?_⟩
  have l60 : (ns.take 60).length < sizeLine := by rw [sizeLine_eq, List.length_take]; omega
  refine raw_lc (f := fun n => 2 * (n.natAbs : Int) + (if decide (n < 0) then 1 else 0)) (keep := fun _ => true) (SqL.of hp1) hD l60 (fun n H' _ => ⟨fun Q q => q, v_add (v_mul val_c (v_abs (val_var rfl)) (mulC_l (by decide))) (v_intb (v_ltb (val_var rfl) val_c))⟩) fun H2 hD2 k2 => ?_
  have hns : SqL g.K H2 a (ns.map V.int) := Same.seq (fun b o e => k2 b o (k1 b o e)) hs
  refine ⟨.ref a, rfl, a, _, rfl, .inl hns, _, _, rfl, rfl, _, _, rfl, ?_⟩
  have ef : (ns.take 60).filter (fun _ => true) = ns.take 60 := List.filter_eq_self.mpr fun _ _ => rfl
  rw [ef] at hD2
  generalize hc : (ns.take 60).map (fun n => 2 * (n.natAbs : Int) + (if decide (n < 0) then 1 else 0)) = cs at hD2
  have c0 : ∀ c ∈ cs, (0 : Int) ≤ c := by
    intro c hm
    rw [← hc] at hm
    obtain ⟨n, _, rfl⟩ := List.mem_map.mp hm
    split <;> omega
  have cl : cs.length ≤ 60 := by rw [← hc, List.length_map, List.length_take]; omega
  have kH : ∀ b o, H b = some o → H2 b = some o := fun b o e => k2 b o (k1 b o e)
  have nD : H D = none := by
    cases q : H D with
    | none => rfl
    | some o => rw [k1 _ _ q] at hD; cases hD
  have s0 : (0 : Int) ≤ 3001 + ((ns.map V.int).length : Int) ∧ 3001 + ((ns.map V.int).length : Int) < 4294967296 := by rw [List.length_map]; omega
  refine ⟨.ref D, rfl, D, rfl, ⟨_, SqL.of hD2⟩, ?_⟩
  refine for_list (K := g.K) (a := D) (xs := cs.map V.int) (fun i σ H' => H' = H2 ∧ ∃ (s : Int) (v : Option V), σ = [some (.ref a), some (.ref D), some (.int s), v] ∧ 0 ≤ s ∧ s < 4294967296) ⟨rfl, 3001 + ((ns.map V.int).length : Int), none, rfl, s0.1, s0.2⟩ (fun i σ H' _ p => by rw [p.1]; exact SqL.of hD2) ?_ ?_
  · rintro i x σ H' hx ⟨rfl, s, v, rfl, s1, s2⟩
    obtain ⟨n, hn, rfl⟩ : ∃ n, cs[i]? = some n ∧ V.int n = x := by
      rw [List.getElem?_map] at hx
      cases e : cs[i]? with
      | none => rw [e] at hx; cases hx
      | some n => rw [e] at hx; exact ⟨n, rfl, Option.some.inj hx⟩
    refine v_mod (v_int (v_add (v_add (v_mul (i := s) (val_var rfl) val_c (mulC_r (by decide))) (val_var (v := .int n) rfl)) val_c)) val_c (by decide) _ ?_
    have b := fmod_bd (s * 69069 + n + 7) (j := 4294967291) (by decide)
    exact ⟨rfl, _, _, rfl, b.1, by omega⟩
  · rintro σ H' ⟨rfl, s, v, rfl, s1, s2⟩
    intro q hq0
    have hD3 : upd H' q (.dK []) D = some (.lst (cs.map V.int)) := by rw [upd_ne (ne_of_none hD2 hq0)]; exact hD2
    have hq3 : upd H' q (.dK []) q = some (.dK []) := upd_same
    have kq : ∀ b o, H' b = some o → upd H' q (.dK []) b = some o := fun b o e => by rw [upd_ne (ne_of_none e hq0)]; exact e
    have nq : H q = none := by
      cases z : H q with
      | none => rfl
      | some o => rw [kH _ _ z] at hq0; cases hq0
    generalize upd H' q (.dK []) = H3 at hD3 hq3 kq
    refine ⟨.ref D, rfl, D, rfl, ⟨_, SqL.of hD3⟩, fun D2 hD2n => ?_⟩
    have nD2 : H D2 = none := by
      cases z : H D2 with
      | none => rfl
      | some o => rw [kq _ _ (kH _ _ z)] at hD2n; cases hD2n
    refine raw_lc (f := fun n => n) (keep := fun n => decide (10 ^ (16 : Int).toNat ≤ n)) (SqL.of hD3) hD2n (by rw [sizeLine_eq]; omega) (fun n H4 _ => ⟨v_ge (i := n) (j := 10 ^ (16 : Int).toNat) (val_var rfl) (v_pow (i := 10) (j := 16) val_c val_c ⟨by decide, by decide, by decide⟩), val_var (v := .int n) rfl⟩) fun H4 hg4 k4 => ?_
    refine ⟨.int s, rfl, k4 _ _ hq3, [(kS "great", .ref D2), (kS "stirred", .int s), (kS "turn", .int 0)], rfl, (show 3 ≤ 15 by decide), ?_⟩
    have em : mergeK [] [(kS "great", V.ref D2), (kS "stirred", .int s), (kS "turn", .int 0)] = kvA D2 s 0 := rfl
    rw [em]
    have nqD : q ≠ D2 := fun z => by rw [← z, hq3] at hD2n; cases hD2n
    refine hq q D2 _ nq nD2 (fun b o e => ?_) ⟨rfl, rfl, nqD, _, _, upd_same, by rw [upd_ne (Ne.symm nqD)]; exact hg4, ?_⟩
    · rw [upd_ne (fun z => by rw [z, nq] at e; cases e)]
      exact k4 _ _ (kq _ _ (kH _ _ e))
    · rw [hg]
      refine ⟨s, 0, _, rfl, rfl, s1, s2, fun x hx => ?_, ?_⟩
      · rw [List.map_id'] at hx
        exact c0 x (List.mem_filter.mp hx).1
      · rw [List.length_map]
        exact Nat.le_trans (List.length_filter_le _ _) (by omega)
end Dl

namespace Dl
open PySem PySem.Spec PyProof.Rows L2
open PySem.W (Frag)

/-! ### an own error whose __init__ says super().__init__(text) -/
def sA (p1 : Pos) : Arguments := { posonlyargs := [], args := [{ arg := "self", annotation := none, pos := p1 }], vararg := none, kwonlyargs := [], kw_defaults := [], kwarg := none, defaults := [] }
def sA1 (f : Str) (p1 p2 : Pos) : Arguments := { posonlyargs := [], args := [{ arg := "self", annotation := none, pos := p1 }, { arg := f, annotation := none, pos := p2 }], vararg := none, kwonlyargs := [], kw_defaults := [], kwarg := none, defaults := [] }
def sLine (m : Str) (p0 p1 p2 p3 p4 p5 : Pos) (j : Nat) : Stmt := .Expr (.Call (.Attribute (.Call (.Name "super" p0) [] [] p1) "__init__" p2) [.Constant (.str m) j p3] [] p4) p5
def sSet (f : Str) (q1 q2 q3 q4 : Pos) : Stmt := .Assign [.Attribute (.Name "self" q1) f q2] (.Name f q3) q4
def sSc : Scope := { kind := .function, names := [(PySem.Str.ofString "self", .local), (PySem.Str.ofString "__class__", .free), (PySem.Str.ofString "super", .globalImplicit)], isGenerator := false, isCoroutine := false, more := [] }
def sSc1 (f : Str) : Scope := { kind := .function, names := [(PySem.Str.ofString "self", .local), (f, .local), (PySem.Str.ofString "__class__", .free), (PySem.Str.ofString "super", .globalImplicit)], isGenerator := false, isCoroutine := false, more := [] }

/-- what the class at C and its __init__ at fI say -/
structure SupC (K : Frag) (mg : Str → Option Value) (cn : Str) (C fI : Addr) : Prop where
  gC : mg cn = some (.ref C)
  kC : PySem.W.keepIn K (.ref C) = true
  cls : ∃ nm q N bs bm sn sub ab col dd k0 k1 k2 k3 k5, K.lookup C = some (excClassObj nm q C N bs bm true sn sub ab col dd k0 k1 k2 k3 k5 "ValueError.__new__") ∧ HandSPX.refsVE bm = true
  iC : PySem.W.findIn K (.ref C) "__init__" = some (some (.ref fI))
  tI : PySem.W.typeIn K (.ref fI) = some (.type "function")
  exC : PySem.W.subIn K (.ref C) (.type "BaseException") = some true
  tyC : PySem.W.typeIn K (.ref C) = some (.type "type")
  sup : PySem.W.ks_superIn K C C "__init__" = some (some (.builtin "ValueError.__init__"))
  subV : PySem.W.subIn K (.ref C) (.type "ValueError") = some true
  self : PySem.W.mroIn K C (.ref C) = some true
  opq : PySem.W.nsIn K cStatics "thirdparty.any" = some none
  nosup : mg "super" = none
/-- its __init__'s text -/
structure SupF (K : Frag) (prog : Program) (C fI : Addr) (params : Arguments) (body : List Stmt) (scope : Scope) : Prop where
  ex : ∃ (oc : Value) (od : Option Addr) (osl : Array (Option Value)) (qual : Str) (kV doc pm ct : Value) (an : Option Addr) (cda cc : Addr) (ccl : Value) (cdd : Option Addr) (vs : Array Value) (ccs : Array (Option Value)) (file : Str) (tf : Tok) (cl : Value) (cld : Option Addr) (csl : Array (Option Value)),
    K.lookup fI = some ⟨oc, od, .func (PySem.W.ksFn "__init__" qual params body scope .none kV doc pm an (.ref cda) ct cc), osl⟩ ∧ PySem.W.codeIn K (.ref cda) qual = true ∧ K.lookup cda = some ⟨ccl, cdd, .fields vs, ccs⟩ ∧ vs[2]? = some (.str file tf) ∧
    ((prog.main.file : Str) == file) = true ∧ K.lookup cc = some ⟨cl, cld, .cell (some (.ref C)), csl⟩ ∧ (prog.main.scope.names.lookup ("super" : Str)).isSome = false
/-- what stands around -/
structure Ard (K : Frag) (mg : Str → Option Value) (h : Heap) : Prop where
  kin : K.In h
  glob : h.Ns mainGlobals mg
  blt : ∃ mb, h.Ns builtinsNs mb ∧ ∀ x : Str, x ≠ "__name__" → mb x = bootBuiltins x
  nolimit : h.NoLimit
theorem Ard.keeps {K : Frag} {mg : Str → Option Value} {h h' : Heap} (a : Ard K mg h) (k : ∀ b o, h.get? b = some o → h'.get? b = some o) : Ard K mg h' :=
  ⟨a.kin.keeps k, a.glob.keeps k, let ⟨mb, h1, h2⟩ := a.blt; ⟨mb, h1.keeps k, h2⟩, a.nolimit.keeps k⟩
theorem one_le (v : Value) : [v].length ≤ sizeLine := by rw [sizeLine_eq]; exact (by decide : 1 ≤ 16777216)
theorem nil_le : ([] : List Value).length ≤ sizeLine := by rw [sizeLine_eq]; exact (by decide : 0 ≤ 16777216)
section
variable {prog : Program} {w : World} {A : Around} {E : Value → Shared → Prop} {h : Heap} {g : Array GenState} {d : Drawn} {t : Nat} {os : OsState}
variable {nm q : Str} {C N : Addr} {bs bm : List Value} {hdct : Bool} {sn : List Str} {sub : List Value} {ab : Bool} {col : Option Bool} {dd : Option Addr} {k0 k1 k2 k3 k5 : Option Value}
/-- the bound built-in __init__ is called -/
theorem call_mw {u e t0 : Addr} {rest : List Value} {Q : Value → Shared → Prop} (hC : h.get? C = some (excClassObj nm q C N bs bm hdct sn sub ab col dd k0 k1 k2 k3 k5 "ValueError.__new__")) (he : h.get? e = some (HandSPX.excO C t0))
    (hu : h.get? u = some (PySem.W.kxs_mw "ValueError.__init__" e)) (hrest : rest.length ≤ sizeLine)
    (hq : ∀ h' t1, (∀ b o, b ≠ e → h.get? b = some o → h'.get? b = some o) → h'.get? e = some (HandSPX.excO C t1) → Q .none ⟨h', g, d, t, os⟩) : wpAny (model prog w) A (call (.ref u) rest) Q E ⟨h, g, d, t, os⟩ := by
  refine wpAny_call (codeAny_of_tree ?_)
  show wpAny _ A.in1 (callAny (.ref u) ⟨rest, []⟩) _ _ _
  simp only [callAny]
  refine wpAny_bind (wpAny_load hu ?_)
  simp only [PySem.W.kxs_mw, show (Value.type "method-wrapper" == Value.type "method" || Value.type "method-wrapper" == Value.type "builtin_function_or_method" || Value.type "method-wrapper" == Value.type "method-wrapper") = true by decide, if_true]
  refine W.KFB.if_so (by decide) ?_
  refine wpAny_bind (W.check_bound_init PySem.F.excBase_ValueError.toExcCallFacts hC he rfl ?_)
  refine wpAny_bind (wpAny_pure (wpAny_pure ?_))
  refine ⟨Code.quiet_builtin _ (by decide +kernel), codeAny_builtin PySem.F.excBase_ValueError.initEntry ?_⟩
  rw [Around.under_plainId PySem.F.excBase_ValueError.init.plain _]
  wp_walk
  refine hq _ h.objs.size (fun b o hb ho => ?_) ?_
  · rw [Heap.get?_update_other _ _ (Ne.symm hb)]
    exact Heap.get?_push_of_some _ ho
  · rw [Heap.get?_update_self _ (Heap.get?_push_of_some _ he) rfl]
    rfl
end
section
variable {prog : Program} {w : World} {A : Around} {E : Value → Shared → Prop} {R : Result → Shared → Prop} {s : Shared} {K : Frag} {mg : Str → Option Value} {cn : Str} {C fI : Addr}
/-- the line super().__init__(text) in a frame whose self is x -/
theorem sup_line {params : Arguments} {body0 : List Stmt} {scope : Scope} {qual : Str} {dV kV doc pm ct : Value} {an : Option Addr} {cda cc L : Addr} {m : Str → Option Value} {txt : Str} {p0 p1 p2 p3 p4 p5 : Pos} {j : Nat} {x t0 : Addr} {ar : Arg} {body : List Stmt} {Q : Flow → Shared → Prop}
    {oc : Value} {od : Option Addr} {osl : Array (Option Value)} {ccl : Value} {cdd : Option Addr} {vs : Array Value} {ccs : Array (Option Value)} {file : Str} {tf : Tok} {cl : Value} {cld : Option Addr} {csl : Array (Option Value)}
    (T : SupC K mg cn C fI) (hf : K.lookup fI = some ⟨oc, od, .func (PySem.W.ksFn "__init__" qual params body0 scope dV kV doc pm an (.ref cda) ct cc), osl⟩) (hcode : K.lookup cda = some ⟨ccl, cdd, .fields vs, ccs⟩) (hvs : vs[2]? = some (.str file tf)) (hfile : ((prog.main.file : Str) == file) = true)
    (hcell : K.lookup cc = some ⟨cl, cld, .cell (some (.ref C)), csl⟩) (htop : (prog.main.scope.names.lookup ("super" : Str)).isSome = false) (hp : (params.posonlyargs ++ params.args).head? = some ar) (har : ar.arg = "self")
    (hk : scope.kind = .function) (hks : scope.names.lookup ("super" : Str) = some .globalImplicit) (hkc : scope.names.lookup ("__class__" : Str) = some .free) (hka : scope.names.lookup ("self" : Str) = some .local)
    (Y : Ard K mg s.heap) (hx : s.heap.get? x = some (HandSPX.excO C t0)) (hn : s.heap.Ns L m) (hm : m "self" = some (.ref x))
    (hpl : interactive (PySem.W.ksEnv qual scope L fI (.ref cda) cc) = false) (hsw : swapsWith (.Call (.Attribute (.Call (.Name "super" p0) [] [] p1) "__init__" p2) [.Constant (.str txt) j p3] [] p4) none p5.line (PySem.W.ksEnv qual scope L fI (.ref cda) cc) = pure false)
    (hee : eval (.Call (.Attribute (.Call (.Name "super" p0) [] [] p1) "__init__" p2) [.Constant (.str txt) j p3] [] p4) (PySem.W.ksEnv qual scope L fI (.ref cda) cc) = (do
      let ov ← attributeBase (.Call (.Name "super" p0) [] [] p1) "__init__" (PySem.W.ksEnv qual scope L fI (.ref cda) cc) (eval (.Call (.Name "super" p0) [] [] p1) (PySem.W.ksEnv qual scope L fI (.ref cda) cc))
      standAt p2.atName
      let (f, first) ← holding [ov] (getMethod ov "__init__" (plainOf (.Call (.Name "super" p0) [] [] p1) (PySem.W.ksEnv qual scope L fI (.ref cda) cc)))
      callWith p4 f first (backTo p4 (starEach [.Constant (.str txt) j p3] (PySem.W.ksEnv qual scope L fI (.ref cda) cc))) []))
    (hq : ∀ h' tk t1, (∀ b o, b ≠ x → s.heap.get? b = some o → h'.get? b = some o) → h'.get? x = some (HandSPX.excO C t1) → Q .next { s with heap := h', toks := tk }) :
    _root_.PySem.wpAt (model prog w) A (.func body (PySem.W.ksEnv qual scope L fI (.ref cda) cc)) (exec (sLine txt p0 p1 p2 p3 p4 p5 j) (PySem.W.ksEnv qual scope L fI (.ref cda) cc)) Q E s := by
  obtain ⟨nm, q, N, bs, bm, sn, sub, ab, col, dd, k0, k1, k2, k3, k5, hC, hbm⟩ := T.cls
  obtain ⟨hh, g, d, t, os⟩ := s
  have X := Y.kin
  have I : PySem.W.InstAt hh x (HandSPX.excO C t0) C none := ⟨hx, rfl, rfl, trivial⟩
  have hD : hh.get? C = some (excClassObj nm q C N bs bm true sn sub ab col dd k0 k1 k2 k3 k5 "ValueError.__new__") := X _ _ hC
  refine PySem.ks_wpAt_Expr_any ?_ hpl hsw
  refine PySem.ks_wpAt_MethodCall (pl := plainOf (.Call (.Name "super" p0) [] [] p1) (PySem.W.ksEnv qual scope L fI (.ref cda) cc)) ?_ hee
  refine PySem.ks_wpAt_super_base (env := PySem.W.ksEnv qual scope L fI (.ref cda) cc) hks hkc (by decide) rfl (X _ _ hf) rfl hp rfl (X _ _ hcode) rfl hvs hfile htop ?_
  obtain ⟨mb, b1, b2⟩ := Y.blt
  refine PySem.W.ks_loadName_global hk hks (Calls.loadGlobal_builtin (env := PySem.W.ksEnv qual scope L fI (.ref cda) cc) Y.glob T.nosup b1 ((b2 "super" (by decide)).trans (by decide +kernel)) ⟨rfl, ?_⟩)
  refine wpAny_loadName_free hk hkc rfl ⟨_, X _ _ hcell, rfl⟩ ?_
  rw [har]
  refine wpAny_loadName_local hk hka hn hm ?_
  refine PySem.ks_wpAny_isType_cls hD rfl ⟨rfl, ?_⟩
  refine PySem.ks_wpAny_call_super hD rfl hx rfl (fun c e => ?_) (PySem.W.looks_mroIn X T.self) (fun h1 e1 k1 => ?_)
  · cases e
  have X1 : K.In h1 := X.keeps k1
  cases hc : PySem.W.clsIn K C with
  | none => have := T.sup; unfold PySem.W.ks_superIn at this; rw [hc] at this; cases this
  | some cd =>
    have hm2 := T.sup
    unfold PySem.W.ks_superIn at hm2
    rw [hc] at hm2
    have I1 : PySem.W.InstAt h1 x (HandSPX.excO C t0) C none := ⟨k1 _ _ hx, rfl, rfl, trivial⟩
    refine PySem.W.kxs_getMethod PySem.W.kxs_ValueError e1 (PySem.W.looks_opaque X1 T.opq) (l₀ := cd.mro) (fun A Q E s k q => wpAny_bind ((PySem.W.looks_clsIn X1 hc) A _ E s k (wpAny_pure q))) rfl X1 hm2 (I1.type.andThen (PySem.W.looks_subIn X1 T.subV)) (PySem.W.ks_ne X1 I1 hc) (by decide) ?_
    have e2 : (h1.push (PySem.W.kxs_mw "ValueError.__init__" x)).get? h1.objs.size = some (PySem.W.kxs_mw "ValueError.__init__" x) := Heap.get?_push_at rfl rfl
    have k2' : ∀ b o, h1.get? b = some o → (h1.push (PySem.W.kxs_mw "ValueError.__init__" x)).get? b = some o := fun b o e => Heap.get?_push_of_some _ e
    generalize h1.push (PySem.W.kxs_mw "ValueError.__init__" x) = h2 at e2 k2'
    generalize h1.objs.size = u at e2
    show wpAny (model prog w) A (callWith p4 (.ref u) [] ((false, eval (.Constant (.str txt) j p3) (PySem.W.ksEnv qual scope L fI (.ref cda) cc)) :: backTo p4 (starEach [] (PySem.W.ksEnv qual scope L fI (.ref cda) cc))) []) _ _ _
    refine PySem.W.kxs_callWith (i := "ValueError.__init__") (x := x) rfl (Calls.evalArgs_plain ?_)
    refine Calls.spliced_cons (wpAny_Constant_str (Calls.spliced_nil ?_))
    refine ⟨e2, ?_⟩
    refine call_mw (k2' _ _ (k1 _ _ hD)) (k2' _ _ (k1 _ _ hx)) e2 (one_le _) fun h' t1 kk hx' => ?_
    exact hq h' _ t1 (fun b o hb e => kk b o hb (k2' _ _ (k1 _ _ e))) hx'
end
end Dl

namespace Dl
open PySem PySem.Spec PyProof.Rows L2
open PySem.W (Frag)
theorem in_but {K : Frag} {h h' : Heap} {x : Addr} (X : K.In h) (hx : K.lookup x = none) (k : ∀ b o, b ≠ x → h.get? b = some o → h'.get? b = some o) : K.In h' := fun a o e =>
  k a o (fun z => by rw [z, hx] at e; cases e) (X a o e)
theorem sSc_cell : ∀ x ∈ sSc.names, x.2 ≠ .cell := by decide
section
variable {prog : Program} {w : World} {A : Around} {E : Value → Shared → Prop} {R : Result → Shared → Prop} {s : Shared} {K : Frag} {mg : Str → Option Value} {cn : Str} {C fI : Addr}
theorem init0 {txt : Str} {pp p0 p1 p2 p3 p4 p5 : Pos} {j : Nat} (T : SupC K mg cn C fI) (S : SupF K prog C fI (sA pp) [sLine txt p0 p1 p2 p3 p4 p5 j] sSc) {x t0 : Addr} (Y : Ard K mg s.heap) (hx : s.heap.get? x = some (HandSPX.excO C t0)) (hroom : A.depth < recursionLimit)
    (hq : ∀ h' tk t1, (∀ b o, b ≠ x → s.heap.get? b = some o → h'.get? b = some o) → h'.get? x = some (HandSPX.excO C t1) → R (.ok (.ret .none)) { s with heap := h', toks := tk })
    (hl : (p2.endLine == p4.line) = true := by rfl) :
    codeAny (model prog w) A (.call (.ref fI) ⟨[.ref x], []⟩) R s := by
  obtain ⟨oc, od, osl, qual, kV, doc, pm, ct, an, cda, cc, ccl, cdd, vs, ccs, file, tf, cl, cld, csl, hf, hcd, hcode, hvs, hfile, hcell, htop⟩ := S.ex
  refine PySem.ks_codeAny_call_defAt (fd := PySem.W.ksFn "__init__" qual (sA pp) [sLine txt p0 p1 p2 p3 p4 p5 j] sSc .none kV doc pm an (.ref cda) ct cc) (body := [sLine txt p0 p1 p2 p3 p4 p5 j]) (binds := [("self", .ref x)]) hroom (Y.kin _ _ hf) rfl Y.nolimit (PySem.W.codeRec_of Y.kin hcd) rfl
    (BindsTo.of_eq (by first | rfl | with_unfolding_all rfl)) sSc_cell (fun y hy => by rw [List.mem_singleton.mp hy]; rfl) (fun h0 hns keep => ?_)
  refine PySem.ks_wpAt_execs_cons ?_
  have Y0 : Ard K mg h0 := Y.keeps keep
  refine sup_line (s := ⟨h0, s.gens, s.drawn, s.toks + 1, s.os⟩) (L := s.heap.objs.size) T hf hcode hvs hfile hcell htop rfl rfl rfl rfl rfl rfl Y0 (keep _ _ hx) hns (by first | rfl | with_unfolding_all rfl | decide) rfl rfl ?_ fun h1 tk t1 k1 e1 => ?_
  · rw [PySem.arm_eval_Call]
    refine bind_congr fun ov => bind_congr fun _ => ?_
    exact mcall_line rfl hl
  · exact PySem.wpAt_of_wpAny (wpAny_execs_nil (hq h1 tk t1 (fun b o hb e => k1 b o hb (keep _ _ e)) e1))

theorem init1 {f txt : Str} {pp pq p0 p1 p2 p3 p4 p5 q1 q2 q3 q4 : Pos} {j : Nat} (T : SupC K mg cn C fI) (S : SupF K prog C fI (sA1 f pp pq) [sLine txt p0 p1 p2 p3 p4 p5 j, sSet f q1 q2 q3 q4] (sSc1 f)) {x t0 : Addr} {v : Value} (Y : Ard K mg s.heap) (hnx : K.lookup x = none)
    (hx : s.heap.get? x = some (HandSPX.excO C t0)) (hroom : A.depth < recursionLimit) (hsa : PySem.W.findIn K (.ref C) "__setattr__" = some (some (.builtin "object.__setattr__"))) (hno : PySem.W.findIn K (.ref C) f = some none)
    (hb : ∀ (qual : Str) (kV doc pm ct : Value) (an : Option Addr) (cda cc : Addr), bindArgs (PySem.W.ksFn "__init__" qual (sA1 f pp pq) [sLine txt p0 p1 p2 p3 p4 p5 j, sSet f q1 q2 q3 q4] (sSc1 f) .none kV doc pm an (.ref cda) ct cc) ⟨[.ref x, v], []⟩ = pure [(("self" : Str), Value.ref x), (f, v)])
    (hf1 : (sSc1 f).names.lookup f = some .local) (hfs : (f == ("self" : Str)) = false) (hfd : (f == ("__debug__" : Str)) = false) (hcl : (sSc1 f).names.lookup ("__class__" : Str) = some .free) (hsu : (sSc1 f).names.lookup ("super" : Str) = some .globalImplicit)
    (hq : ∀ h' tk t1 dx, (∀ b o, b ≠ x → s.heap.get? b = some o → h'.get? b = some o) → h'.get? x = some { cls := .ref C, dict := some dx, data := .fields #[.ref t1, .none, .none, .none, .bool false, .none] } → s.heap.objs.size ≤ dx → dx ≠ x →
      h'.Ns1 dx (fun y => if y = f then some v else none) → R (.ok (.ret .none)) { s with heap := h', toks := tk })
    (hl : (p2.endLine == p4.line) = true := by rfl) :
    codeAny (model prog w) A (.call (.ref fI) ⟨[.ref x, v], []⟩) R s := by
  obtain ⟨oc, od, osl, qual, kV, doc, pm, ct, an, cda, cc, ccl, cdd, vs, ccs, file, tf, cl, cld, csl, hf, hcd, hcode, hvs, hfile, hcell, htop⟩ := S.ex
  obtain ⟨nm, q, N, bs, bm, sn, sub, ab, col, dd, k0, k1', k2, k3, k5, hC, hbm⟩ := T.cls
  have hcl2 : PySem.W.clsIn K C = some { name := nm, bases := bs, mro := .ref C :: bm, ns := N, qualname := q, hasDict := true, slotNames := sn, subclasses := sub, abstract := ab, collection := col, hasDel := false } := by unfold PySem.W.clsIn; rw [hC] <;> rfl
  refine PySem.ks_codeAny_call_defAt (fd := PySem.W.ksFn "__init__" qual (sA1 f pp pq) [sLine txt p0 p1 p2 p3 p4 p5 j, sSet f q1 q2 q3 q4] (sSc1 f) .none kV doc pm an (.ref cda) ct cc) (body := [sLine txt p0 p1 p2 p3 p4 p5 j, sSet f q1 q2 q3 q4]) (binds := [("self", .ref x), (f, v)]) hroom (Y.kin _ _ hf) rfl Y.nolimit (PySem.W.codeRec_of Y.kin hcd) rfl
    (BindsTo.of_eq (hb _ _ _ _ _ _ _ _)) (fun y hy => by
      rcases List.mem_cons.mp hy with rfl | hy
      · exact fun z => nomatch z
      rcases List.mem_cons.mp hy with rfl | hy
      · exact fun z => nomatch z
      rcases List.mem_cons.mp hy with rfl | hy
      · exact fun z => nomatch z
      rw [List.mem_singleton.mp hy]
      exact fun z => nomatch z) (fun y hy => by
      rcases List.mem_cons.mp hy with rfl | hy
      · rfl
      · rw [List.mem_singleton.mp hy]; exact hf1) (fun h0 hns keep => ?_)
  refine PySem.ks_wpAt_execs_cons ?_
  have Y0 : Ard K mg h0 := Y.keeps keep
  have sel : List.lookup ("self" : Str) [(f, v), (("self" : Str), Value.ref x)] = some (.ref x) := by
    show (match (("self" : Str) == f) with | true => some v | false => List.lookup ("self" : Str) [(("self" : Str), Value.ref x)]) = _
    have e : (("self" : Str) == f) = false := by
      cases q : (("self" : Str) == f) with
      | false => rfl
      | true => rw [beq_iff_eq.mp q, beq_self_eq_true] at hfs; cases hfs
    rw [e]; rfl
  have fel : List.lookup f [(f, v), (("self" : Str), Value.ref x)] = some v := by
    show (match (f == f) with | true => some v | false => _) = _
    rw [beq_self_eq_true]
  refine sup_line (s := ⟨h0, s.gens, s.drawn, s.toks + 2, s.os⟩) (L := s.heap.objs.size) T hf hcode hvs hfile hcell htop rfl rfl rfl hsu hcl rfl Y0 (keep _ _ hx) hns sel rfl rfl ?_ fun h1 tk t1 kk e1 => ?_
  · rw [PySem.arm_eval_Call]
    refine bind_congr fun ov => bind_congr fun _ => ?_
    exact mcall_line rfl hl
  · refine PySem.wpAt_of_wpAny ?_
    have hxL : s.heap.objs.size ≠ x := Nat.ne_of_gt (Heap.lt_size hx)
    have hn1 : h1.Ns s.heap.objs.size (fun y => List.lookup y [(f, v), (("self" : Str), Value.ref x)]) := hns.at fun o e => kk _ _ hxL e
    have X1 : K.In h1 := in_but Y0.kin hnx kk
    refine wpAny_execs_cons (plainObj_wpAny_Assign_Attribute ?_)
    refine wpAny_Name (wpAny_loadName_local rfl hf1 hn1 fel ?_) hfd
    refine wpAny_Name (wpAny_loadName_local rfl rfl hn1 sel ?_) (by decide)
    refine PySem.W.set_plain X1 (ox := HandSPX.excO C t1) (od := none) ⟨e1, rfl, rfl, trivial⟩ hsa ?_
    refine HandSPX.exc_osa X1 e1 hcl2 (show HandSPX.refsVE (.ref C :: bm) = true from hbm) rfl hno fun h3 tk3 dx k3 dn dne hx3 hn3 => ?_
    show wpAny _ _ (execs _ _) _ _ _
    have z : s.heap.objs.size < h1.objs.size := hn1.lt
    exact wpAny_execs_nil (hq h3 tk3 t1 dx (fun b o hb e => k3 b o hb (kk b o hb (keep _ _ e))) hx3 (Nat.le_of_lt (Nat.lt_of_lt_of_le z dn)) dne hn3)
/-- C() -/
theorem made0 {txt : Str} {pp p0 p1 p2 p3 p4 p5 : Pos} {j : Nat} (T : SupC K mg cn C fI) (S : SupF K prog C fI (sA pp) [sLine txt p0 p1 p2 p3 p4 p5 j] sSc) (Y : Ard K mg s.heap) (hroom : A.depth + 1 < recursionLimit)
    (hq : ∀ h' tk t1, (∀ b o, s.heap.get? b = some o → h'.get? b = some o) → h'.get? (s.heap.objs.size + 1) = some (HandSPX.excO C t1) → R (.ok (.ret (.ref (s.heap.objs.size + 1)))) { s with heap := h', toks := tk })
    (hl : (p2.endLine == p4.line) = true := by rfl) : codeAny (model prog w) A (.call (.ref C) ⟨[], []⟩) R s := by
  obtain ⟨nm, q, N, bs, bm, sn, sub, ab, col, dd, k0, k1, k2, k3, k5, hC, hbm⟩ := T.cls
  obtain ⟨hp, g, dr, tk, os⟩ := s
  have k : ∀ b o, hp.get? b = some o → ((hp.push (PySem.W.kdv_tup [])).push (HandSPX.excO C hp.objs.size)).get? b = some o := fun b o e => Heap.get?_push_of_some _ (Heap.get?_push_of_some _ e)
  have hget : ((hp.push (PySem.W.kdv_tup [])).push (HandSPX.excO C hp.objs.size)).get? (hp.objs.size + 1) = some (HandSPX.excO C hp.objs.size) := by heap_get
  refine HandSPX.call_own PySem.F.excBase_ValueError (fun X => HandSPX.refsVE_contains X bm hbm) (Y.kin _ _ hC) (PySem.W.looks_findIn Y.kin T.iC) (fun self => PySem.W.bind_fn Y.kin self T.tI) nil_le ?_
  refine init0 (s := ⟨(hp.push (PySem.W.kdv_tup [])).push (HandSPX.excO C hp.objs.size), g, dr, tk, os⟩) T S (Y.keeps k) hget ?_ (fun h' tk' t1 k' hx => ?_) hl
  · show A.depth + 1 < recursionLimit
    exact hroom
  · exact ⟨rfl, hq h' tk' t1 (fun b o e => k' b o (Nat.ne_of_lt (Nat.lt_succ_of_lt (Heap.lt_size e))) (k b o e)) hx⟩
/-- C(v) -/
theorem made1 {f txt : Str} {pp pq p0 p1 p2 p3 p4 p5 q1 q2 q3 q4 : Pos} {j : Nat} (T : SupC K mg cn C fI) (S : SupF K prog C fI (sA1 f pp pq) [sLine txt p0 p1 p2 p3 p4 p5 j, sSet f q1 q2 q3 q4] (sSc1 f)) {v : Value} (Y : Ard K mg s.heap) (hroom : A.depth + 1 < recursionLimit)
    (hsa : PySem.W.findIn K (.ref C) "__setattr__" = some (some (.builtin "object.__setattr__"))) (hno : PySem.W.findIn K (.ref C) f = some none)
    (hb : ∀ (x : Addr) (qual : Str) (kV doc pm ct : Value) (an : Option Addr) (cda cc : Addr), bindArgs (PySem.W.ksFn "__init__" qual (sA1 f pp pq) [sLine txt p0 p1 p2 p3 p4 p5 j, sSet f q1 q2 q3 q4] (sSc1 f) .none kV doc pm an (.ref cda) ct cc) ⟨[.ref x, v], []⟩ = pure [(("self" : Str), Value.ref x), (f, v)])
    (hf1 : (sSc1 f).names.lookup f = some .local) (hfs : (f == ("self" : Str)) = false) (hfd : (f == ("__debug__" : Str)) = false) (hcl : (sSc1 f).names.lookup ("__class__" : Str) = some .free) (hsu : (sSc1 f).names.lookup ("super" : Str) = some .globalImplicit)
    (hq : ∀ h' tk t1 dx, (∀ b o, s.heap.get? b = some o → h'.get? b = some o) → h'.get? (s.heap.objs.size + 1) = some { cls := .ref C, dict := some dx, data := .fields #[.ref t1, .none, .none, .none, .bool false, .none] } → s.heap.objs.size ≤ dx → dx ≠ s.heap.objs.size + 1 →
      h'.Ns1 dx (fun y => if y = f then some v else none) → R (.ok (.ret (.ref (s.heap.objs.size + 1)))) { s with heap := h', toks := tk })
    (hl : (p2.endLine == p4.line) = true := by rfl) : codeAny (model prog w) A (.call (.ref C) ⟨[v], []⟩) R s := by
  obtain ⟨nm, q, N, bs, bm, sn, sub, ab, col, dd, k0, k1, k2, k3, k5, hC, hbm⟩ := T.cls
  obtain ⟨hp, g, dr, tk, os⟩ := s
  have k : ∀ b o, hp.get? b = some o → ((hp.push (PySem.W.kdv_tup [v])).push (HandSPX.excO C hp.objs.size)).get? b = some o := fun b o e => Heap.get?_push_of_some _ (Heap.get?_push_of_some _ e)
  have hget : ((hp.push (PySem.W.kdv_tup [v])).push (HandSPX.excO C hp.objs.size)).get? (hp.objs.size + 1) = some (HandSPX.excO C hp.objs.size) := by heap_get
  have hnx : K.lookup (hp.objs.size + 1) = none := by
    cases e : K.lookup (hp.objs.size + 1) with
    | none => rfl
    | some o => exact absurd (Nat.lt_of_succ_lt (Heap.lt_size (show hp.get? (hp.objs.size + 1) = some o from Y.kin _ _ e))) (Nat.lt_irrefl _)
  refine HandSPX.call_own PySem.F.excBase_ValueError (fun X => HandSPX.refsVE_contains X bm hbm) (Y.kin _ _ hC) (PySem.W.looks_findIn Y.kin T.iC) (fun self => PySem.W.bind_fn Y.kin self T.tI) (one_le v) ?_
  refine init1 (s := ⟨(hp.push (PySem.W.kdv_tup [v])).push (HandSPX.excO C hp.objs.size), g, dr, tk, os⟩) T S (Y.keeps k) hnx hget ?_ hsa hno (hb _) hf1 hfs hfd hcl hsu (fun h' tk' t1 dx k' hx dn dne hns => ?_) hl
  · show A.depth + 1 < recursionLimit
    exact hroom
  · have z : hp.objs.size + 1 + 1 ≤ dx := by
      have q := dn
      rw [Heap.size_push, Heap.size_push] at q
      exact q
    exact ⟨rfl, hq h' tk' t1 dx (fun b o e => k' b o (Nat.ne_of_lt (Nat.lt_succ_of_lt (Heap.lt_size e))) (k b o e)) hx (Nat.le_trans (Nat.le_trans (Nat.le_succ _) (Nat.le_succ _)) z) dne hns⟩
end
end Dl

namespace Dl
open PySem PySem.Spec PyProof.Rows L2
open PySem.W (Frag)
section
variable {X : Cx} {C fI : Addr} {cn : Str} {k : Nat} {p pos pos2 : Pos}
theorem Inv.ard {pins : List (Addr × Obj)} {σ : L2.St} {H : Hp} {s : Shared} (I : Inv X pins σ H s) : Ard X.K X.mg s.heap :=
  ⟨I.kIn, I.mod.glob.keeps I.bk, let ⟨mb, h1, h2⟩ := I.mod.blt; ⟨mb, h1.keeps I.bk, h2⟩, I.nolimit⟩
/-- C() -/
theorem pmk0 {txt : Str} {pp p0 p1 p2 p3 p4 p5 : Pos} {j : Nat} (T : SupC X.K X.mg cn C fI) (S : SupF X.K X.prog C fI (sA pp) [sLine txt p0 p1 p2 p3 p4 p5 j] sSc) (hr : Room k X.A) (hg : Gl X cn := by rfl) (hd : (cn == ("__debug__" : Str)) = false := by decide) (hl : (p2.endLine == p4.line) = true := by rfl) :
    PMk X (.Call (.Name cn p) [] [] pos) (fun _ H Q => Q (.ref C) none H) := by
  intro pins s σ H Q I h
  refine wpAny_Call_Name_kw (ld_glob I hg T.gC ?_ hd)
  refine PySem.W.callWith_K0 I.kIn T.kC ?_
  show wpAny _ _ (call (.ref C) []) _ _ _
  have Y := Dl.Inv.ard I
  obtain ⟨hp, g, dr, tk, os⟩ := s
  refine wpAny_call (made0 T S Y (by have := hr.dp; omega) (fun h' tk' t1 k' hx => ?_) hl)
  exact ⟨_, _, _, ⟨hp, g, dr, tk, os⟩, H, .ref C, none, rfl, I, k', by
    cases e : hp.get? (hp.objs.size + 1) with
    | none => rfl
    | some o => exact absurd (Nat.lt_of_succ_lt (Heap.lt_size e)) (Nat.lt_irrefl _), hx, ⟨rfl, rfl⟩, rfl, rfl, I.hok.fresh (Nat.le_succ _), rfl, I.bare, raises_own T.exC T.tyC, h⟩
variable {G : DG} {W : WX}
/-- raise C() -/
theorem evs_raise0 {txt : Str} {pp p0 p1 p2 p3 p4 p5 : Pos} {j : Nat} (c : Ctx0 G X) (T : SupC G.K G.mg cn C fI) (S : SupF G.K X.prog C fI (sA pp) [sLine txt p0 p1 p2 p3 p4 p5 j] sSc) (hr : Room k X.A) (tk : Takes X W) (hc : X.calm = true := by rfl) (hg : Gl X cn := by rfl)
    (hd : (cn == ("__debug__" : Str)) = false := by decide) (hl : (p2.endLine == p4.line) = true := by rfl) : EvS G W X (.Raise (some (.Call (.Name cn p) [] [] pos)) none pos2) (fun env P => P.ex ⟨cn, []⟩ env) := ⟨PS.imp (ps_raise hc tk (pmk0 (by rw [c.K, c.mg]; exact T) (by rw [c.K]; exact S) hr hg hd hl)) fun D σ H q => by
  obtain ⟨C', dk, F, env, P, rfl, o, hw, f⟩ := q
  exact f.ex _ _ _ _ _ _ _ _ hw o ⟨C, T.gC, rfl, rfl⟩⟩
end
/-! ### try .. except X as n -/
section
variable {G : DG} {W : WX} {X : Cx} {x n : Str} {c : Value} {i : Nat} {body suite : List Stmt} {b₀ : Stmt} {np pos pos' : Pos}
/-- what the suite is to reach -/
def Pd.sub (P : Pd) (i : Nat) : Pd := { nx := fun e => P.nx (e.set i .no), rt := P.rt, bk := fun e => P.bk (e.set i .no), ct := fun e => P.ct (e.set i .no), ex := fun _ _ => False }
def wTryAs (g : DG) (em : Str → Option Bool) (i : Nat) (wb : WS) (ws : Addr → Value → Option Addr → WS) : WS := fun env P => wb env { P with ex := fun x e => match em x.cls with
  | some true => ∀ a cls d, (∃ ax, g.mg x.cls = some (.ref ax) ∧ cls = .ref ax) → (x.val = [] → d = none) → ws a cls d (e.set i (.opq (.ref a))) (P.sub i)
  | some false => P.ex x e
  | none => False }
theorem XOk.cls {C : DC} {F H : Hp} {x : Exn} {cls : Value} {d : Option Addr} (h : XOk C F H x cls d) : (∃ ax, C.g.mg x.cls = some (.ref ax) ∧ cls = .ref ax) ∧ (x.val = [] → d = none) := by
  obtain ⟨a, h1, h2, h3⟩ := h
  refine ⟨⟨a, h1, h2⟩, fun e => ?_⟩
  rw [e] at h3
  exact h3
theorem evs_tryAs {em : Str → Option Bool} {wb : WS} {ws : Addr → Value → Option Addr → WS} (hC : Ctx0 G X) (hN : X.N.Nodup) (hc : Names X x c) (tk : Takes X W) (hem : ∀ m b ax, em m = some b → G.mg m = some (.ref ax) → PySem.W.exmOne G.K (.ref ax) c = some b)
    (hb : ∀ (W' : WX) (pn : List (Addr × Obj)) (xe : Value → Shared → Prop), Takes (X.tr pn xe) W' → PassesOwn (model X.prog X.w) X.A X.env xe → EvB G W' (X.tr pn xe) body wb)
    (hsu : ∀ (a : Addr) (oe : Obj) (cls : Value) (d : Option Addr) (pn : List (Addr × Obj)), Zc cls d oe → (∃ vs, oe.data = .fields vs) → EvB G W0 (X.suite a ((a, oe) :: pn)) (b₀ :: suite) (ws a cls d))
    (hs : X.stack = X.env :: X.outer := by rfl) (hf : X.env.frame = some X.env.locals := by rfl) (hi : X.N[i]? = some n := by rfl) (hln : X.env.kindOf n = some .local := by rfl) :
    EvS G W X (.Try body [.ExceptHandler (some (.Name x np)) (some n) (b₀ :: suite) pos'] [] [] pos) (wTryAs G em i wb ws) :=
  ⟨PS.imp (ps_try_as (tb := fun W' => LS G W' wb) (ts := fun a cls d => LS G W0 (ws a cls d)) (Wout := W) hs hf hN hi hln hc tk (fun W' pn xe t p => (hb W' pn xe t p).ps) (fun a oe cls d pn z v => (hsu a oe cls d pn z v).ps)) fun D σ H q => by
    obtain ⟨C, dk, F, env, P, rfl, o, hw, f⟩ := q
    refine ⟨C, dk, F, env, _, rfl, o, hw, ⟨f.nx, f.bk, f.ct, f.rt, fun x e cls d σ1 H1 F1 dk1 p o1 k1 => ?_⟩⟩
    have p' : (match em x.cls with
      | some true => ∀ a cls d, (∃ ax, C.g.mg x.cls = some (.ref ax) ∧ cls = .ref ax) → (x.val = [] → d = none) → ws a cls d (e.set i (.opq (.ref a))) (P.sub i)
      | some false => P.ex x e
      | none => False) := p
    obtain ⟨⟨ax, m1, rfl⟩, m2⟩ := XOk.cls k1
    cases z : em x.cls with
    | none => rw [z] at p'; exact p'.elim
    | some b =>
      rw [z] at p'
      refine ⟨b, by rw [hC.K]; exact hem _ _ _ z m1, fun eb a na => ?_, fun eb => ?_⟩
      · subst eb
        refine ⟨C, dk1, F1, e.set i (.opq (.ref a)), P.sub i, rfl, o1.store (s := .opq (.ref a)) rfl (fun c e => by cases e), p' a _ d ⟨ax, m1, rfl⟩ m2, ⟨?_, ?_, ?_, ?_, fun _ _ _ _ _ _ _ _ z => z.elim⟩⟩
        · exact fun env2 σ2 H2 F2 dk2 p2 o2 => f.nx _ _ _ _ _ p2 (o2.clear i)
        · exact fun env2 σ2 H2 F2 dk2 p2 o2 => f.bk _ _ _ _ _ p2 (o2.clear i)
        · exact fun env2 σ2 H2 F2 dk2 p2 o2 => f.ct _ _ _ _ _ p2 (o2.clear i)
        · exact f.rt
      · subst eb
        exact f.ex _ _ _ _ _ _ _ _ p' o1 k1⟩
/-- isinstance(n, D2), n the error of the suite, of the class D -/
def wIsE (i : Nat) (a D : Addr) (b : Bool) (cls : Value) (d : Option Addr) : WE := fun env P _ => (cls = .ref D ∧ d = none) ∧ env[i]? = some (.opq (.ref a)) ∧ P (.d (.bool b)) env
theorem ev_isE {a D D2 : Addr} {oe : Obj} {cls : Value} {d : Option Addr} {pn : List (Addr × Obj)} {n x2 : Str} {p p1 p2 ps : Pos} {b : Bool} (i : Nat) (hC : Ctx0 G X) (hz : Zc cls d oe) (hf : ∃ vs, oe.data = .fields vs) (ec : ExcC G.K D) (hk : PySem.W.kitOne G.K (.ref D) (.ref D2) = some b) (g2 : G.mg x2 = some (.ref D2)) (gi : G.mg "isinstance" = none)
    (hN : X.N[i]? = some n := by rfl) (hv : Vis X.env.scope n := by first | exact Or.inl rfl | exact Or.inr (Or.inl rfl) | exact Or.inr (Or.inr rfl)) (hg : Gl X "isinstance" := by rfl) (hg2 : Gl X x2 := by rfl)
    (hd : (n == ("__debug__" : Str)) = false := by decide) (hcd : (n == ("__classdict__" : Str)) = false := by decide) (hd2 : (x2 == ("__debug__" : Str)) = false := by decide)
    (he : starEach [.Name n p1, .Name x2 p2] X.env = (false, eval (.Name n p1) X.env) :: starEach [.Name x2 p2] X.env := by rfl) (he2 : starEach [.Name x2 p2] X.env = (false, eval (.Name x2 p2) X.env) :: starEach [] X.env := by rfl)
    (hpl : (backTo ps (starEach [.Name x2 p2] X.env)).any (·.1) = false := by rfl) :
    Ev G W (X.suite a ((a, oe) :: pn)) (.Call (.Name "isinstance" p) [.Name n p1, .Name x2 p2] [] ps) (wIsE i a D b cls d) := by
  refine Ev.of (t := fun σ H Q => (cls = .ref D ∧ d = none) ∧ tCB (rIsE G.K D a) (tCons (tVar i) (tCons (tC (.ref D2)) tNil)) σ H Q) ⟨fun pins s σ H Q I q => ?_⟩ fun C e dk σ H F env P Ex Q o h f => ?_
  · obtain ⟨⟨rfl, rfl⟩, q⟩ := q
    refine (pe_callB (X := X.suite a ((a, oe) :: pn)) (by have := call_isE (X := X) (a := a) (D := D) (oe := oe) (pn := pn) (by rw [hC.K]; exact ec) hz hf; rw [hC.K] at this; exact this) hg (show X.mg "isinstance" = none by rw [hC.mg]; exact gi) (by decide +kernel) (pa_cons (pv i hN hv hd hcd) (pa_cons (pe_glob (v := .ref D2) hg2 (show X.mg x2 = some (.ref D2) by rw [hC.mg]; exact g2) rfl hd2) pa_nil he2) he) (by decide) (by decide) he hpl).run pins s σ H Q I q
  · obtain ⟨h1, h2, h3⟩ := h
    have z := o.slot _ _ h2
    exact ⟨h1, _, gt_of z, _, _, b, rfl, fun u r => r, hk, f.1 _ _ _ _ _ h3 (Sub.refl F) (EnLe.refl env) o (Dq.bl b)⟩
end
end Dl

namespace Dl
open PySem PySem.Spec PyProof.Rows L2
section
variable {P : Program} {w : World} {g : DG} {base : Heap} {st : Stmt} {k : Nat} {N : List Str} {fa : Addr} {fd : FuncData}
/-- a def called where guards are told, for any promise -/
theorem raw_run {x : Str} {ps : List Str} (Fn : L2.Fun g.K x x st fa fd) (S : FnScope N ps (defScope st)) {A : Around} {outer : List Env} {s : Shared} {H : Hp} {args : Args} {us : List Value} {vs : List V} {Q : VK} {E : XK} (hr : Room (k + 1) A) (e0 : Env0 P w g.K g.mg base A outer s H) (lenV : vs.length = ps.length)
    (hb : BindsTo s fd args (ps.zip us)) (rv : Vals vs us)
    (hbody : ∀ cdv : Value, Room k (A.deeper (envOfC x (defScope st) s.heap.objs.size fa cdv)) → ∃ t, PSs (cxOf (L2.CX P w) P w g.K g.mg base N x (defScope st) fa cdv A outer s H E) (defBody st) t ∧ t { nx := fun _ H' => Q .non H', rt := Q } (start N vs) H) :
    codeAny (model P w) A (.call (.ref fa) args) (CR (L2.CX P w) outer P w H s Q E) s := by
  obtain ⟨oc, od, kV, doc, pm, an, cdv, ct, osl, efd, lk, hcd⟩ := Fn.ex
  subst efd
  have inS : g.K.In s.heap := e0.mod.kin.keeps fun b o e => (e0.bs b o e).1
  have noL : s.heap.NoLimit := e0.mod.nolimit.keeps fun b o e => (e0.bs b o e).1
  have kinds : ∀ y ∈ ps.zip us, (defScope st).names.lookup y.1 = some .local ∨ ((defScope st).names.lookup y.1 = some .cell ∧ ((cellsFrom (s.heap.objs.size + 1) (defScope st).names []).lookup y.1).isSome = true) := by
    rintro ⟨n, v⟩ hy
    exact (S.par n (List.of_mem_zip hy).1).imp id fun q => ⟨q, PySem.W.cellsFrom_some _ _ _ (.inl q)⟩
  refine codeAny_call_function hr.depth (inS _ _ lk) rfl S.co S.gen rfl (PySem.W.codeRec_of inS hcd) (hb _ _ _ _ (wpAny_newFunctionEnv_cells S.kind kinds fun env he s1 z => ?_))
  subst he
  obtain ⟨t, ht, hq⟩ := hbody cdv (hr.deeper _)
  have J := inv_start (CX := L2.CX P w) (E := E) S hr.hd e0 lenV rv z
  refine ⟨noL.keeps z.toInCall.keep, codeAny_func (wpAny_mono (ht.run [] s1 (start N vs) H _ J hq) (fun fl s' hs => ?_) fun _ _ q => q)⟩
  cases fl with
  | ret u => obtain ⟨v, σ', H', J', r', q⟩ := hs; exact ⟨v, H', J'.os, J'.bare, J'.base, J'.hok, r', q⟩
  | next => obtain ⟨σ', H', J', q⟩ := hs; exact ⟨V.non, H', J'.os, J'.bare, J'.base, J'.hok, rfl, q⟩
  | brk => obtain ⟨_, _, _, q⟩ := hs; exact q.elim
  | cont => obtain ⟨_, _, _, q⟩ := hs; exact q.elim
/-- what a law's body behind its first line is to reach -/
def lawP : Pd := ⟨fun _ => False, fun r => r = .d (.bool true), fun _ => False, fun _ => False, fun _ _ => False⟩
def lawE (N : List Str) (a : Addr) : En := .opq (.ref a) :: .deck :: List.replicate (N.length - 2) .no
theorem gt_no (N : List V) : True := trivial
/-- THE LAW: its first line makes the deck, the rest is judged by data -/
theorem law_dl {s1 : Stmt} {rest : List Stmt} {wr : WS} (Fn : L2.Fun g.K "law" "law" st fa fd) (S : FnScope N ["script"] (defScope st)) (hbd : defBody st = s1 :: rest) (hN : 2 ≤ N.length) (hr : Room (k + 1) callerA)
    (hbind : ∀ (s : Shared) (u : Value), BindsTo s fd ⟨[u], []⟩ [(("script" : Str), u)])
    (h1 : ∀ (cdv : Value) (A : Around) (outer : List Env) (s : Shared) (H : Hp) (E : XK), Bc P w g base k (fun cls d _ H => E cls d H) (cxOf (L2.CX P w) P w g.K g.mg base N "law" (defScope st) fa cdv A outer s H E) → PS (cxOf (L2.CX P w) P w g.K g.mg base N "law" (defScope st) fa cdv A outer s H E) s1 (tAsg (tCall (spDeck g) [] E0 (tCons (tVar 0) tNil)) (gName 1)))
    (h2 : ∀ (cdv : Value) (A : Around) (outer : List Env) (s : Shared) (H : Hp) (E : XK), Bc P w g base k (fun cls d _ H => E cls d H) (cxOf (L2.CX P w) P w g.K g.mg base N "law" (defScope st) fa cdv A outer s H E) → EvB g (fun cls d _ H => E cls d H) (cxOf (L2.CX P w) P w g.K g.mg base N "law" (defScope st) fa cdv A outer s H E) rest wr)
    (hp : ∀ a, wr (lawE N a) lawP) {a : Addr} {ns : List Int} (hns : ns.length ≤ 63) : LawRun P w g.K g.mg base fa a ns := by
  intro s H e0 hO hS
  refine raw_run (ps := ["script"]) (vs := [.ref a]) (us := [.ref a]) Fn S hr e0 rfl (hbind s (.ref a)) (.cons rfl .nil) fun cdv hr' => ?_
  have B : Bc P w g base k (fun cls d _ H => (fun _ _ _ => False : XK) cls d H) (cxOf (L2.CX P w) P w g.K g.mg base N "law" (defScope st) fa cdv callerA [] s H fun _ _ _ => False) := by
    refine ⟨⟨rfl, rfl, ?_, rfl⟩, hr', takes_of rfl rfl rfl rfl, passes_of rfl, rfl, rfl, rfl⟩
    have := hr'.un
    show (callerA.deeper _).units + 65 < cLine
    omega
  refine ⟨_, by rw [hbd]; exact pss_cons (h1 cdv callerA [] s H _ B) (h2 cdv callerA [] s H _ B).ps, ?_⟩
  have hσ : (start N [V.ref a])[0]? = some (some (.ref a)) := by
    unfold L2.start
    rfl
  refine ⟨.ref a, hσ, a, ns, rfl, hS, hns, fun da dl H' nda ndl kp dO => ?_⟩
  refine ⟨⟨g, fun _ => none, fun _ => none, some (da, dl)⟩, some (da, dl), fun _ => none, lawE N a, lawP, rfl, ⟨fun _ _ e => (nomatch e), ?_, fun i z e => ?_, fun i j c c' p e _ _ _ => ?_, dO, fun _ _ e => (nomatch e), fun _ _ e => (nomatch e), fun _ _ e => (nomatch e), .inl rfl⟩, hp a, ⟨fun _ _ _ _ _ p _ => p.elim, fun _ _ _ _ _ p _ => p.elim, fun _ _ _ _ _ p _ => p.elim, fun r v _ _ _ _ _ p _ q => ?_, fun _ _ _ _ _ _ _ _ p _ => p.elim⟩⟩
  · unfold L2.start lawE
    simp
    omega
  · match i, e with
    | 0, e =>
      cases e
      show gt _ 0 = some (V.ref a)
      unfold gt
      rw [List.getElem?_set_ne (by decide), hσ]
      rfl
    | 1, e =>
      cases e
      refine ⟨da, dl, rfl, ?_⟩
      unfold gt
      rw [List.getElem?_set_self (by unfold L2.start; simp; omega)]
      rfl
    | i + 2, e =>
      have e' : (List.replicate (N.length - 2) Sl.no)[i]? = some z := by simpa [lawE] using e
      rw [List.getElem?_replicate] at e'
      by_cases hz : i < N.length - 2
      · rw [if_pos hz] at e'; cases e'; trivial
      · rw [if_neg hz] at e'; cases e'
  · match i, e with
    | 0, e => cases e
    | 1, e => cases e
    | i + 2, e =>
      have e' : (List.replicate (N.length - 2) Sl.no)[i]? = some (.own c) := by simpa [lawE] using e
      rw [List.getElem?_replicate] at e'
      by_cases hz : i < N.length - 2
      · rw [if_pos hz] at e'; cases e'
      · rw [if_neg hz] at e'; cases e'
  · have er : r = .d (.bool true) := p
    rw [er] at q
    cases (show Dq _ _ v (.bool true) from q)
    rfl
end
end Dl

namespace Dl
open PySem PySem.Spec PyProof.Rows L2
open PySem.W (Frag)
open He (ga ma)
/-! ### what the head tells of an own error's class -/
def supClsB (K : Frag) (C : Addr) : Bool := match K.lookup C with
  | some ⟨.type t, _, .cls cd, sl⟩ => decide (t = "type") && (match cd.mro, sl.toList with
    | .ref D :: bm, [_, _, _, _, some (.builtin n), _] => decide (D = C) && (decide (n = "ValueError.__new__") && (cd.hasDict && (!cd.hasDel && HandSPX.refsVE bm)))
    | _, _ => false)
  | _ => false
theorem supCls_ok {K : Frag} {C : Addr} (h : supClsB K C = true) : ∃ nm q N bs bm sn sub ab col dd k0 k1 k2 k3 k5, K.lookup C = some (excClassObj nm q C N bs bm true sn sub ab col dd k0 k1 k2 k3 k5 "ValueError.__new__") ∧ HandSPX.refsVE bm = true := by
  unfold supClsB at h
  split at h
  · rename_i t dd cd sl e
    obtain ⟨h1, h2⟩ := He.ba h
    have et := of_decide_eq_true h1
    subst et
    split at h2
    · rename_i D bm k0 k1 k2 k3 n k5 em es
      obtain ⟨h3, h4⟩ := He.ba h2
      obtain ⟨h5, h6⟩ := He.ba h4
      obtain ⟨h7, h8⟩ := He.ba h6
      obtain ⟨h9, h10⟩ := He.ba h8
      have eD := of_decide_eq_true h3
      have en := of_decide_eq_true h5
      subst eD en
      obtain ⟨nm, bs, mro, ns, qn, hd, sn, sb, ab, col, del⟩ := cd
      dsimp only at em h7 h9
      have edel : del = false := by cases del <;> first | rfl | cases h9
      subst em h7 edel
      obtain ⟨l⟩ := sl
      have el : l = [k0, k1, k2, k3, some (.builtin "ValueError.__new__"), k5] := es
      subst el
      exact ⟨nm, qn, ns, bs, bm, sn, sb, ab, col, dd, k0, k1, k2, k3, k5, e, h10⟩
    · cases h2
  · cases h
def eqB (a b : Option Bool) : Bool := decide (a = b)
/-- all of SupC but the module's names -/
def supB (K : Frag) (cn : Str) : Bool := (He.Fa.glo cn).ok K && (PySem.W.keepIn K (.ref (ga K cn)) && (supClsB K (ga K cn) && (He.eqO (PySem.W.findIn K (.ref (ga K cn)) "__init__") (some (some (.ref (ma K (ga K cn) "__init__")))) &&
  (decide (PySem.W.typeIn K (.ref (ma K (ga K cn) "__init__")) = some (.type "function")) && (eqB (PySem.W.subIn K (.ref (ga K cn)) (.type "BaseException")) (some true) && (decide (PySem.W.typeIn K (.ref (ga K cn)) = some (.type "type")) &&
  (He.eqO (PySem.W.ks_superIn K (ga K cn) (ga K cn) "__init__") (some (some (.builtin "ValueError.__init__"))) && (eqB (PySem.W.subIn K (.ref (ga K cn)) (.type "ValueError")) (some true) && (eqB (PySem.W.mroIn K (ga K cn) (.ref (ga K cn))) (some true) &&
  (He.eqO (PySem.W.nsIn K cStatics "thirdparty.any") (some none) && (He.Fa.free "super").ok K))))))))))
theorem sup_ok {K : Frag} {h : Heap} {mg : Str → Option Value} (X : K.In h) (G : h.Ns mainGlobals mg) {cn : Str} (c : supB K cn = true) : SupC K mg cn (ga K cn) (ma K (ga K cn) "__init__") := by
  obtain ⟨c1, c⟩ := He.ba c
  obtain ⟨c2, c⟩ := He.ba c
  obtain ⟨c3, c⟩ := He.ba c
  obtain ⟨c4, c⟩ := He.ba c
  obtain ⟨c5, c⟩ := He.ba c
  obtain ⟨c6, c⟩ := He.ba c
  obtain ⟨c7, c⟩ := He.ba c
  obtain ⟨c8, c⟩ := He.ba c
  obtain ⟨c9, c⟩ := He.ba c
  obtain ⟨c10, c⟩ := He.ba c
  obtain ⟨c11, c12⟩ := He.ba c
  exact ⟨He.glo_ok X G c1, c2, supCls_ok c3, He.eqO_ok c4, of_decide_eq_true c5, of_decide_eq_true c6, of_decide_eq_true c7, He.eqO_ok c8, of_decide_eq_true c9, of_decide_eq_true c10, He.eqO_ok c11, He.free_ok X G c12⟩
/-- its __init__ -/
abbrev FnS : Type := Option (Str × Arguments × FuncBody × Scope × Addr × Value × Addr)
def fnS (K : Frag) (cn : Str) : FnS := match K.lookup (ma K (ga K cn) "__init__") with
  | some ⟨_, _, .func fd, _⟩ => some (fd.name, fd.params, fd.body, fd.scope, fd.globals, fd.defaults, fd.builtins)
  | _ => none
structure SupD where
  cn : Str
  params : Arguments
  body : List Stmt
  scope : Scope
def SupD.val (d : SupD) : FnS := some ("__init__", d.params, .stmts d.body, d.scope, mainGlobals, .none, builtinsNs)
def supFB (K : Frag) (file : Str) (cn : Str) : Bool := match K.lookup (ma K (ga K cn) "__init__") with
  | some ⟨_, _, .func fd, _⟩ => PySem.W.codeIn K fd.code fd.qualname && ((match fd.code with
    | .ref cda => (match K.lookup cda with
      | some ⟨_, _, .fields vs, _⟩ => (match (vs[2]? : Option Value) with
        | some (Value.str f _) => file == f
        | _ => false)
      | _ => false)
    | _ => false) && (match fd.closure with
    | [(x, cc)] => decide (x = "__class__") && (match K.lookup cc with
      | some ⟨_, _, .cell (some (.ref D)), _⟩ => decide (D = ga K cn)
      | _ => false)
    | _ => false))
  | _ => false
theorem supF_ok {K : Frag} {prog : Program} {d : SupD} (e : fnS K d.cn = d.val) (c : supFB K prog.main.file d.cn = true) (top : (prog.main.scope.names.lookup ("super" : Str)).isSome = false) : SupF K prog (ga K d.cn) (ma K (ga K d.cn) "__init__") d.params d.body d.scope := by
  unfold fnS at e
  unfold supFB at c
  cases q : K.lookup (ma K (ga K d.cn) "__init__") with
  | none => rw [q] at c; cases c
  | some o =>
    obtain ⟨oc, od, dt, osl⟩ := o
    rw [q] at c e
    cases dt with
    | func fd =>
      obtain ⟨n1, n2, n3, n4, n5, n6, n7, n8, n9, n10, n11, n12, n13, n14, n15⟩ := fd
      have e2 : some ((n1, n3, n4, n5, n6, n8, n15) : Str × Arguments × FuncBody × Scope × Addr × Value × Addr) = some ((("__init__" : Str), d.params, FuncBody.stmts d.body, d.scope, mainGlobals, Value.none, builtinsNs) : Str × Arguments × FuncBody × Scope × Addr × Value × Addr) := e
      simp only [Option.some.injEq, Prod.mk.injEq] at e2
      obtain ⟨h1, h2, h3, h4, h5, h6, h7⟩ := e2
      obtain ⟨c1, c2⟩ := He.ba c
      obtain ⟨c3, c4⟩ := He.ba c2
      dsimp only at c1 c3 c4
      cases n13 with
      | ref cda =>
        dsimp only at c3
        cases qa : K.lookup cda with
        | none => rw [qa] at c3; cases c3
        | some oa =>
          obtain ⟨oca, oda, dta, osa⟩ := oa
          rw [qa] at c3
          cases dta with
          | fields vs =>
            dsimp only at c3
            cases qv : vs[2]? with
            | none => rw [qv] at c3; cases c3
            | some v =>
              rw [qv] at c3
              cases v with
              | str f t =>
                match n7, c4 with
                | [(x, cc)], c4 =>
                  obtain ⟨c5, c6⟩ := He.ba c4
                  have ex := of_decide_eq_true c5
                  cases qc : K.lookup cc with
                  | none => rw [qc] at c6; cases c6
                  | some occ =>
                    obtain ⟨o1, o2, o3, o4⟩ := occ
                    rw [qc] at c6
                    cases o3 with
                    | cell ov =>
                      cases ov with
                      | none => cases c6
                      | some v =>
                        cases v with
                        | ref D =>
                          have eD : D = ga K d.cn := of_decide_eq_true c6
                          subst h1 h2 h3 h4 h5 h6 h7 ex eD
                          exact ⟨oc, od, osl, n2, n9, n10, n11, n14, n12, cda, cc, oca, oda, vs, osa, f, t, o1, o2, o4, q, c1, qa, qv, c3, qc, top⟩
                        | _ => cases c6
                    | _ => cases c6
              | _ => cases c3
          | _ => cases c3
      | _ => cases c3
    | _ => cases c
/-- a name of the module that stands for a built-in function -/
def bltB (K : Frag) (x : Str) (i : String) : Bool := He.eqO (PySem.W.nsIn K mainGlobals x) (some (some (.builtin i)))
theorem blt_ok {K : Frag} {h : Heap} {mg : Str → Option Value} (X : K.In h) (G : h.Ns mainGlobals mg) {x : Str} {i : String} (c : bltB K x i = true) : mg x = some (.builtin i) := PySem.W.mg_of X G (He.eqO_ok c)
/-- isinstance of an error -/
def excCB (K : Frag) (D : Addr) : Bool := He.eqO (PySem.W.findIn K (.ref D) "__getattribute__") (some (some (.builtin "BaseException.__getattribute__"))) && (He.eqO (PySem.W.findIn K (.ref D) "__getattr__") (some none) && (eqB (PySem.W.subIn K (.ref D) (.type "BaseException")) (some true) &&
  (PySem.W.hasDictIn K D && (He.eqO (PySem.W.findIn K (.ref D) "__class__") (some (some (.builtin "object.__class__"))) && (He.eqO (PySem.W.specialIn K (.builtin "object.__class__") "__get__") (some (some (.builtin "getset_descriptor.__get__"))) &&
  (eqB (PySem.W.takesIn K (.builtin "object.__class__")) (some true) && eqB (PySem.W.mroIn K D (.type "object")) (some true)))))))
theorem excC_ok {K : Frag} {D : Addr} (c : excCB K D = true) : ExcC K D := by
  obtain ⟨c1, c⟩ := He.ba c
  obtain ⟨c2, c⟩ := He.ba c
  obtain ⟨c3, c⟩ := He.ba c
  obtain ⟨c4, c⟩ := He.ba c
  obtain ⟨c5, c⟩ := He.ba c
  obtain ⟨c6, c⟩ := He.ba c
  obtain ⟨c7, c8⟩ := He.ba c
  exact ⟨He.eqO_ok c1, He.eqO_ok c2, of_decide_eq_true c3, c4, He.eqO_ok c5, He.eqO_ok c6, of_decide_eq_true c7, of_decide_eq_true c8⟩
def kitB (K : Frag) (x y : Str) (b : Bool) : Bool := eqB (PySem.W.kitOne K (.ref (ga K x)) (.ref (ga K y))) (some b)
def exmB (K : Frag) (x y : Str) (b : Bool) : Bool := eqB (PySem.W.exmOne K (.ref (ga K x)) (.ref (ga K y))) (some b)
/-! ### the Hook -/
def asS (g : Addr → Option Obj) (n : Nat) : List Addr := (He.asD g n ++ [cStatics]).eraseDups
abbrev AlS : Type := He.AlD × Bool × List FnS
def obsS (fa : List He.Fa) (fn : List He.DefD) (ex : Frag → Bool) (cs : List SupD) (K : Frag) : AlS := (He.obsD fa fn K, ex K, cs.map fun d => fnS K d.cn)
def valS (fn : List He.DefD) (cs : List SupD) : AlS := (He.valD fn, true, cs.map SupD.val)
def obsSG (n : Nat) (fa : List He.Fa) (fn : List He.DefD) (ex : Frag → Bool) (cs : List SupD) (g : Addr → Option Obj) : AlS := obsS fa fn ex cs (He.frG g (asS g n))
def SaysS (fa : List He.Fa) (fn : List He.DefD) (ex : Frag → Bool) (cs : List SupD) (K : Frag) : Prop := obsS fa fn ex cs K = valS fn cs
def hookS (n : Nat) (fa : List He.Fa) (fn : List He.DefD) (ex : Frag → Bool) (cs : List SupD) : PySem.W.Hook where
  α := AlS
  obs := fun s => obsSG n fa fn ex cs s.heap.get?
  val := fun _ => valS fn cs
  says := fun _ h => ∃ K : Frag, K.In h ∧ SaysS fa fn ex cs K
  of := fun _ _ e => ⟨_, He.frG_in, e⟩
  keeps := fun _ _ _ ⟨K, hK, c⟩ k => ⟨K, PySem.W.Frag.In.keeps hK k, c⟩
theorem obsSG_eq {n : Nat} {fa : List He.Fa} {fn : List He.DefD} {ex : Frag → Bool} {cs : List SupD} {g : Addr → Option Obj} {s : Shared} (h : ∀ a, g a = s.heap.get? a) : obsSG n fa fn ex cs g = (hookS n fa fn ex cs).obs s := by
  have e : g = s.heap.get? := funext h
  rw [e] <;> rfl
section
variable {fa : List He.Fa} {fn : List He.DefD} {ex : Frag → Bool} {cs : List SupD} {K : Frag}
theorem SaysS.d (c : SaysS fa fn ex cs K) : He.SaysD fa fn K := congrArg (fun z : AlS => z.1) c
theorem SaysS.more (c : SaysS fa fn ex cs K) : ex K = true := congrArg (fun z : AlS => z.2.1) c
theorem SaysS.sup (c : SaysS fa fn ex cs K) (i : Nat) {d : SupD} (h : cs[i]? = some d := by rfl) : fnS K d.cn = d.val := by
  have e : cs.map (fun d => fnS K d.cn) = cs.map SupD.val := congrArg (fun z : AlS => z.2.2) c
  have e2 : (cs.map fun d => fnS K d.cn)[i]? = (cs.map SupD.val)[i]? := by rw [e]
  rw [List.getElem?_map, List.getElem?_map, h] at e2
  exact Option.some.inj e2
end
/-- a def's datum -/
def mkD (x : Str) (st : Stmt) : He.DefD := ⟨(x, none), x, x, defArgs st, defBody st, defScope st, [], []⟩
theorem SaysS.fun_ {fa : List He.Fa} {fn : List He.DefD} {ex : Frag → Bool} {cs : List SupD} {K : Frag} (c : SaysS fa fn ex cs K) (i : Nat) {x : Str} {st : Stmt} (h : fn[i]? = some (mkD x st) := by rfl) : ∃ fd, L2.Fun K x x st (ga K x) fd := by
  obtain ⟨fd, F⟩ := c.d.def_ i h
  obtain ⟨oc, od, dV, kV, doc, pm, an, cdv, ct, osl, efd, lk, hcd, dfl, kwd⟩ := F.ex
  rcases dfl with ⟨_, e⟩ | ⟨ne, _⟩
  · subst e
    exact ⟨fd, ⟨oc, od, kV, doc, pm, an, cdv, ct, osl, efd, lk, hcd⟩, F.kp⟩
  · exact (ne rfl).elim
end Dl

namespace Dl
open PySem
/-! ### how long a text of data may be -/
mutual
def cost : PyData → Nat
  | .none => 4
  | .bool _ => 5
  | .int _ => 1921
  | .str x => (reprText x).length
  | .list xs => costAll xs + 3
  | .tuple xs => costAll xs + 3
  | .dict kvs => (PyData.shown (.dict kvs)).length
def costAll : List PyData → Nat
  | [] => 0
  | x :: xs => cost x + 2 + costAll xs
end
theorem textFrom_le : ∀ (ts : List Str) (k : Nat) (acc : Str), (textFrom k acc ts).length ≤ acc.length + piled ts
  | [], k, acc => Nat.le_add_right _ _
  | t :: ts, k, acc => by
    have h := textFrom_le ts (k + 1) (acc ++ (if k > 0 then ", " else "" : String) ++ t)
    have e : (textFrom k acc (t :: ts)) = textFrom (k + 1) (acc ++ (if k > 0 then ", " else "" : String) ++ t) ts := rfl
    rw [e, piled_cons]
    rw [Str.length_append, Str.length_append] at h
    have hs : (Str.ofString (if k > 0 then ", " else "" : String)).length ≤ 2 := by
      by_cases hk : k > 0
      · rw [if_pos hk]; decide
      · rw [if_neg hk]; decide
    omega
theorem listText_le (ts : List Str) : (listText ts).length ≤ piled ts + 2 := by
  unfold listText
  rw [Str.length_append]
  have := textFrom_le ts 0 "["
  have h1 : (Str.ofString "[").length = 1 := by decide
  have h2 : (Str.ofString "]").length = 1 := by decide
  omega
theorem tupleText_le (ts : List Str) : (tupleText ts).length ≤ piled ts + 3 := by
  unfold tupleText
  rw [Str.length_append, Str.length_append]
  have h1 : (Str.ofString "(").length = 1 := by decide
  have h3 : (Str.ofString (if ts.length == 1 then ",)" else ")" : String)).length ≤ 2 := by
    cases ts.length == 1 <;> decide
  cases ts with
  | nil =>
    have : (Str.join ", " ([] : List Str)).length = 0 := rfl
    rw [piled_nil]
    omega
  | cons t ts =>
    have := join_length_add (t :: ts) (by simp)
    omega
mutual
theorem shown_le : ∀ d : PyData, d.showable = true → d.shown.length ≤ cost d
  | .none, _ => by decide
  | .bool b, _ => by cases b <;> decide
  | .int i, h => by
    have h' : decide (i.natAbs.log2 < 1920) = true := by simpa [PyData.showable] using h
    simp only [PyData.shown, cost]
    exact PyProof.Rows.int_text_len_1921 (of_decide_eq_true h')
  | .str x, _ => by simp only [PyData.shown, cost]; exact Nat.le_refl _
  | .list xs, h => by
    have h' : PyData.showableAll xs = true := by simpa [PyData.showable] using h
    have := shownAll_le xs h'
    simp only [PyData.shown, cost]
    have := listText_le (PyData.shownAll xs)
    omega
  | .tuple xs, h => by
    have h' : PyData.showableAll xs = true := by simpa [PyData.showable] using h
    have := shownAll_le xs h'
    simp only [PyData.shown, cost]
    have := tupleText_le (PyData.shownAll xs)
    omega
  | .dict kvs, _ => by simp only [cost]; exact Nat.le_refl _
theorem shownAll_le : ∀ ds : List PyData, PyData.showableAll ds = true → piled (PyData.shownAll ds) ≤ costAll ds
  | [], _ => by simp [PyData.shownAll, piled_nil, costAll]
  | d :: ds, h => by
    have h' : d.showable = true ∧ PyData.showableAll ds = true := by simpa [PyData.showableAll] using h
    have h1 := shown_le d h'.1
    have h2 := shownAll_le ds h'.2
    simp only [PyData.shownAll, costAll, piled_cons]
    omega
end
end Dl

namespace Dl
open PySem PySem.Spec PyProof.Rows L2
/-! ### the readings' equations -/
section
variable {env e : En} {P : R → En → Prop} {Ex : Exn → En → Prop} {wa wb w : WE} {ws : List WE} {i j : Int} {n m : Nat} {x y : PyData} {xs ys : List PyData} {K : R → Prop} {a b : Str}
theorem wV_eq : wV n env P Ex = (match env[n]? with
  | some (.d x) => P (.d x) env
  | some (.own c) => P (.bw n c) env
  | some .deck => P .deck env
  | some (.opq v) => P (.opq v) env
  | _ => False) := rfl
theorem wC_eq : wC x env P Ex = P (.d x) env := rfl
theorem wOp_eq {op : Op2} : wOp op wa wb env P Ex = wa env (fun r e => wb e (fun s e' => match r.toD, s.toD with
  | some x, some y => op x y fun t => P t e'
  | _, _ => False) Ex) Ex := rfl
theorem wOp1_eq {op : Op1} : wOp1 op wa env P Ex = wa env (fun r e => match r.toD with
  | some x => op x fun t => P t e
  | _ => False) Ex := rfl
theorem wB_eq {op : OpN} : wB op ws env P Ex = wA ws env (fun rs e => match toDs rs with
  | some xs => op xs fun t => P t e
  | none => False) Ex := rfl
theorem wA_nil {P : List R → En → Prop} : wA [] env P Ex = P [] env := rfl
theorem wA_cons {P : List R → En → Prop} : wA (w :: ws) env P Ex = w env (fun r e => wA ws e (fun rs e' => P (r.calm :: rs) e') Ex) Ex := rfl
theorem wTup_eq : wTup ws env P Ex = wA ws env (fun rs e => match toDs rs with
  | some xs => P (.d (.tuple xs)) (holdAll rs e)
  | none => False) Ex := rfl
theorem wLst_eq : wLst ws env P Ex = wA ws env (fun rs e => match toDs rs with
  | some xs => P (.nw (.lst xs)) (holdAll rs e)
  | none => False) Ex := rfl
theorem wCall_eq {f : FSem} : wCall f ws env P Ex = wA ws env (fun rs e => f (rs.map argOf) (fun t => match t with
  | .deck => False
  | t => P t (if t.flat = true then e else holdAll rs e)) fun x => Ex x (holdAll rs e)) Ex := rfl
theorem wCallK_eq {f : FSem} {idx : List Nat} : wCallK f idx ws env P Ex = wA ws env (fun rs e => f ((prm idx rs).map argOf) (fun t => match t with
  | .deck => False
  | t => P t (if t.flat = true then e else holdAll (prm idx rs) e)) fun x => Ex x (holdAll (prm idx rs) e)) Ex := rfl
theorem wIf_eq {c : WT} : wIf c wa wb env P Ex = c env (fun k e => if k = true then wa e P Ex else wb e P Ex) Ex := rfl
theorem wAnd_eq : wAnd wa wb env P Ex = wa env (fun r e => match r.toD with
  | some (.bool b) => if b = true then wb e P Ex else P (.d (.bool false)) e
  | _ => False) Ex := rfl
theorem wOr_eq : wOr wa wb env P Ex = wa env (fun r e => match r.toD with
  | some (.bool b) => if b = true then P (.d (.bool true)) e else wb e P Ex
  | _ => False) Ex := rfl
theorem tOf_eq {P : Bool → En → Prop} : tOf w env P Ex = w env (fun r e => match r.toD with
  | some (.bool b) => P b e
  | _ => False) Ex := rfl
theorem tNotW_eq {t : WT} {P : Bool → En → Prop} : tNotW t env P Ex = t env (fun b e => P (!b) e) Ex := rfl
theorem tAndW_eq {t u : WT} {P : Bool → En → Prop} : tAndW t u env P Ex = t env (fun b e => if b = true then u e P Ex else P false e) Ex := rfl
theorem tOrW_eq {t u : WT} {P : Bool → En → Prop} : tOrW t u env P Ex = t env (fun b e => if b = true then P true e else u e P Ex) Ex := rfl
theorem wIsE_eq {k : Nat} {a D : Addr} {b : Bool} {cls : Value} {d : Option Addr} : wIsE k a D b cls d env P Ex = ((cls = .ref D ∧ d = none) ∧ env[k]? = some (.opq (.ref a)) ∧ P (.d (.bool b)) env) := rfl
/-! results -/
theorem toD_d : (R.d x).toD = some x := rfl
theorem toD_nw : (R.nw (.lst xs)).toD = some (.list xs) := rfl
theorem toD_bw : (R.bw n (.lst xs)).toD = some (.list xs) := rfl
theorem toD_deck : R.deck.toD = none := rfl
theorem calm_d : (R.d x).calm = .d x := rfl
theorem calm_nw : (R.nw (.lst xs)).calm = .d (.list xs) := rfl
theorem calm_bw {c : Cell} : (R.bw n c).calm = .bw n c := rfl
theorem calm_deck : R.deck.calm = .deck := rfl
theorem hold_d : (R.d x).hold e = e := rfl
theorem hold_nw {c : Cell} : (R.nw c).hold e = e := rfl
theorem hold_bw {c : Cell} : (R.bw n c).hold e = frz e n := rfl
theorem hold_deck : R.deck.hold e = e := rfl
theorem holdAll_nil : holdAll [] e = e := rfl
theorem holdAll_cons {r : R} {rs : List R} : holdAll (r :: rs) e = holdAll rs (r.hold e) := rfl
theorem toDs_nil : toDs [] = some [] := rfl
theorem toDs_d {rs : List R} : toDs (.d x :: rs) = (match toDs rs with
  | some xs => some (x :: xs)
  | none => none) := by
  show (match (R.d x).toD, toDs rs with
    | some x, some xs => some (x :: xs)
    | _, _ => none) = _
  cases toDs rs <;> rfl
theorem toDs_bw {rs : List R} : toDs (.bw n (.lst ys) :: rs) = (match toDs rs with
  | some xs => some (.list ys :: xs)
  | none => none) := by
  show (match (R.bw n (.lst ys)).toD, toDs rs with
    | some x, some xs => some (x :: xs)
    | _, _ => none) = _
  cases toDs rs <;> rfl
theorem argOf_d : argOf (.d x) = .d x := rfl
theorem argOf_bw : argOf (.bw n (.lst ys)) = .d (.list ys) := rfl
theorem argOf_nw : argOf (.nw (.lst ys)) = .d (.list ys) := rfl
theorem argOf_deck : argOf .deck = .deck := rfl
theorem flat_int : (R.d (.int i)).flat = true := rfl
theorem flat_str : (R.d (.str a)).flat = true := rfl
theorem flat_bool {k : Bool} : (R.d (.bool k)).flat = true := rfl
theorem flat_none : (R.d .none).flat = true := rfl
theorem flat_list : (R.d (.list xs)).flat = false := rfl
theorem flat_tuple : (R.d (.tuple xs)).flat = false := rfl
theorem flat_nw {c : Cell} : (R.nw c).flat = false := rfl
/-! operators -/
theorem dAdd_int : dAdd (.int i) (.int j) K = K (.d (.int (i + j))) := rfl
theorem dAdd_str : dAdd (.str a) (.str b) K = (a.length + b.length ≤ sizeLine ∧ K (.d (.str (a ++ b)))) := rfl
theorem dAdd_list : dAdd (.list xs) (.list ys) K = (xs.length + ys.length ≤ sizeLine ∧ K (.nw (.lst (xs ++ ys)))) := rfl
theorem dAdd_tuple : dAdd (.tuple xs) (.tuple ys) K = (xs.length + ys.length ≤ sizeLine ∧ K (.d (.tuple (xs ++ ys)))) := rfl
theorem dSub_int : dSub (.int i) (.int j) K = K (.d (.int (i - j))) := rfl
theorem dMul_int : dMul (.int i) (.int j) K = (MulC i j ∧ K (.d (.int (i * j)))) := rfl
theorem dMul_list : dMul (.list xs) (.int j) K = (-(2 ^ 63) ≤ j ∧ j < 2 ^ 63 ∧ xs.length * j.toNat ≤ sizeLine ∧ K (.nw (.lst (List.replicate j.toNat xs).flatten))) := rfl
theorem dInt_int {g : Int → Int → Int} {c : Int → Int → Prop} : dInt g c (.int i) (.int j) K = (c i j ∧ K (.d (.int (g i j)))) := rfl
theorem dNeg_int : dNeg (.int i) K = K (.d (.int (-i))) := rfl
theorem dEq_eq : dEq x y K = (EqC x y ∧ K (.d (.bool (PyData.eqv x y)))) := rfl
theorem dNe_eq : dNe x y K = (EqC x y ∧ K (.d (.bool (!PyData.eqv x y)))) := rfl
theorem and_c {p q : Prop} (h : p) : (p ∧ q) = q := propext ⟨fun z => z.2, fun z => ⟨h, z⟩⟩
theorem dEq_int : dEq (.int i) (.int j) K = K (.d (.bool (i == j))) := and_c (.inl rfl)
theorem dEq_str : dEq (.str a) (.str b) K = K (.d (.bool (a == b))) := and_c (.inl rfl)
theorem dNe_int : dNe (.int i) (.int j) K = K (.d (.bool (!(i == j)))) := and_c (.inl rfl)
theorem dNe_str : dNe (.str a) (.str b) K = K (.d (.bool (!(a == b)))) := and_c (.inl rfl)
theorem dCmp_int {p : Int → Int → Bool} {q : Str → Str → Bool} : dCmp p q (.int i) (.int j) K = K (.d (.bool (p i j))) := rfl
theorem dAbs_int : dAbs [.int i] K = K (.d (.int (i.natAbs : Int))) := rfl
theorem dInt1_int : dInt1 [.int i] K = K (.d (.int i)) := rfl
theorem dInt1_bool {k : Bool} : dInt1 [.bool k] K = K (.d (.int (if k then 1 else 0))) := rfl
theorem dGcd_int : dGcd [.int i, .int j] K = K (.d (.int (Int.gcd i j))) := rfl
theorem dRepr_eq : dRepr [x] K = (x.showable = true ∧ x.hasDict = false ∧ x.depth ≤ 60 ∧ x.shown.length ≤ sizeLine ∧ K (.d (.str x.shown))) := rfl
end
/-! statements -/
section
variable {env e : En} {P : Pd} {w : WE} {n m : Nat} {x y : PyData} {xs ys : List PyData} {wb ws : WS}
theorem wSet_eq : wSet n w env P = w env (fun r e => P.nx (stE n r e)) P.ex := rfl
theorem wRet_eq : wRet w env P = w env (fun r e => P.rt (retR r e)) P.ex := rfl
theorem wDrop_eq : wDrop w env P = w env (fun _ e => P.nx e) P.ex := rfl
theorem wIfS_eq {c : WT} : wIfS c wb ws env P = c env (fun k e => if k = true then wb e P else ws e P) P.ex := rfl
theorem wSeq_eq : wSeq wb ws env P = wb env { P with nx := fun e => ws e P } := rfl
theorem wNext_eq : wNext env P = P.nx env := rfl
theorem wBreak_eq : wBreak env P = P.bk env := rfl
theorem wCont_eq : wCont env P = P.ct env := rfl
theorem wPar_eq {wa wb : WE} : wPar n m wa wb env P = wA [wa, wb] env (fun rs e => match toDs rs with
  | some [x, y] => P.nx (((holdAll rs e).set n (.d x)).set m (.d y))
  | _ => False) P.ex := rfl
theorem wPar3_eq {l : Nat} {wa wb wc : WE} : wPar3 n m l wa wb wc env P = wA [wa, wb, wc] env (fun rs e => match toDs rs with
  | some [x, y, z] => P.nx ((((holdAll rs e).set n (.d x)).set m (.d y)).set l (.d z))
  | _ => False) P.ex := rfl
theorem wTryAs_eq {g : DG} {em : Str → Option Bool} {i : Nat} {w2 : Addr → Value → Option Addr → WS} : wTryAs g em i wb w2 env P = wb env { P with ex := fun x e => match em x.cls with
  | some true => ∀ a cls d, (∃ ax, g.mg x.cls = some (.ref ax) ∧ cls = .ref ax) → (x.val = [] → d = none) → w2 a cls d (e.set i (.opq (.ref a))) (P.sub i)
  | some false => P.ex x e
  | none => False } := rfl
theorem wAsg_eq {t : WG} : wAsg w t env P = w env (fun r e => match r.toD with
  | some x => t x (r.hold e) P.nx
  | none => False) P.ex := rfl
theorem wForI_eq {i : WI} {t : WG} : wForI i t wb env P = i env (fun xs e => wFor t wb xs e P) P.ex := rfl
theorem stE_d : stE n (.d x) e = e.set n (.d x) := rfl
theorem stE_nw {c : Cell} : stE n (.nw c) e = e.set n (.own c) := rfl
theorem stE_bw : stE n (.bw m (.lst xs)) e = (frz e m).set n (.d (.list xs)) := rfl
theorem stE_deck : stE n .deck e = e.set n .deck := rfl
theorem retR_d : retR (.d x) e = .d x := rfl
theorem retR_nw {c : Cell} : retR (.nw c) e = .nw c := rfl
theorem bodyP_nx {Q : R → Prop} {Ex : Exn → Prop} : (bodyP Q Ex).nx e = Q (.d .none) := rfl
theorem bodyP_rd {Q : R → Prop} {Ex : Exn → Prop} : (bodyP Q Ex).rt (.d x) = Q (.d x) := rfl
theorem bodyP_rn {Q : R → Prop} {Ex : Exn → Prop} {c : Cell} : (bodyP Q Ex).rt (.nw c) = Q (.nw c) := rfl
theorem bodyP_ex {Q : R → Prop} {Ex : Exn → Prop} {z : Exn} : (bodyP Q Ex).ex z e = Ex z := rfl
theorem gN_eq {K : En → Prop} : gN n x e K = K (e.set n (.d x)) := rfl
/-- a loop over data -/
theorem p_for {t : WG} {b : WS} (Iv : Nat → En → Prop) : ∀ {xs : List PyData} {env : En} {P : Pd} (k : Nat), Iv k env →
    (∀ i x e (K : En → Prop), xs[i]? = some x → Iv (k + i) e → (∀ e', Iv (k + i + 1) e' → K e') → t x e fun e1 => b e1 { P with nx := K, ct := K, bk := P.nx }) → (∀ e, Iv (k + xs.length) e → P.nx e) → wFor t b xs env P
  | [], env, P, k, h0, _, fin => fin env h0
  | x :: xs, env, P, k, h0, step, fin => step 0 x env _ rfl h0 fun e' i' => p_for Iv (k + 1) i' (fun i y e K hy iv hk => by
      have := step (i + 1) y e K (by simpa using hy) (by rw [show k + (i + 1) = k + 1 + i by omega]; exact iv) (fun e' z => hk e' (by rw [show k + 1 + i + 1 = k + (i + 1) + 1 by omega]; exact z))
      exact this) fun e iv => fin e (by rw [List.length_cons, show k + (xs.length + 1) = k + 1 + xs.length by omega]; exact iv)
/-- a list display with for -/
theorem p_lc {vs : List Nat} {t : WG} {c : WT} {w : WE} (Iv : Nat → List PyData → En → Prop) : ∀ {xs acc : List PyData} {env : En} {K : List PyData → En → Prop} (k : Nat), Iv k acc env →
    (∀ i x ac e (K' : List PyData → En → Prop), xs[i]? = some x → Iv (k + i) ac e → (∀ ac' e', Iv (k + i + 1) ac' e' → K' ac' e') → t x (wipeE vs e) fun e1 => c e1 (fun b e2 => if b = true then w e2 (fun r e3 => match r.toD with
      | some y => K' (ac ++ [y]) (restE vs e (r.hold e3))
      | none => False) (fun _ _ => False) else K' ac (restE vs e e2)) fun _ _ => False) → (∀ ac e, Iv (k + xs.length) ac e → K ac e) → wLcL vs t c w xs acc env K
  | [], acc, env, K, k, h0, _, fin => fin acc env h0
  | x :: xs, acc, env, K, k, h0, step, fin => step 0 x acc env (fun ac e => wLcL vs t c w xs ac e K) rfl h0 fun ac' e' i' => p_lc Iv (k + 1) i' (fun i y ac e K' hy iv hk => by
      have := step (i + 1) y ac e K' (by simpa using hy) (by rw [show k + (i + 1) = k + 1 + i by omega]; exact iv) (fun ac' e' z => hk ac' e' (by rw [show k + 1 + i + 1 = k + (i + 1) + 1 by omega]; exact z))
      exact this) fun ac e iv => fin ac e (by rw [List.length_cons, show k + (xs.length + 1) = k + 1 + xs.length by omega]; exact iv)
end
end Dl

namespace Dl
open PySem PySem.Spec PyProof.Rows L2
section
variable {e env : En} {i j : Int} {n : Nat} {x y z u : PyData} {xs ys : List PyData} {K : R → Prop} {a b : Str} {P : List PyData → En → Prop} {Ex : Exn → En → Prop} {Q : En → Prop} {ws : List WE} {w : WE}
theorem atI_nat {α : Type} {l : List α} {k : Nat} (h : k < l.length) : atI l (k : Int) = l[k]? := by
  unfold atI ixN
  rw [if_pos (by omega), if_pos (by omega)]
  show l[(k : Int).toNat]? = _
  rw [Int.toNat_natCast]
theorem atI0 {α : Type} {x : α} {l : List α} : atI (x :: l) 0 = some x := by
  have := atI_nat (l := x :: l) (k := 0) (by simp)
  simpa using this
theorem atI1 {α : Type} {x y : α} {l : List α} : atI (x :: y :: l) 1 = some y := by
  have := atI_nat (l := x :: y :: l) (k := 1) (by simp)
  simpa using this
theorem atI2 {α : Type} {x y z : α} {l : List α} : atI (x :: y :: z :: l) 2 = some z := by
  have := atI_nat (l := x :: y :: z :: l) (k := 2) (by simp)
  simpa using this
theorem atI3 {α : Type} {x y z u : α} {l : List α} : atI (x :: y :: z :: u :: l) 3 = some u := by
  have := atI_nat (l := x :: y :: z :: u :: l) (k := 3) (by simp)
  simpa using this
theorem dIx_list : dIx (.list xs) (.int i) K = (match atI xs i with
  | some z => K (.d z)
  | none => False) := rfl
theorem dIx_tuple : dIx (.tuple xs) (.int i) K = (match atI xs i with
  | some z => K (.d z)
  | none => False) := rfl
theorem dLen_list : dLen [.list xs] K = K (.d (.int xs.length)) := rfl
theorem dLen_tuple : dLen [.tuple xs] K = K (.d (.int xs.length)) := rfl
theorem dLen_str : dLen [.str a] K = (a.length ≤ sizeLine ∧ K (.d (.int a.length))) := rfl
theorem gTupW_eq {f : List PyData → En → (En → Prop) → Prop} : gTupW n f (.tuple xs) e Q = (xs.length = n ∧ f xs e Q) := rfl
theorem gNilW_eq : gNilW [] e Q = Q e := rfl
theorem gConsW_eq {t : WG} {f : List PyData → En → (En → Prop) → Prop} : gConsW t f (x :: xs) e Q = t x e fun e' => f xs e' Q := rfl
theorem wiC_eq {c : List PyData → Prop} {op : List PyData → List PyData} : wiC c op ws env P Ex = wA ws env (fun rs e => match toDs rs with
  | some xs => c xs ∧ P (op xs) (holdAll rs e)
  | none => False) Ex := rfl
theorem wiS_eq : wiS w env P Ex = w env (fun r e => match r.toD with
  | some x => (match itemsD x with
    | some ds => P ds (r.hold e)
    | none => False)
  | none => False) Ex := rfl
theorem itemsD_l : itemsD (.list xs) = some xs := rfl
theorem itemsD_t : itemsD (.tuple xs) = some xs := rfl
theorem cR1_eq : cR1 [.int j] = Small j := rfl
theorem oR1_eq : oR1 [.int j] = rangeD 0 j.toNat := rfl
theorem rangeD_at {lo : Int} {k : Nat} {x : PyData} (h : (rangeD lo n)[k]? = some x) : k < n ∧ x = .int (lo + k) := by
  unfold rangeD at h
  rw [List.getElem?_map] at h
  cases q : (List.range n)[k]? with
  | none => rw [q] at h; cases h
  | some m =>
    rw [q] at h
    have hk : k < n := by have := (List.getElem?_eq_some_iff.mp q).1; rwa [List.length_range] at this
    rw [List.getElem?_range hk] at q
    cases q
    exact ⟨hk, (Option.some.inj h).symm⟩
theorem rangeD_len {lo : Int} : (rangeD lo n).length = n := by unfold rangeD; rw [List.length_map, List.length_range]
/-- an item at a drawn place -/
theorem at_draw {α : Type} {l : List α} (h : l ≠ []) {r : Int} (d : drawOk l.length r) : ∃ x ∈ l, atI l r = some x := by
  have hl : 0 < l.length := by cases l with | nil => exact (h rfl).elim | cons _ _ => simp
  obtain ⟨k, rfl⟩ := Int.eq_ofNat_of_zero_le d.1
  have hk : k < l.length := by rcases d.2 with q | q <;> omega
  refine ⟨l[k], List.getElem_mem hk, ?_⟩
  rw [atI_nat hk]
  exact List.getElem?_eq_getElem hk
end
/-- a statement, then the rest, told by a name -/
theorem p_seq {a b : WS} {env : En} {P : Pd} (h : ∀ N : En → Prop, (∀ e, b e P → N e) → a env ⟨N, P.rt, P.bk, P.ct, P.ex⟩) : wSeq a b env P := h _ fun _ z => z
/-! ### how great -/
def Bd (n : Nat) (i : Int) : Prop := i.natAbs < 2 ^ n
theorem Bd.mono {m n : Nat} {i : Int} (h : Bd m i) (l : m ≤ n) : Bd n i := Nat.lt_of_lt_of_le h (Nat.pow_le_pow_right (by omega) l)
theorem Bd.mul {m n : Nat} {i j : Int} (h : Bd m i) (k : Bd n j) : Bd (m + n) (i * j) := by
  unfold Bd
  rw [Int.natAbs_mul, Nat.pow_add]
  exact Nat.mul_lt_mul_of_lt_of_le h (Nat.le_of_lt k) (by exact Nat.two_pow_pos n)
theorem Bd.add {m : Nat} {i j : Int} (h : Bd m i) (k : Bd m j) : Bd (m + 1) (i + j) := by
  unfold Bd at *
  have := Int.natAbs_add_le i j
  rw [Nat.pow_succ]
  omega
theorem Bd.neg {m : Nat} {i : Int} (h : Bd m i) : Bd m (-i) := by
  unfold Bd
  rw [Int.natAbs_neg]
  exact h
theorem Bd.le {m : Nat} {i j : Int} (h : Bd m j) (l : i.natAbs ≤ j.natAbs) : Bd m i := Nat.lt_of_le_of_lt l h
theorem bd_c {m : Nat} {i : Int} (h : i.natAbs < 2 ^ m) : Bd m i := h
theorem Bd.log {m : Nat} {i : Int} (h : Bd m i) (hm : 0 < m) : i.natAbs.log2 < m := by
  by_cases z : i.natAbs = 0
  · rw [z]; simpa using hm
  · exact (Nat.log2_lt z).mpr h
theorem Bd.mulC {m n : Nat} {i j : Int} (h : Bd m i) (k : Bd n j) (hs : m + n < 1000000) (hm : 0 < m) (hn : 0 < n) : MulC i j := by
  have h1 := h.log hm
  have h2 := k.log hn
  exact CMulW.ok (show i.natAbs.log2 + j.natAbs.log2 < 1000000 by omega)
theorem Bd.divC {m : Nat} {i j : Int} (h : Bd m j) (hj : j ≠ 0) (hm : 0 < m) (hs : m ≤ 8000) : DivC i j := ⟨hj, PyProof.noPylong_of_log2 (by have := h.log hm; omega)⟩
theorem Bd.sh {m : Nat} {i : Int} (h : Bd m i) (hm : 0 < m) (hs : m ≤ 1920) : (PyData.int i).showable = true := decide_eq_true (Nat.lt_of_lt_of_le (h.log hm) hs)
/-! ### fractions -/
/-- what both are divided by -/
def cdv (a b : Int) : Int := if b < 0 then -(Int.gcd a b : Int) else (Int.gcd a b : Int)
def frP (a b : Int) : Int := a.fdiv (cdv a b)
def frQ (a b : Int) : Int := b.fdiv (cdv a b)
def frD (a b : Int) : PyData := .tuple [.int (frP a b), .int (frQ a b)]
theorem gcd_ne {a b : Int} (h : b ≠ 0) : (Int.gcd a b : Int) ≠ 0 := fun z => h (Int.gcd_eq_zero_iff.mp (by exact_mod_cast z)).2
theorem cdv_ne {a b : Int} (h : b ≠ 0) : cdv a b ≠ 0 := by
  have := gcd_ne (a := a) h
  unfold cdv
  split <;> omega
theorem cdv_bd {a b : Int} {m : Nat} (h : b ≠ 0) (k : Bd m b) : Bd m (cdv a b) := by
  have h1 : Int.gcd a b ≤ b.natAbs := Nat.le_of_dvd (by omega) (Nat.gcd_dvd_right a.natAbs b.natAbs)
  unfold cdv
  refine k.le ?_
  split <;> omega
theorem fdiv_exact {a c : Int} (hc : c ≠ 0) (h : c ∣ a) : ∃ q, a.fdiv c = q ∧ a = c * q ∧ q.natAbs ≤ a.natAbs := by
  obtain ⟨q, rfl⟩ := h
  refine ⟨q, Int.mul_fdiv_cancel_left q hc, rfl, ?_⟩
  rw [Int.natAbs_mul]
  exact Nat.le_mul_of_pos_left _ (by omega)
theorem cdv_dvd {a b : Int} : cdv a b ∣ a ∧ cdv a b ∣ b := by
  unfold cdv
  split
  · exact ⟨Int.neg_dvd.mpr (Int.gcd_dvd_left ..), Int.neg_dvd.mpr (Int.gcd_dvd_right ..)⟩
  · exact ⟨Int.gcd_dvd_left .., Int.gcd_dvd_right ..⟩
theorem frP_le {a b : Int} (h : b ≠ 0) : (frP a b).natAbs ≤ a.natAbs := by
  obtain ⟨q, e, _, l⟩ := fdiv_exact (cdv_ne (a := a) h) (cdv_dvd (a := a) (b := b)).1
  unfold frP
  rw [e]
  exact l
theorem frQ_le {a b : Int} (h : b ≠ 0) : (frQ a b).natAbs ≤ b.natAbs ∧ frQ a b ≠ 0 := by
  obtain ⟨q, e, m, l⟩ := fdiv_exact (cdv_ne (a := a) h) (cdv_dvd (a := a) (b := b)).2
  unfold frQ
  rw [e]
  refine ⟨l, fun z => h ?_⟩
  rw [m, z, Int.mul_zero]
end Dl

namespace Dl
open PySem PySem.Spec PyProof.Rows L2

local macro_rules | `(tactic| walk_at "dl") => `(tactic| (simp (config := { maxSteps := 2000000, failIfUnchanged := false }) only [startE, slOf, List.map_cons, List.map_nil, List.length_cons, List.length_nil, List.cons_append, List.nil_append, List.append_nil, Nat.reduceAdd, Nat.reduceSub, List.replicate_succ, List.replicate_zero, List.getElem?_cons_zero, List.getElem?_cons_succ, List.getElem?_nil, List.set_cons_zero, List.set_cons_succ, Nat.zero_add,
  ↓wV_eq, ↓wC_eq, ↓wOp_eq, ↓wOp1_eq, ↓wB_eq, ↓wA_nil, ↓wA_cons, ↓wTup_eq, ↓wLst_eq, ↓wCall_eq, ↓wCallK_eq, ↓wIf_eq, ↓wAnd_eq, ↓wOr_eq, ↓tOf_eq, ↓tNotW_eq, ↓tAndW_eq, ↓tOrW_eq, ↓wIsE_eq, ↓toD_d, ↓toD_nw, ↓toD_bw, toD_deck, ↓calm_d, ↓calm_nw, ↓calm_bw, calm_deck, ↓hold_d, ↓hold_nw, ↓hold_bw, hold_deck, ↓holdAll_nil, ↓holdAll_cons, ↓toDs_nil, ↓toDs_d, ↓toDs_bw, argOf_d, argOf_bw, argOf_nw, argOf_deck,
  flat_int, flat_str, flat_bool, flat_none, flat_list, flat_tuple, flat_nw, ↓dAdd_int, ↓dAdd_str, ↓dAdd_list, ↓dAdd_tuple, ↓dSub_int, ↓dMul_int, ↓dMul_list, ↓dInt_int, ↓dNeg_int, ↓dEq_int, ↓dEq_str, ↓dNe_int, ↓dNe_str, ↓dCmp_int, ↓dAbs_int, ↓dInt1_int, ↓dInt1_bool, ↓dGcd_int, ↓dRepr_eq, ↓dIx_list, ↓dIx_tuple, atI0, atI1, atI2, atI3, ↓dLen_list, ↓dLen_tuple, ↓dLen_str, ↓gTupW_eq, ↓gNilW_eq, ↓gConsW_eq, ↓wiC_eq, ↓wiS_eq, itemsD_l, itemsD_t, cR1_eq, oR1_eq, prm, List.filterMap_cons, List.filterMap_nil,
  ↓wSet_eq, ↓wRet_eq, ↓wDrop_eq, ↓wIfS_eq, ↓wNext_eq, ↓wBreak_eq, ↓wCont_eq, ↓wPar_eq, ↓wPar3_eq, ↓wTryAs_eq, ↓wAsg_eq, ↓wForI_eq, ↓stE_d, ↓stE_nw, ↓stE_bw, ↓stE_deck, retR_d, retR_nw, bodyP_nx, bodyP_rd, bodyP_rn, bodyP_ex, ↓gN_eq, if_true, if_false, Bool.false_eq_true, reduceIte]))

def top (i : Nat) : Stmt := PySem.Challenge.pw_veiledchains_k01_whole_fractions_beside.main.body.getD i (.Pass ⟨0, 0, 0, 0⟩)

abbrev st_lowest : Stmt := top 5
theorem sc_lowest : FnScope ["a", "b", "divisor"] ["a", "b"] (defScope st_lowest) := ⟨rfl, rfl, rfl, by decide +kernel, rfl, by decide +kernel, by decide +kernel⟩

abbrev st_added : Stmt := top 6
theorem sc_added : FnScope ["one", "other"] ["one", "other"] (defScope st_added) := ⟨rfl, rfl, rfl, by decide +kernel, rfl, by decide +kernel, by decide +kernel⟩

abbrev st_multiplied : Stmt := top 7
theorem sc_multiplied : FnScope ["one", "other"] ["one", "other"] (defScope st_multiplied) := ⟨rfl, rfl, rfl, by decide +kernel, rfl, by decide +kernel, by decide +kernel⟩

abbrev st_divided : Stmt := top 8
theorem sc_divided : FnScope ["one", "other"] ["one", "other"] (defScope st_divided) := ⟨rfl, rfl, rfl, by decide +kernel, rfl, by decide +kernel, by decide +kernel⟩

abbrev st_compared : Stmt := top 9
theorem sc_compared : FnScope ["one", "other", "left", "right"] ["one", "other"] (defScope st_compared) := ⟨rfl, rfl, rfl, by decide +kernel, rfl, by decide +kernel, by decide +kernel⟩

abbrev st_law_deck : Stmt := top 11
theorem sc_law_deck : FnScope ["script", "cells", "stirred", "cell"] ["script"] (defScope st_law_deck) := ⟨rfl, rfl, rfl, by decide +kernel, rfl, by decide +kernel, by decide +kernel⟩

abbrev st_law_draw : Stmt := top 12
theorem sc_law_draw : FnScope ["deck", "many", "great", "cell", "one"] ["deck", "many"] (defScope st_law_draw) := ⟨rfl, rfl, rfl, by decide +kernel, rfl, by decide +kernel, by decide +kernel⟩

abbrev st_law_pick : Stmt := top 13
theorem sc_law_pick : FnScope ["deck", "items"] ["deck", "items"] (defScope st_law_pick) := ⟨rfl, rfl, rfl, by decide +kernel, rfl, by decide +kernel, by decide +kernel⟩

abbrev st_law_gcd : Stmt := top 14
theorem sc_law_gcd : FnScope ["a", "b"] ["a", "b"] (defScope st_law_gcd) := ⟨rfl, rfl, rfl, by decide +kernel, rfl, by decide +kernel, by decide +kernel⟩

abbrev st_law_low : Stmt := top 15
theorem sc_law_low : FnScope ["a", "b", "common"] ["a", "b"] (defScope st_law_low) := ⟨rfl, rfl, rfl, by decide +kernel, rfl, by decide +kernel, by decide +kernel⟩

abbrev st_law_great : Stmt := top 16
theorem sc_law_great : FnScope ["deck", "figures", "found", "turn"] ["deck", "figures"] (defScope st_law_great) := ⟨rfl, rfl, rfl, by decide +kernel, rfl, by decide +kernel, by decide +kernel⟩

abbrev st_law_int : Stmt := top 17
theorem sc_law_int : FnScope ["deck", "kind", "whole"] ["deck"] (defScope st_law_int) := ⟨rfl, rfl, rfl, by decide +kernel, rfl, by decide +kernel, by decide +kernel⟩

abbrev st_law_some : Stmt := top 18
theorem sc_law_some : FnScope ["deck", "under"] ["deck"] (defScope st_law_some) := ⟨rfl, rfl, rfl, by decide +kernel, rfl, by decide +kernel, by decide +kernel⟩

abbrev st_law_told : Stmt := top 19
theorem sc_law_told : FnScope ["word", "one", "other", "is_named", "slip"] ["word", "one", "other", "is_named"] (defScope st_law_told) := ⟨rfl, rfl, rfl, by decide +kernel, rfl, by decide +kernel, by decide +kernel⟩

abbrev st_law_due : Stmt := top 20
theorem sc_law_due : FnScope ["word", "one", "other", "a", "b", "c", "d"] ["word", "one", "other"] (defScope st_law_due) := ⟨rfl, rfl, rfl, by decide +kernel, rfl, by decide +kernel, by decide +kernel⟩

abbrev st_law_side : Stmt := top 21
theorem sc_law_side : FnScope ["one", "other", "left", "right"] ["one", "other"] (defScope st_law_side) := ⟨rfl, rfl, rfl, by decide +kernel, rfl, by decide +kernel, by decide +kernel⟩

abbrev st_law : Stmt := top 22
theorem sc_law : FnScope ["script", "deck", "turn", "a", "b", "by", "due", "one", "about", "other", "word", "found"] ["script"] (defScope st_law) := ⟨rfl, rfl, rfl, by decide +kernel, rfl, by decide +kernel, by decide +kernel⟩

def initD (i : Nat) : Stmt := match top i with
  | .ClassDef _ _ _ (d :: _) _ _ _ _ _ _ _ => d
  | _ => .Pass ⟨0, 0, 0, 0⟩
abbrev initA (i : Nat) : Arguments := defArgs (initD i)
abbrev initB (i : Nat) : List Stmt := defBody (initD i)
abbrev initS (i : Nat) : Scope := defScope (initD i)

def em_Unfit : Str → Option Bool := fun m => if m = "Unfit" then some true else none

structure Bt (P : Program) (g : DG) : Prop where
  dki : g.dki = dkiA
  abs_ : g.mg "abs" = none
  int_ : g.mg "int" = none
  isinstance_ : g.mg "isinstance" = none
  len_ : g.mg "len" = none
  range_ : g.mg "range" = none
  repr_ : g.mg "repr" = none
  gcd_ : g.mg "gcd" = some (.builtin "math.gcd")
  g_lowest : g.mg "lowest" = some (.ref (He.ga g.K "lowest"))
  f_lowest : ∃ fd, L2.Fun g.K "lowest" "lowest" st_lowest (He.ga g.K "lowest") fd
  g_added : g.mg "added" = some (.ref (He.ga g.K "added"))
  f_added : ∃ fd, L2.Fun g.K "added" "added" st_added (He.ga g.K "added") fd
  g_multiplied : g.mg "multiplied" = some (.ref (He.ga g.K "multiplied"))
  f_multiplied : ∃ fd, L2.Fun g.K "multiplied" "multiplied" st_multiplied (He.ga g.K "multiplied") fd
  g_divided : g.mg "divided" = some (.ref (He.ga g.K "divided"))
  f_divided : ∃ fd, L2.Fun g.K "divided" "divided" st_divided (He.ga g.K "divided") fd
  g_compared : g.mg "compared" = some (.ref (He.ga g.K "compared"))
  f_compared : ∃ fd, L2.Fun g.K "compared" "compared" st_compared (He.ga g.K "compared") fd
  g_law_deck : g.mg "_law_deck" = some (.ref (He.ga g.K "_law_deck"))
  f_law_deck : ∃ fd, L2.Fun g.K "_law_deck" "_law_deck" st_law_deck (He.ga g.K "_law_deck") fd
  g_law_draw : g.mg "_law_draw" = some (.ref (He.ga g.K "_law_draw"))
  f_law_draw : ∃ fd, L2.Fun g.K "_law_draw" "_law_draw" st_law_draw (He.ga g.K "_law_draw") fd
  g_law_pick : g.mg "_law_pick" = some (.ref (He.ga g.K "_law_pick"))
  f_law_pick : ∃ fd, L2.Fun g.K "_law_pick" "_law_pick" st_law_pick (He.ga g.K "_law_pick") fd
  g_law_gcd : g.mg "_law_gcd" = some (.ref (He.ga g.K "_law_gcd"))
  f_law_gcd : ∃ fd, L2.Fun g.K "_law_gcd" "_law_gcd" st_law_gcd (He.ga g.K "_law_gcd") fd
  g_law_low : g.mg "_law_low" = some (.ref (He.ga g.K "_law_low"))
  f_law_low : ∃ fd, L2.Fun g.K "_law_low" "_law_low" st_law_low (He.ga g.K "_law_low") fd
  g_law_great : g.mg "_law_great" = some (.ref (He.ga g.K "_law_great"))
  f_law_great : ∃ fd, L2.Fun g.K "_law_great" "_law_great" st_law_great (He.ga g.K "_law_great") fd
  g_law_int : g.mg "_law_int" = some (.ref (He.ga g.K "_law_int"))
  f_law_int : ∃ fd, L2.Fun g.K "_law_int" "_law_int" st_law_int (He.ga g.K "_law_int") fd
  g_law_some : g.mg "_law_some" = some (.ref (He.ga g.K "_law_some"))
  f_law_some : ∃ fd, L2.Fun g.K "_law_some" "_law_some" st_law_some (He.ga g.K "_law_some") fd
  g_law_told : g.mg "_law_told" = some (.ref (He.ga g.K "_law_told"))
  f_law_told : ∃ fd, L2.Fun g.K "_law_told" "_law_told" st_law_told (He.ga g.K "_law_told") fd
  g_law_due : g.mg "_law_due" = some (.ref (He.ga g.K "_law_due"))
  f_law_due : ∃ fd, L2.Fun g.K "_law_due" "_law_due" st_law_due (He.ga g.K "_law_due") fd
  g_law_side : g.mg "_law_side" = some (.ref (He.ga g.K "_law_side"))
  f_law_side : ∃ fd, L2.Fun g.K "_law_side" "_law_side" st_law_side (He.ga g.K "_law_side") fd
  g_law : g.mg "law" = some (.ref (He.ga g.K "law"))
  f_law : ∃ fd, L2.Fun g.K "law" "law" st_law (He.ga g.K "law") fd
  g_ChainError : g.mg "ChainError" = some (.ref (He.ga g.K "ChainError"))
  g_Unfit : g.mg "Unfit" = some (.ref (He.ga g.K "Unfit"))
  T_Unfit : SupC g.K g.mg "Unfit" (He.ga g.K "Unfit") (He.ma g.K (He.ga g.K "Unfit") "__init__")
  S_Unfit : SupF g.K P (He.ga g.K "Unfit") (He.ma g.K (He.ga g.K "Unfit") "__init__") (initA 3) (initB 3) (initS 3)
  em_Unfit : ∀ m b ax, Dl.em_Unfit m = some b → g.mg m = some (.ref ax) → PySem.W.exmOne g.K (.ref ax) (.ref (He.ga g.K "Unfit")) = some b
  ec_Unfit : ExcC g.K (He.ga g.K "Unfit")
  is_Unfit_ChainError : PySem.W.kitOne g.K (.ref (He.ga g.K "Unfit")) (.ref (He.ga g.K "ChainError")) = some true

/-- what is due of a fraction's parts -/
def dueD (x y : Int) : List PyData := if y = 0 then [.str "unfit", .bool true] else [.str "told", frD x y]
/-- the four words -/
def askD (us : List R) (f : Int → Int → Prop) : Prop := ∃ rest : List R, (∃ a b : Int, us = .d (.str "lowest") :: .d (.int a) :: .d (.int b) :: rest ∧ Bd 1800 a ∧ Bd 1800 b ∧ f a b) ∨
  (∃ a b c d : Int, ∃ x y : Int, ∃ z : Str, us = .d (.str z) :: .d (.tuple [.int a, .int b]) :: .d (.tuple [.int c, .int d]) :: rest ∧ Bd 900 a ∧ Bd 900 b ∧ Bd 900 c ∧ Bd 900 d ∧ b ≠ 0 ∧ d ≠ 0 ∧
    ((z = "added" ∧ x = a * d + c * b ∧ y = b * d) ∨ (z = "multiplied" ∧ x = a * c ∧ y = b * d) ∨ (z = "divided" ∧ x = a * d ∧ y = b * c)) ∧ f x y)
def cmpI (l r : Int) : Int := if l = r then 0 else if l < r then -1 else 1
theorem cmpI_bd {l r : Int} : Bd 2 (cmpI l r) := by
  unfold cmpI Bd
  split
  · decide
  · split <;> decide
theorem cmpI_self {l : Int} : cmpI l l = 0 := if_pos rfl
theorem rep_due {x y : Int} (hx : Bd 1800 x) (hy : Bd 1800 y) : (PyData.list (dueD x y)).showable = true ∧ (PyData.list (dueD x y)).hasDict = false ∧ (PyData.list (dueD x y)).depth ≤ 60 ∧ (PyData.list (dueD x y)).shown.length ≤ sizeLine := by
  have hs : (PyData.list (dueD x y)).showable = true := by
    unfold dueD
    split
    · rfl
    · rename_i z
      have h1 := ((hx.le (frP_le z)).sh (by decide) (by decide))
      have h2 := ((hy.le (frQ_le (a := x) z).1).sh (by decide) (by decide))
      simp only [PyData.showable, PyData.showableAll, frD, Bool.and_true, Bool.true_and] at h1 h2 ⊢
      rw [h1, h2]
      rfl
  refine ⟨hs, ?_, ?_, Nat.le_trans (shown_le _ hs) ?_⟩
  · unfold dueD frD
    split <;> rfl
  · unfold dueD frD
    split <;> exact Nat.le_of_ble_eq_true rfl
  · rw [sizeLine_eq]
    have e1 : (reprText "unfit").length ≤ 10 := by decide +kernel
    have e2 : (reprText "told").length ≤ 10 := by decide +kernel
    unfold dueD frD
    split <;> simp only [cost, costAll] <;> omega
theorem rep_3 {x y z : Int} (hx : Bd 2 x) (hy : Bd 2 y) (hz : Bd 2 z) : (PyData.list [.int x, .int y, .int z]).showable = true ∧ (PyData.list [.int x, .int y, .int z]).hasDict = false ∧ (PyData.list [.int x, .int y, .int z]).depth ≤ 60 ∧ (PyData.list [.int x, .int y, .int z]).shown.length ≤ sizeLine := by
  have h1 := hx.sh (by decide) (by decide)
  have h2 := hy.sh (by decide) (by decide)
  have h3 := hz.sh (by decide) (by decide)
  have hs : (PyData.list [.int x, .int y, .int z]).showable = true := by
    simp only [PyData.showable, PyData.showableAll, Bool.and_true] at h1 h2 h3 ⊢
    rw [h1, h2, h3]
    rfl
  refine ⟨hs, rfl, Nat.le_of_ble_eq_true rfl, Nat.le_trans (shown_le _ hs) ?_⟩
  rw [sizeLine_eq]
  simp only [cost, costAll]
  omega
theorem if_arg {c : Bool} {F : Int → Prop} {Gd : Int → Prop} {u v : Int} (h : ∀ z, Gd z → F z) (hu : c = true → Gd u) (hv : c = false → Gd v) : if c = true then F u else F v := by
  cases c with
  | true => exact h u (hu rfl)
  | false => exact h v (hv rfl)
theorem ne_same (s : Str) : ¬ ((!(s == s)) = true) := by simp
theorem sub_rt {P : Pd} {i : Nat} : (P.sub i).rt = P.rt := rfl
theorem em_U : em_Unfit "Unfit" = some true := by decide

section
variable {P : Program} {w : World} {g : DG} {base : Heap}

def s_lowest : FSem := fun us P Ex => ∃ a b : Int, us = [.d (.int a), .d (.int b)] ∧ Bd 4000 b ∧ (b = 0 → Ex ⟨"Unfit", []⟩) ∧ (b ≠ 0 → P (.d (frD a b)))

def w_lowest : WS := (wSeq (wIfS (tOf (wOp dEq (wV 1) (wC (.int 0)))) (fun env P => P.ex ⟨"Unfit", []⟩ env) wNext)
    (wSeq (wSet 2 (wIf (tOf (wOp dGt (wV 1) (wC (.int 0)))) (wB dGcd [(wV 0), (wV 1)]) (wOp1 dNeg (wB dGcd [(wV 0), (wV 1)]))))
    (wRet (wTup [(wOp (dInt Int.fdiv DivC) (wV 0) (wV 2)), (wOp (dInt Int.fdiv DivC) (wV 1) (wV 2))]))))
theorem pure_lowest : ∀ us P Ex, s_lowest us P Ex → w_lowest (startE ["a", "b", "divisor"] us) (bodyP P Ex) := by
  unfold w_lowest
  rintro us P Ex ⟨a, b, rfl, hb, h0, h1⟩
  rw [wSeq_eq]
  walk_at "dl"
  by_cases z : b = 0
  · rw [if_pos (beq_iff_eq.mpr z)]
    exact h0 z
  · rw [if_neg (by simpa using z), wSeq_eq]
    have hg := gcd_ne (a := a) z
    have hd := (cdv_bd (a := a) z hb).divC (cdv_ne z) (by decide) (by decide) (i := a)
    have he := (cdv_bd (a := a) z hb).divC (cdv_ne z) (by decide) (by decide) (i := b)
    have k := h1 z
    unfold frD frP frQ at k
    walk_at "dl"
    by_cases c : 0 < b
    · have e : cdv a b = (Int.gcd a b : Int) := if_neg (by omega)
      rw [e] at hd he k
      rw [if_pos (decide_eq_true c)]
      walk_at "dl"
      exact ⟨hd, he, k⟩
    · have e : cdv a b = -(Int.gcd a b : Int) := if_pos (by omega)
      rw [e] at hd he k
      rw [if_neg (by simpa using c)]
      walk_at "dl"
      exact ⟨hd, he, k⟩

theorem fg_lowest (B : Bt P g) : Fg P w g base "lowest" st_lowest 1 ["a", "b"] s_lowest := by
  obtain ⟨fd, F⟩ := B.f_lowest
  exact fg_dl (wb := w_lowest) B.g_lowest F sc_lowest (fun cdv A outer s H E c =>
    (evb_cons (evs_if (evt_cm (cm_eq c.c) (ev_var 1) ev_int) (evb_one (evs_raise0 c.c B.T_Unfit B.S_Unfit c.r c.t)) evb_nil)
    (evb_cons (evs_set (i := 2) sc_lowest.nd (ev_if (evt_cm cm_gt (ev_var 1) ev_int) (ev_gcd B.gcd_ (eva_cons (ev_var 0) (eva_cons (ev_var 1) eva_nil))) (ev_neg (ev_gcd B.gcd_ (eva_cons (ev_var 0) (eva_cons (ev_var 1) eva_nil))))))
    (evb_one (evs_ret (ev_tup (eva_cons (ev_div (ev_var 0) (ev_var 2)) (eva_cons (ev_div (ev_var 1) (ev_var 2)) eva_nil)))))))) (pure_lowest)
def fr2 (us : List R) (f : Int → Int → Int → Int → Prop) : Prop := ∃ a b c d : Int, us = [.d (.tuple [.int a, .int b]), .d (.tuple [.int c, .int d])] ∧ Bd 900 a ∧ Bd 900 b ∧ Bd 900 c ∧ Bd 900 d ∧ f a b c d
def frOr (P : R → Prop) (Ex : Exn → Prop) (x y : Int) : Prop := (y = 0 → Ex ⟨"Unfit", []⟩) ∧ (y ≠ 0 → P (.d (frD x y)))
def s_added : FSem := fun us P Ex => fr2 us fun a b c d => frOr P Ex (a * d + c * b) (b * d)

def w_added : WS := (wRet (wCall s_lowest [(wOp dAdd (wOp dMul (wOp dIx (wV 0) (wC (.int 0))) (wOp dIx (wV 1) (wC (.int 1)))) (wOp dMul (wOp dIx (wV 1) (wC (.int 0))) (wOp dIx (wV 0) (wC (.int 1))))), (wOp dMul (wOp dIx (wV 0) (wC (.int 1))) (wOp dIx (wV 1) (wC (.int 1))))]))
theorem pure_added : ∀ us P Ex, s_added us P Ex → w_added (startE ["one", "other"] us) (bodyP P Ex) := by
  unfold w_added
  rintro us P Ex ⟨a, b, c, d, rfl, ha, hb, hc, hd, h⟩
  walk_at "dl"
  exact ⟨ha.mulC hd (by decide) (by decide) (by decide), hc.mulC hb (by decide) (by decide) (by decide), hb.mulC hd (by decide) (by decide) (by decide), _, _, rfl, (hb.mul hd).mono (by decide), h⟩

theorem fg_added (B : Bt P g) (D_lowest : Fg P w g base "lowest" st_lowest 1 ["a", "b"] s_lowest) : Fg P w g base "added" st_added 2 ["one", "other"] s_added := by
  obtain ⟨fd, F⟩ := B.f_added
  exact fg_dl (wb := w_added) B.g_added F sc_added (fun cdv A outer s H E c =>
    (evb_one (evs_ret (ev_call D_lowest c.c c.t (c.r.mono (by decide)) (eva_cons (ev_add c.c.K (ev_mul (ev_ix c.c (ev_var 0) ev_int) (ev_ix c.c (ev_var 1) ev_int)) (ev_mul (ev_ix c.c (ev_var 1) ev_int) (ev_ix c.c (ev_var 0) ev_int))) (eva_cons (ev_mul (ev_ix c.c (ev_var 0) ev_int) (ev_ix c.c (ev_var 1) ev_int)) eva_nil)) (fun _ _ _ _ _ _ us h => match us, h with | [_,_], _ => rfl))))) (pure_added)
def s_multiplied : FSem := fun us P Ex => fr2 us fun a b c d => frOr P Ex (a * c) (b * d)

def w_multiplied : WS := (wRet (wCall s_lowest [(wOp dMul (wOp dIx (wV 0) (wC (.int 0))) (wOp dIx (wV 1) (wC (.int 0)))), (wOp dMul (wOp dIx (wV 0) (wC (.int 1))) (wOp dIx (wV 1) (wC (.int 1))))]))
theorem pure_multiplied : ∀ us P Ex, s_multiplied us P Ex → w_multiplied (startE ["one", "other"] us) (bodyP P Ex) := by
  unfold w_multiplied
  rintro us P Ex ⟨a, b, c, d, rfl, ha, hb, hc, hd, h⟩
  walk_at "dl"
  exact ⟨ha.mulC hc (by decide) (by decide) (by decide), hb.mulC hd (by decide) (by decide) (by decide), _, _, rfl, (hb.mul hd).mono (by decide), h⟩

theorem fg_multiplied (B : Bt P g) (D_lowest : Fg P w g base "lowest" st_lowest 1 ["a", "b"] s_lowest) : Fg P w g base "multiplied" st_multiplied 2 ["one", "other"] s_multiplied := by
  obtain ⟨fd, F⟩ := B.f_multiplied
  exact fg_dl (wb := w_multiplied) B.g_multiplied F sc_multiplied (fun cdv A outer s H E c =>
    (evb_one (evs_ret (ev_call D_lowest c.c c.t (c.r.mono (by decide)) (eva_cons (ev_mul (ev_ix c.c (ev_var 0) ev_int) (ev_ix c.c (ev_var 1) ev_int)) (eva_cons (ev_mul (ev_ix c.c (ev_var 0) ev_int) (ev_ix c.c (ev_var 1) ev_int)) eva_nil)) (fun _ _ _ _ _ _ us h => match us, h with | [_,_], _ => rfl))))) (pure_multiplied)
def s_divided : FSem := fun us P Ex => fr2 us fun a b c d => frOr P Ex (a * d) (b * c)

def w_divided : WS := (wRet (wCall s_lowest [(wOp dMul (wOp dIx (wV 0) (wC (.int 0))) (wOp dIx (wV 1) (wC (.int 1)))), (wOp dMul (wOp dIx (wV 0) (wC (.int 1))) (wOp dIx (wV 1) (wC (.int 0))))]))
theorem pure_divided : ∀ us P Ex, s_divided us P Ex → w_divided (startE ["one", "other"] us) (bodyP P Ex) := by
  unfold w_divided
  rintro us P Ex ⟨a, b, c, d, rfl, ha, hb, hc, hd, h⟩
  walk_at "dl"
  exact ⟨ha.mulC hd (by decide) (by decide) (by decide), hb.mulC hc (by decide) (by decide) (by decide), _, _, rfl, (hb.mul hc).mono (by decide), h⟩

theorem fg_divided (B : Bt P g) (D_lowest : Fg P w g base "lowest" st_lowest 1 ["a", "b"] s_lowest) : Fg P w g base "divided" st_divided 2 ["one", "other"] s_divided := by
  obtain ⟨fd, F⟩ := B.f_divided
  exact fg_dl (wb := w_divided) B.g_divided F sc_divided (fun cdv A outer s H E c =>
    (evb_one (evs_ret (ev_call D_lowest c.c c.t (c.r.mono (by decide)) (eva_cons (ev_mul (ev_ix c.c (ev_var 0) ev_int) (ev_ix c.c (ev_var 1) ev_int)) (eva_cons (ev_mul (ev_ix c.c (ev_var 0) ev_int) (ev_ix c.c (ev_var 1) ev_int)) eva_nil)) (fun _ _ _ _ _ _ us h => match us, h with | [_,_], _ => rfl))))) (pure_divided)
def s_compared : FSem := fun us P Ex => fr2 us fun a b c d => P (.d (.int (cmpI (a * d) (c * b))))

def w_compared : WS := (wSeq (wPar 2 3 (wOp dMul (wOp dIx (wV 0) (wC (.int 0))) (wOp dIx (wV 1) (wC (.int 1)))) (wOp dMul (wOp dIx (wV 1) (wC (.int 0))) (wOp dIx (wV 0) (wC (.int 1)))))
    (wSeq (wIfS (tOf (wOp dEq (wV 2) (wV 3))) (wRet (wC (.int 0))) wNext)
    (wRet (wIf (tOf (wOp dLt (wV 2) (wV 3))) (wOp1 dNeg (wC (.int 1))) (wC (.int 1))))))
theorem pure_compared : ∀ us P Ex, s_compared us P Ex → w_compared (startE ["one", "other", "left", "right"] us) (bodyP P Ex) := by
  unfold w_compared
  rintro us P Ex ⟨a, b, c, d, rfl, ha, hb, hc, hd, h⟩
  rw [wSeq_eq]
  walk_at "dl"
  refine ⟨ha.mulC hd (by decide) (by decide) (by decide), hc.mulC hb (by decide) (by decide) (by decide), ?_⟩
  rw [wSeq_eq]
  walk_at "dl"
  unfold cmpI at h
  by_cases z : a * d = c * b
  · rw [if_pos z] at h
    rw [if_pos (beq_iff_eq.mpr z)]
    exact h
  · rw [if_neg z] at h
    rw [if_neg (by simpa using z)]
    by_cases y : a * d < c * b
    · rw [if_pos y] at h
      rw [if_pos (decide_eq_true y)]
      exact h
    · rw [if_neg y] at h
      rw [if_neg (by simpa using y)]
      exact h

theorem fg_compared (B : Bt P g) : Fg P w g base "compared" st_compared 1 ["one", "other"] s_compared := by
  obtain ⟨fd, F⟩ := B.f_compared
  exact fg_dl (wb := w_compared) B.g_compared F sc_compared (fun cdv A outer s H E c =>
    (evb_cons (evs_par (i := 2) (j := 3) sc_compared.nd (eva_cons (ev_mul (ev_ix c.c (ev_var 0) ev_int) (ev_ix c.c (ev_var 1) ev_int)) (eva_cons (ev_mul (ev_ix c.c (ev_var 1) ev_int) (ev_ix c.c (ev_var 0) ev_int)) eva_nil)))
    (evb_cons (evs_if (evt_cm (cm_eq c.c) (ev_var 2) (ev_var 3)) (evb_one (evs_ret ev_int)) evb_nil)
    (evb_one (evs_ret (ev_if (evt_cm cm_lt (ev_var 2) (ev_var 3)) (ev_neg ev_int) ev_int)))))) (pure_compared)
abbrev s_law_draw : FSem := sDraw
theorem fg_law_draw (B : Bt P g) : Fg P w g base "_law_draw" st_law_draw 1 ["deck", "many"] s_law_draw := by
  obtain ⟨fd, F⟩ := B.f_law_draw
  refine fg_of B.g_law_draw F sc_law_draw fun cdv A outer s H vs Q E hr hg hl hsp => ⟨_, ?_, run_drawA B.dki "deck" "many" "great" "cell" "one" hsp⟩
  have hu : (A.deeper (envOfC "_law_draw" (defScope st_law_draw) s.heap.objs.size (He.ga g.K "_law_draw") cdv)).units + 64 < cLine := by
    have := hr.un
    omega
  have hu1 : (A.deeper (envOfC "_law_draw" (defScope st_law_draw) s.heap.objs.size (He.ga g.K "_law_draw") cdv)).units + 1 < cLine := by omega
  exact pss_cons (ps_set (i := 2) sc_law_draw.nd rfl (Or.inl rfl) (pe_dget hu1 (pv 0) pe_str (fun _ _ => rfl)))
    (pss_cons (ps_if (pt_cmpR op_lt (pv 1) pe_int (nomark _)) (pss_one (ps_ret pe_int)) pss_nil)
    (pss_cons (ps_if (pt_cmpR (op_neD hu) (pv 2) (pe_lst pa_nil) (by first | exact nomark _ | rfl)) (pss_cons (ps_set (i := 3) sc_law_draw.nd rfl (Or.inl rfl) (pe_bm0 PySem.F.plainAttrs_list PySem.F.slot_list_pop PySem.F.type_list_pop mt_pop (pv 2)))
      (pss_cons (ps_if (pt_cmpR op_ge1 (pv 3) (pv 1) (nomark _)) (pss_one (ps_expr (pe_bm PySem.F.plainAttrs_list PySem.F.slot_list_append PySem.F.type_list_append mt_append (pv 2) (pa_cons (pe_op op_divC (pv 3) (pv 1)) pa_nil)))) pss_nil)
      (pss_one (ps_ret (pe_op op_modN (pe_callTy call_int1 rfl B.int_ (by decide +kernel) (pa_cons (pv 3) pa_nil)) (pv 1)))))) pss_nil)
    (pss_cons (ps_dput hu1 (pv 0) pe_str (pe_op op_add (pe_dget hu1 (pv 0) pe_str (fun _ _ => rfl)) pe_int) rfl)
    (pss_cons (ps_set (i := 4) sc_law_draw.nd rfl (Or.inl rfl) (pe_op op_modN (pe_callTy call_int1 rfl B.int_ (by decide +kernel) (pa_cons (pe_op op_add (pe_dget hu1 (pv 0) pe_str (fun _ _ => rfl)) (pe_op op_mulC pe_int (pe_dget hu1 (pv 0) pe_str (fun _ _ => rfl)))) pa_nil)) pe_int))
    (pss_cons (ps_set (i := 4) sc_law_draw.nd rfl (Or.inl rfl) (pe_op op_modN (pe_callTy call_int1 rfl B.int_ (by decide +kernel) (pa_cons (pe_op op_add (pe_op op_add (pe_op op_mulC (pv 4) (pv 4)) (pe_op op_mulC pe_int (pe_dget hu1 (pv 0) pe_str (fun _ _ => rfl)))) pe_int) pa_nil)) pe_int))
    (pss_cons (ps_set (i := 4) sc_law_draw.nd rfl (Or.inl rfl) (pe_op op_modN (pe_callTy call_int1 rfl B.int_ (by decide +kernel) (pa_cons (pe_op op_add (pe_op op_mulC (pv 4) (pv 4)) (pe_dget hu1 (pv 0) pe_str (fun _ _ => rfl))) pa_nil)) pe_int))
    (pss_one (ps_ret (pe_op op_modN (pe_callTy call_int1 rfl B.int_ (by decide +kernel) (pa_cons (pe_op op_divC (pv 4) pe_int) pa_nil)) (pv 1))))))))))

def s_law_pick : FSem := fun us P Ex => ∃ xs : List PyData, us = [.deck, .d (.list xs)] ∧ xs ≠ [] ∧ (xs.length : Int) < drawMax ∧ ∀ x ∈ xs, P (.d x)

def w_law_pick : WS := (wRet (wOp dIx (wV 1) (wCall s_law_draw [(wV 0), (wB dLen [(wV 1)])])))
theorem pure_law_pick : ∀ us P Ex, s_law_pick us P Ex → w_law_pick (startE ["deck", "items"] us) (bodyP P Ex) := by
  unfold w_law_pick
  rintro us P Ex ⟨xs, rfl, hn, hl, h⟩
  walk_at "dl"
  refine ⟨_, rfl, hl, fun r hr => ?_⟩
  obtain ⟨x, hx, e⟩ := at_draw hn hr
  walk_at "dl"
  rw [e]
  exact h x hx

theorem fg_law_pick (B : Bt P g) (D_law_draw : Fg P w g base "_law_draw" st_law_draw 1 ["deck", "many"] s_law_draw) : Fg P w g base "_law_pick" st_law_pick 2 ["deck", "items"] s_law_pick := by
  obtain ⟨fd, F⟩ := B.f_law_pick
  exact fg_dl (wb := w_law_pick) B.g_law_pick F sc_law_pick (fun cdv A outer s H E c =>
    (evb_one (evs_ret (ev_ix c.c (ev_var 1) (ev_call D_law_draw c.c c.t (c.r.mono (by decide)) (eva_cons (ev_var 0) (eva_cons (ev_len c.c B.len_ (eva_cons (ev_var 1) eva_nil)) eva_nil)) (fun _ _ _ _ _ _ us h => match us, h with | [_,_], _ => rfl)))))) (pure_law_pick)
def s_law_gcd : FSem := fun us P Ex => ∃ a b : Int, us = [.d (.int a), .d (.int b)] ∧ P (.d (.int (Int.gcd a b)))

def w_law_gcd : WS := (wSeq (wPar 0 1 (wB dAbs [(wV 0)]) (wB dAbs [(wV 1)]))
    (wSeq (wWhile (tOf (wOp dNe (wV 1) (wC (.int 0)))) (wPar 0 1 (wV 1) (wOp (dInt Int.fmod fun _ j => j ≠ 0) (wB dInt1 [(wV 0)]) (wV 1))))
    (wRet (wV 0))))
theorem pure_law_gcd : ∀ us P Ex, s_law_gcd us P Ex → w_law_gcd (startE ["a", "b"] us) (bodyP P Ex) := by
  unfold w_law_gcd
  rintro us P Ex ⟨x, y, rfl, h⟩
  rw [wSeq_eq]
  walk_at "dl"
  rw [wSeq_eq]
  refine ⟨fun m e => ∃ c d : Int, e = [.d (.int c), .d (.int d)] ∧ 0 ≤ c ∧ 0 ≤ d ∧ m = d.toNat ∧ Int.gcd c d = Int.gcd x y, ⟨_, _, _, rfl, by omega, by omega, rfl, by rw [Int.gcd, Int.gcd, Int.natAbs_natCast, Int.natAbs_natCast]⟩, ?_⟩
  rintro m e ⟨c, d, rfl, hc, hd, rfl, hg⟩
  walk_at "dl"
  by_cases z : d = 0
  · subst z
    rw [if_neg (by simp)]
    rw [Int.gcd_zero_right] at hg
    have e : (c.natAbs : Int) = c := by omega
    rw [← hg, e] at h
    exact h
  · rw [if_pos (by simpa using z)]
    have hp : 0 < d := by omega
    have b := fmod_bd c hp
    refine ⟨z, _, ?_, _, _, rfl, hd, b.1, rfl, ?_⟩
    · omega
    · rw [← hg, Int.fmod_eq_emod_of_nonneg c (by omega)]
      obtain ⟨m', rfl⟩ := Int.eq_ofNat_of_zero_le hc
      obtain ⟨n', rfl⟩ := Int.eq_ofNat_of_zero_le hd
      have em : (m' : Int) % (n' : Int) = ((m' % n' : Nat) : Int) := rfl
      rw [em]
      show Nat.gcd n' (m' % n') = Nat.gcd m' n'
      rw [Nat.gcd_comm n', Nat.gcd_comm m', Nat.gcd_rec n' m']

theorem fg_law_gcd (B : Bt P g) : Fg P w g base "_law_gcd" st_law_gcd 1 ["a", "b"] s_law_gcd := by
  obtain ⟨fd, F⟩ := B.f_law_gcd
  exact fg_dl (wb := w_law_gcd) B.g_law_gcd F sc_law_gcd (fun cdv A outer s H E c =>
    (evb_cons (evs_par (i := 0) (j := 1) sc_law_gcd.nd (eva_cons (ev_abs B.abs_ (eva_cons (ev_var 0) eva_nil)) (eva_cons (ev_abs B.abs_ (eva_cons (ev_var 1) eva_nil)) eva_nil)))
    (evb_cons (evs_while c.p (evt_cm (cm_ne c.c) (ev_var 1) ev_int) (evb_one (evs_par (i := 0) (j := 1) sc_law_gcd.nd (eva_cons (ev_var 1) (eva_cons (ev_mod (ev_toint B.int_ (eva_cons (ev_var 0) eva_nil)) (ev_var 1)) eva_nil)))))
    (evb_one (evs_ret (ev_var 0)))))) (pure_law_gcd)
def s_law_low : FSem := fun us P Ex => ∃ a b : Int, us = [.d (.int a), .d (.int b)] ∧ Bd 4000 b ∧ b ≠ 0 ∧ P (.d (frD a b))

def w_law_low : WS := (wSeq (wSet 2 (wCall s_law_gcd [(wV 0), (wV 1)]))
    (wSeq (wSet 2 (wIf (tOf (wOp dLt (wV 1) (wC (.int 0)))) (wOp1 dNeg (wV 2)) (wV 2)))
    (wRet (wTup [(wOp (dInt Int.fdiv DivC) (wV 0) (wV 2)), (wOp (dInt Int.fdiv DivC) (wV 1) (wV 2))]))))
theorem pure_law_low : ∀ us P Ex, s_law_low us P Ex → w_law_low (startE ["a", "b", "common"] us) (bodyP P Ex) := by
  unfold w_law_low
  rintro us P Ex ⟨a, b, rfl, hb, z, h⟩
  rw [wSeq_eq]
  walk_at "dl"
  refine ⟨_, _, rfl, ?_⟩
  walk_at "dl"
  rw [wSeq_eq]
  walk_at "dl"
  have hd := (cdv_bd (a := a) z hb).divC (cdv_ne z) (by decide) (by decide) (i := a)
  have he := (cdv_bd (a := a) z hb).divC (cdv_ne z) (by decide) (by decide) (i := b)
  unfold frD frP frQ at h
  by_cases c : b < 0
  · have e : cdv a b = -(Int.gcd a b : Int) := if_pos c
    rw [e] at hd he h
    rw [if_pos (decide_eq_true c)]
    walk_at "dl"
    exact ⟨hd, he, h⟩
  · have e : cdv a b = (Int.gcd a b : Int) := if_neg c
    rw [e] at hd he h
    rw [if_neg (by simpa using c)]
    walk_at "dl"
    exact ⟨hd, he, h⟩

theorem fg_law_low (B : Bt P g) (D_law_gcd : Fg P w g base "_law_gcd" st_law_gcd 1 ["a", "b"] s_law_gcd) : Fg P w g base "_law_low" st_law_low 2 ["a", "b"] s_law_low := by
  obtain ⟨fd, F⟩ := B.f_law_low
  exact fg_dl (wb := w_law_low) B.g_law_low F sc_law_low (fun cdv A outer s H E c =>
    (evb_cons (evs_set (i := 2) sc_law_low.nd (ev_call D_law_gcd c.c c.t (c.r.mono (by decide)) (eva_cons (ev_var 0) (eva_cons (ev_var 1) eva_nil)) (fun _ _ _ _ _ _ us h => match us, h with | [_,_], _ => rfl)))
    (evb_cons (evs_set (i := 2) sc_law_low.nd (ev_if (evt_cm cm_lt (ev_var 1) ev_int) (ev_neg (ev_var 2)) (ev_var 2)))
    (evb_one (evs_ret (ev_tup (eva_cons (ev_div (ev_var 0) (ev_var 2)) (eva_cons (ev_div (ev_var 1) (ev_var 2)) eva_nil)))))))) (pure_law_low)
def s_law_great : FSem := fun us P Ex => ∃ n : Nat, us = [.deck, .d (.int n)] ∧ 1 ≤ n ∧ n ≤ 1000 ∧ ∀ r : Int, 0 ≤ r → r < 10 ^ n → P (.d (.int r))

def w_law_great : WS := (wSeq (wSet 2 (wOp dAdd (wC (.int 1)) (wCall s_law_draw [(wV 0), (wC (.int 9))])))
    (wSeq (wForI (wiC cR1 oR1 [(wOp (dInt Int.fdiv DivC) (wB dInt1 [(wOp dSub (wV 1) (wC (.int 1)))]) (wC (.int 7)))]) (gN 3) (wSet 2 (wOp dAdd (wOp dMul (wV 2) (wOp (dInt (fun i j => i ^ j.toNat) CPow) (wC (.int 10)) (wC (.int 7)))) (wCall s_law_draw [(wV 0), (wOp (dInt (fun i j => i ^ j.toNat) CPow) (wC (.int 10)) (wC (.int 7)))]))))
    (wSeq (wForI (wiC cR1 oR1 [(wOp (dInt Int.fmod fun _ j => j ≠ 0) (wB dInt1 [(wOp dSub (wV 1) (wC (.int 1)))]) (wC (.int 7)))]) (gN 3) (wSet 2 (wOp dAdd (wOp dMul (wV 2) (wC (.int 10))) (wCall s_law_draw [(wV 0), (wC (.int 10))]))))
    (wRet (wV 2)))))
theorem pure_law_great : ∀ us P Ex, s_law_great us P Ex → w_law_great (startE ["deck", "figures", "found", "turn"] us) (bodyP P Ex) := by
  unfold w_law_great
  rintro us P Ex ⟨n, rfl, h1, h2, h⟩
  rw [wSeq_eq]
  walk_at "dl"
  refine ⟨_, rfl, by decide, fun r hr => ?_⟩
  walk_at "dl"
  rw [wSeq_eq]
  walk_at "dl"
  have eq : ((n : Int) - 1).fdiv 7 = (((n - 1) / 7 : Nat) : Int) := by
    rw [Int.fdiv_eq_ediv_of_nonneg _ (by decide)]
    omega
  have er : ((n : Int) - 1).fmod 7 = (((n - 1) % 7 : Nat) : Int) := by
    rw [Int.fmod_eq_emod_of_nonneg _ (by decide)]
    omega
  rw [eq]
  refine ⟨divC_small (by decide) (by decide), ⟨by omega, by omega⟩, ?_⟩
  refine p_for (fun i e => ∃ (f : Int) (t : Sl), e = [.deck, .d (.int n), .d (.int f), t] ∧ 0 ≤ f ∧ f < 10 ^ (1 + 7 * i)) 0 ⟨_, _, rfl, by have := hr.1; omega, by rcases hr.2 with q | q <;> omega⟩ (fun i x e K hx ⟨f, t, he, f0, f1⟩ hk => ?_) ?_
  · subst he
    walk_at "dl"
    refine ⟨⟨by decide, by decide, by decide⟩, mulC_r (by decide), ⟨by decide, by decide, by decide⟩, _, rfl, by decide, fun r hr => ?_⟩
    walk_at "dl"
    refine hk _ ⟨_, _, rfl, ?_, ?_⟩
    · have := hr.1
      have e7 : (10 : Int) ^ (7 : Int).toNat = 10000000 := by decide
      rw [e7]
      omega
    · have e7 : (10 : Int) ^ (7 : Int).toNat = 10000000 := by decide
      rw [e7] at hr ⊢
      have hr1 : r < 10000000 := by rcases hr.2 with q | q <;> omega
      rw [show 1 + 7 * (0 + i + 1) = 1 + 7 * (0 + i) + 7 by omega, Int.pow_add]
      have e7' : (10 : Int) ^ 7 = 10000000 := by decide
      rw [e7']
      omega
  · rintro e ⟨f, t, rfl, f0, f1⟩
    rw [rangeD_len, Int.toNat_natCast] at f1
    walk_at "dl"
    rw [wSeq_eq]
    walk_at "dl"
    rw [er]
    refine ⟨by decide, ⟨by omega, by omega⟩, ?_⟩
    refine p_for (fun i e => ∃ (g : Int) (t : Sl), e = [.deck, .d (.int n), .d (.int g), t] ∧ 0 ≤ g ∧ g < 10 ^ (1 + 7 * (0 + (n - 1) / 7) + i)) 0 ⟨_, _, rfl, f0, f1⟩ (fun i x e K hx ⟨g, t, he, g0, g1⟩ hk => ?_) ?_
    · subst he
      walk_at "dl"
      refine ⟨mulC_r (by decide), _, rfl, by decide, fun r hr => ?_⟩
      walk_at "dl"
      refine hk _ ⟨_, _, rfl, by have := hr.1; omega, ?_⟩
      have hr1 : r < 10 := by rcases hr.2 with q | q <;> omega
      rw [← Nat.add_assoc, Int.pow_succ]
      omega
    · rintro e ⟨g, t, rfl, g0, g1⟩
      rw [rangeD_len, Int.toNat_natCast] at g1
      walk_at "dl"
      refine h g g0 ?_
      have en : 1 + 7 * (0 + (n - 1) / 7) + (0 + (n - 1) % 7) = n := by omega
      rw [en] at g1
      exact g1

theorem fg_law_great (B : Bt P g) (D_law_draw : Fg P w g base "_law_draw" st_law_draw 1 ["deck", "many"] s_law_draw) : Fg P w g base "_law_great" st_law_great 2 ["deck", "figures"] s_law_great := by
  obtain ⟨fd, F⟩ := B.f_law_great
  exact fg_dl (wb := w_law_great) B.g_law_great F sc_law_great (fun cdv A outer s H E c =>
    (evb_cons (evs_set (i := 2) sc_law_great.nd (ev_add c.c.K ev_int (ev_call D_law_draw c.c c.t (c.r.mono (by decide)) (eva_cons (ev_var 0) (eva_cons ev_int eva_nil)) (fun _ _ _ _ _ _ us h => match us, h with | [_,_], _ => rfl))))
    (evb_cons (evs_for c.p (evi_range1 B.range_ (eva_cons (ev_div (ev_toint B.int_ (eva_cons (ev_sub (ev_var 1) ev_int) eva_nil)) ev_int) eva_nil)) (evg_name 3 sc_law_great.nd) (evb_one (evs_set (i := 2) sc_law_great.nd (ev_add c.c.K (ev_mul (ev_var 2) (ev_pow ev_int ev_int)) (ev_call D_law_draw c.c c.t (c.r.mono (by decide)) (eva_cons (ev_var 0) (eva_cons (ev_pow ev_int ev_int) eva_nil)) (fun _ _ _ _ _ _ us h => match us, h with | [_,_], _ => rfl))))))
    (evb_cons (evs_for c.p (evi_range1 B.range_ (eva_cons (ev_mod (ev_toint B.int_ (eva_cons (ev_sub (ev_var 1) ev_int) eva_nil)) ev_int) eva_nil)) (evg_name 3 sc_law_great.nd) (evb_one (evs_set (i := 2) sc_law_great.nd (ev_add c.c.K (ev_mul (ev_var 2) ev_int) (ev_call D_law_draw c.c c.t (c.r.mono (by decide)) (eva_cons (ev_var 0) (eva_cons ev_int eva_nil)) (fun _ _ _ _ _ _ us h => match us, h with | [_,_], _ => rfl))))))
    (evb_one (evs_ret (ev_var 2))))))) (pure_law_great)
def s_law_int : FSem := fun us P Ex => us = [.deck] ∧ ∀ r : Int, Bd 400 r → P (.d (.int r))

def w_law_int : WS := (wSeq (wSet 1 (wCall s_law_draw [(wV 0), (wC (.int 7))]))
    (wSeq (wIfS (tOf (wOp dLt (wV 1) (wC (.int 3)))) (wRet (wOp dSub (wCall s_law_draw [(wV 0), (wC (.int 25))]) (wC (.int 12)))) wNext)
    (wSeq (wIfS (tOf (wOp dEq (wV 1) (wC (.int 3)))) (wRet (wOp dSub (wCall s_law_draw [(wV 0), (wC (.int 20001))]) (wC (.int 10000)))) wNext)
    (wSeq (wSet 2 (wCall s_law_great [(wV 0), (wCall s_law_pick [(wV 0), (wLst [(wC (.int 9)), (wC (.int 20)), (wC (.int 45)), (wC (.int 110))])])]))
    (wRet (wIf (tOf (wOp dGt (wV 1) (wC (.int 4)))) (wV 2) (wOp1 dNeg (wV 2))))))))
theorem pure_law_int : ∀ us P Ex, s_law_int us P Ex → w_law_int (startE ["deck", "kind", "whole"] us) (bodyP P Ex) := by
  unfold w_law_int
  rintro us P Ex ⟨rfl, h⟩
  have hs : ∀ r : Int, -100000 < r → r < 100000 → P (.d (.int r)) := fun r h1 h2 => h r (Bd.mono (m := 17) (show r.natAbs < 2 ^ 17 by omega) (by decide))
  rw [wSeq_eq]
  walk_at "dl"
  refine ⟨_, rfl, by decide, fun k hk => ?_⟩
  walk_at "dl"
  rw [wSeq_eq]
  walk_at "dl"
  by_cases c1 : k < 3
  · rw [if_pos (decide_eq_true c1)]
    refine ⟨_, rfl, by decide, fun r hr => ?_⟩
    walk_at "dl"
    have := hr.1
    exact hs _ (by omega) (by rcases hr.2 with q | q <;> omega)
  · rw [if_neg (by simpa using c1), wSeq_eq]
    walk_at "dl"
    by_cases c2 : k = 3
    · rw [if_pos (beq_iff_eq.mpr c2)]
      refine ⟨_, rfl, by decide, fun r hr => ?_⟩
      walk_at "dl"
      have := hr.1
      exact hs _ (by omega) (by rcases hr.2 with q | q <;> omega)
    · rw [if_neg (by simpa using c2), wSeq_eq]
      walk_at "dl"
      refine ⟨_, rfl, by simp, by decide, fun x hx => ?_⟩
      obtain ⟨m, rfl, m1, m2⟩ : ∃ m : Nat, x = .int m ∧ 1 ≤ m ∧ m ≤ 110 := by
        simp only [List.mem_cons, List.not_mem_nil, or_false] at hx
        rcases hx with rfl | rfl | rfl | rfl
        · exact ⟨9, rfl, by decide, by decide⟩
        · exact ⟨20, rfl, by decide, by decide⟩
        · exact ⟨45, rfl, by decide, by decide⟩
        · exact ⟨110, rfl, by decide, by decide⟩
      walk_at "dl"
      refine ⟨m, rfl, m1, by omega, fun r r0 r1 => ?_⟩
      have hb : Bd 400 r := by
        have l1 : (10 : Int) ^ m ≤ 10 ^ 110 := by
          have := Nat.pow_le_pow_right (n := 10) (by decide) m2
          exact_mod_cast this
        have l2 : (10 : Int) ^ 110 < 2 ^ 400 := by decide
        have l3 : (r.natAbs : Int) < 2 ^ 400 := by
          rw [Int.natAbs_of_nonneg r0]
          omega
        exact_mod_cast l3
      walk_at "dl"
      by_cases c3 : 4 < k
      · rw [if_pos (decide_eq_true c3)]
        exact h _ hb
      · rw [if_neg (by simpa using c3)]
        exact h _ hb.neg

theorem fg_law_int (B : Bt P g) (D_law_draw : Fg P w g base "_law_draw" st_law_draw 1 ["deck", "many"] s_law_draw) (D_law_great : Fg P w g base "_law_great" st_law_great 2 ["deck", "figures"] s_law_great) (D_law_pick : Fg P w g base "_law_pick" st_law_pick 2 ["deck", "items"] s_law_pick) : Fg P w g base "_law_int" st_law_int 3 ["deck"] s_law_int := by
  obtain ⟨fd, F⟩ := B.f_law_int
  exact fg_dl (wb := w_law_int) B.g_law_int F sc_law_int (fun cdv A outer s H E c =>
    (evb_cons (evs_set (i := 1) sc_law_int.nd (ev_call D_law_draw c.c c.t (c.r.mono (by decide)) (eva_cons (ev_var 0) (eva_cons ev_int eva_nil)) (fun _ _ _ _ _ _ us h => match us, h with | [_,_], _ => rfl)))
    (evb_cons (evs_if (evt_cm cm_lt (ev_var 1) ev_int) (evb_one (evs_ret (ev_sub (ev_call D_law_draw c.c c.t (c.r.mono (by decide)) (eva_cons (ev_var 0) (eva_cons ev_int eva_nil)) (fun _ _ _ _ _ _ us h => match us, h with | [_,_], _ => rfl)) ev_int))) evb_nil)
    (evb_cons (evs_if (evt_cm (cm_eq c.c) (ev_var 1) ev_int) (evb_one (evs_ret (ev_sub (ev_call D_law_draw c.c c.t (c.r.mono (by decide)) (eva_cons (ev_var 0) (eva_cons ev_int eva_nil)) (fun _ _ _ _ _ _ us h => match us, h with | [_,_], _ => rfl)) ev_int))) evb_nil)
    (evb_cons (evs_set (i := 2) sc_law_int.nd (ev_call D_law_great c.c c.t (c.r.mono (by decide)) (eva_cons (ev_var 0) (eva_cons (ev_call D_law_pick c.c c.t (c.r.mono (by decide)) (eva_cons (ev_var 0) (eva_cons (ev_lst (eva_cons ev_int (eva_cons ev_int (eva_cons ev_int (eva_cons ev_int eva_nil))))) eva_nil)) (fun _ _ _ _ _ _ us h => match us, h with | [_,_], _ => rfl)) eva_nil)) (fun _ _ _ _ _ _ us h => match us, h with | [_,_], _ => rfl)))
    (evb_one (evs_ret (ev_if (evt_cm cm_gt (ev_var 1) ev_int) (ev_var 2) (ev_neg (ev_var 2)))))))))) (pure_law_int)
def s_law_some : FSem := fun us P Ex => us = [.deck] ∧ ∀ p q : Int, q ≠ 0 → Bd 400 p → Bd 400 q → P (.d (.tuple [.int p, .int q]))

def w_law_some : WS := (wSeq (wSet 1 (wCall s_law_int [(wV 0)]))
    (wRet (wCall s_law_low [(wCall s_law_int [(wV 0)]), (wIf (tOf (wOp dEq (wV 1) (wC (.int 0)))) (wC (.int 7)) (wV 1))])))
theorem pure_law_some : ∀ us P Ex, s_law_some us P Ex → w_law_some (startE ["deck", "under"] us) (bodyP P Ex) := by
  unfold w_law_some
  rintro us P Ex ⟨rfl, h⟩
  rw [wSeq_eq]
  walk_at "dl"
  refine ⟨rfl, fun b hb => ?_⟩
  walk_at "dl"
  refine ⟨rfl, fun a ha => ?_⟩
  walk_at "dl"
  have fin : ∀ c : Int, c ≠ 0 → Bd 400 c → P (.d (frD a c)) := fun c c0 cb => h _ _ (frQ_le c0).2 (ha.le (frP_le c0)) (cb.le (frQ_le c0).1)
  by_cases z : b = 0
  · rw [if_pos (beq_iff_eq.mpr z)]
    refine ⟨_, _, rfl, show (7 : Int).natAbs < 2 ^ 4000 by decide, by decide, ?_⟩
    exact fin 7 (by decide) (show (7 : Int).natAbs < 2 ^ 400 by decide)
  · rw [if_neg (by simpa using z)]
    refine ⟨_, _, rfl, hb.mono (by decide), z, ?_⟩
    exact fin b z hb

theorem fg_law_some (B : Bt P g) (D_law_int : Fg P w g base "_law_int" st_law_int 3 ["deck"] s_law_int) (D_law_low : Fg P w g base "_law_low" st_law_low 2 ["a", "b"] s_law_low) : Fg P w g base "_law_some" st_law_some 4 ["deck"] s_law_some := by
  obtain ⟨fd, F⟩ := B.f_law_some
  exact fg_dl (wb := w_law_some) B.g_law_some F sc_law_some (fun cdv A outer s H E c =>
    (evb_cons (evs_set (i := 1) sc_law_some.nd (ev_call D_law_int c.c c.t (c.r.mono (by decide)) (eva_cons (ev_var 0) eva_nil) (fun _ _ _ _ _ _ us h => match us, h with | [_], _ => rfl)))
    (evb_one (evs_ret (ev_call D_law_low c.c c.t (c.r.mono (by decide)) (eva_cons (ev_call D_law_int c.c c.t (c.r.mono (by decide)) (eva_cons (ev_var 0) eva_nil) (fun _ _ _ _ _ _ us h => match us, h with | [_], _ => rfl)) (eva_cons (ev_if (evt_cm (cm_eq c.c) (ev_var 1) ev_int) ev_int (ev_var 1)) eva_nil)) (fun _ _ _ _ _ _ us h => match us, h with | [_,_], _ => rfl)))))) (pure_law_some)
def s_law_told : FSem := fun us P Ex => ∃ k : Bool, us[3]? = some (.d (.bool k)) ∧ us.length = 4 ∧ askD us fun x y => P (.nw (.lst (dueD x y)))

def w_law_told (g : DG) : WS := (wTryAs g em_Unfit 4 (wSeq (wIfS (tOf (wOp dEq (wV 0) (wC (.str "lowest")))) (wRet (wLst [(wC (.str "told")), (wIf (tOf (wV 3)) (wCallK s_lowest [1, 0] [(wV 2), (wV 1)]) (wCall s_lowest [(wV 1), (wV 2)]))])) wNext)
    (wSeq (wIfS (tOf (wOp dEq (wV 0) (wC (.str "added")))) (wRet (wLst [(wC (.str "told")), (wIf (tOf (wV 3)) (wCallK s_added [1, 0] [(wV 2), (wV 1)]) (wCall s_added [(wV 1), (wV 2)]))])) wNext)
    (wSeq (wIfS (tOf (wOp dEq (wV 0) (wC (.str "multiplied")))) (wRet (wLst [(wC (.str "told")), (wIf (tOf (wV 3)) (wCallK s_multiplied [1, 0] [(wV 2), (wV 1)]) (wCall s_multiplied [(wV 1), (wV 2)]))])) wNext)
    (wRet (wLst [(wC (.str "told")), (wIf (tOf (wV 3)) (wCallK s_divided [1, 0] [(wV 2), (wV 1)]) (wCall s_divided [(wV 1), (wV 2)]))]))))) (fun ax cls dd => (wRet (wLst [(wC (.str "unfit")), (wIsE 4 ax (He.ga g.K "Unfit") true cls dd)]))))
theorem pure_law_told (B : Bt P g) : ∀ us P Ex, s_law_told us P Ex → w_law_told g (startE ["word", "one", "other", "is_named", "slip"] us) (bodyP P Ex) := by
  unfold w_law_told
  rintro us P Ex ⟨k, hk, hl, rest, ⟨a, b, rfl, ha, hb, h⟩ | ⟨a, b, c, d, x, y, z, rfl, ha, hb, hc, hd, b0, d0, hw, h⟩⟩
  · obtain rfl : rest = [.d (.bool k)] := by
      match rest, hl, hk with
      | [r], _, hk => simp at hk; rw [hk]
    walk_at "dl"
    rw [wSeq_eq]
    walk_at "dl"
    rw [if_pos (by decide)]
    unfold dueD at h
    have hE : b = 0 → ∀ (a2 : Addr) (cls : Value) (d : Option Addr), (∃ ax, g.mg "Unfit" = some (.ref ax) ∧ cls = .ref ax) → d = none → (cls = .ref (He.ga g.K "Unfit") ∧ d = none) ∧ P (.nw (.lst [.str "unfit", .bool true])) := fun z a2 cls d ⟨ax, m1, m2⟩ m3 => by
      rw [if_pos z] at h
      rw [B.g_Unfit] at m1
      cases m1
      exact ⟨⟨m2, m3⟩, h⟩
    cases k
    · rw [if_neg (by decide)]
      refine ⟨_, _, rfl, hb.mono (by decide), fun z => ?_, fun z => ?_⟩
      · dsimp only
        rw [em_U]
        intro a2 cls d2 hx hd2
        obtain ⟨y1, y2⟩ := hE z a2 cls d2 hx (hd2 rfl)
        exact ⟨y1, trivial, y2⟩
      · rw [if_neg z] at h
        exact h
    · rw [if_pos rfl]
      refine ⟨_, _, rfl, hb.mono (by decide), fun z => ?_, fun z => ?_⟩
      · dsimp only
        rw [em_U]
        intro a2 cls d2 hx hd2
        obtain ⟨y1, y2⟩ := hE z a2 cls d2 hx (hd2 rfl)
        exact ⟨y1, trivial, y2⟩
      · rw [if_neg z] at h
        exact h
  · obtain rfl : rest = [.d (.bool k)] := by
      match rest, hl, hk with
      | [r], _, hk => simp at hk; rw [hk]
    walk_at "dl"
    rw [wSeq_eq]
    walk_at "dl"
    unfold dueD at h
    have hE : y = 0 → ∀ (a2 : Addr) (cls : Value) (d : Option Addr), (∃ ax, g.mg "Unfit" = some (.ref ax) ∧ cls = .ref ax) → d = none → (cls = .ref (He.ga g.K "Unfit") ∧ d = none) ∧ P (.nw (.lst [.str "unfit", .bool true])) := fun z a2 cls d ⟨ax, m1, m2⟩ m3 => by
      rw [if_pos z] at h
      rw [B.g_Unfit] at m1
      cases m1
      exact ⟨⟨m2, m3⟩, h⟩
    rcases hw with ⟨rfl, rfl, rfl⟩ | ⟨rfl, rfl, rfl⟩ | ⟨rfl, rfl, rfl⟩
    · rw [if_neg (by decide), wSeq_eq]
      walk_at "dl"
      rw [if_pos (by decide)]
      cases k
      · rw [if_neg (by decide)]
        refine ⟨_, _, _, _, rfl, ha, hb, hc, hd, fun z => ?_, fun z => ?_⟩
        · dsimp only
          rw [em_U]
          intro a2 cls d2 hx hd2
          obtain ⟨y1, y2⟩ := hE z a2 cls d2 hx (hd2 rfl)
          exact ⟨y1, trivial, y2⟩
        · rw [if_neg z] at h
          exact h
      · rw [if_pos rfl]
        refine ⟨_, _, _, _, rfl, ha, hb, hc, hd, fun z => ?_, fun z => ?_⟩
        · dsimp only
          rw [em_U]
          intro a2 cls d2 hx hd2
          obtain ⟨y1, y2⟩ := hE z a2 cls d2 hx (hd2 rfl)
          exact ⟨y1, trivial, y2⟩
        · rw [if_neg z] at h
          exact h
    · rw [if_neg (by decide), wSeq_eq]
      walk_at "dl"
      rw [if_neg (by decide), wSeq_eq]
      walk_at "dl"
      rw [if_pos (by decide)]
      cases k
      · rw [if_neg (by decide)]
        refine ⟨_, _, _, _, rfl, ha, hb, hc, hd, fun z => ?_, fun z => ?_⟩
        · dsimp only
          rw [em_U]
          intro a2 cls d2 hx hd2
          obtain ⟨y1, y2⟩ := hE z a2 cls d2 hx (hd2 rfl)
          exact ⟨y1, trivial, y2⟩
        · rw [if_neg z] at h
          exact h
      · rw [if_pos rfl]
        refine ⟨_, _, _, _, rfl, ha, hb, hc, hd, fun z => ?_, fun z => ?_⟩
        · dsimp only
          rw [em_U]
          intro a2 cls d2 hx hd2
          obtain ⟨y1, y2⟩ := hE z a2 cls d2 hx (hd2 rfl)
          exact ⟨y1, trivial, y2⟩
        · rw [if_neg z] at h
          exact h
    · rw [if_neg (by decide), wSeq_eq]
      walk_at "dl"
      rw [if_neg (by decide), wSeq_eq]
      walk_at "dl"
      rw [if_neg (by decide)]
      walk_at "dl"
      cases k
      · rw [if_neg (by decide)]
        refine ⟨_, _, _, _, rfl, ha, hb, hc, hd, fun z => ?_, fun z => ?_⟩
        · dsimp only
          rw [em_U]
          intro a2 cls d2 hx hd2
          obtain ⟨y1, y2⟩ := hE z a2 cls d2 hx (hd2 rfl)
          exact ⟨y1, trivial, y2⟩
        · rw [if_neg z] at h
          exact h
      · rw [if_pos rfl]
        refine ⟨_, _, _, _, rfl, ha, hb, hc, hd, fun z => ?_, fun z => ?_⟩
        · dsimp only
          rw [em_U]
          intro a2 cls d2 hx hd2
          obtain ⟨y1, y2⟩ := hE z a2 cls d2 hx (hd2 rfl)
          exact ⟨y1, trivial, y2⟩
        · rw [if_neg z] at h
          exact h

theorem fg_law_told (B : Bt P g) (D_divided : Fg P w g base "divided" st_divided 2 ["one", "other"] s_divided) (D_lowest : Fg P w g base "lowest" st_lowest 1 ["a", "b"] s_lowest) (D_added : Fg P w g base "added" st_added 2 ["one", "other"] s_added) (D_multiplied : Fg P w g base "multiplied" st_multiplied 2 ["one", "other"] s_multiplied) : Fg P w g base "_law_told" st_law_told 3 ["word", "one", "other", "is_named"] s_law_told := by
  obtain ⟨fd, F⟩ := B.f_law_told
  exact fg_dl (wb := w_law_told g) B.g_law_told F sc_law_told (fun cdv A outer s H E c =>
    (evb_one (evs_tryAs (i := 4) (em := em_Unfit) c.c sc_law_told.nd ⟨rfl, by decide, .inl B.g_Unfit⟩ c.t B.em_Unfit
    (fun W pn xe t p => (evb_cons (evs_if (evt_cm (cm_eq (Bc.tr c t p).c) (ev_var 0) ev_str) (evb_one (evs_ret (ev_lst (eva_cons ev_str (eva_cons (ev_if (evt_val (ev_var 3)) (ev_callK (ks := [("b" : Str), ("a" : Str)]) (idx := [1, 0]) D_lowest (Bc.tr c t p).c (Bc.tr c t p).t ((Bc.tr c t p).r.mono (by decide)) (evk_cons (ev_var 2) (evk_cons (ev_var 1) evk_nil)) (fun _ _ _ _ _ _ us h => match us, h with | [_,_], _ => rfl)) (ev_call D_lowest (Bc.tr c t p).c (Bc.tr c t p).t ((Bc.tr c t p).r.mono (by decide)) (eva_cons (ev_var 1) (eva_cons (ev_var 2) eva_nil)) (fun _ _ _ _ _ _ us h => match us, h with | [_,_], _ => rfl))) eva_nil))))) evb_nil)
    (evb_cons (evs_if (evt_cm (cm_eq (Bc.tr c t p).c) (ev_var 0) ev_str) (evb_one (evs_ret (ev_lst (eva_cons ev_str (eva_cons (ev_if (evt_val (ev_var 3)) (ev_callK (ks := [("other" : Str), ("one" : Str)]) (idx := [1, 0]) D_added (Bc.tr c t p).c (Bc.tr c t p).t ((Bc.tr c t p).r.mono (by decide)) (evk_cons (ev_var 2) (evk_cons (ev_var 1) evk_nil)) (fun _ _ _ _ _ _ us h => match us, h with | [_,_], _ => rfl)) (ev_call D_added (Bc.tr c t p).c (Bc.tr c t p).t ((Bc.tr c t p).r.mono (by decide)) (eva_cons (ev_var 1) (eva_cons (ev_var 2) eva_nil)) (fun _ _ _ _ _ _ us h => match us, h with | [_,_], _ => rfl))) eva_nil))))) evb_nil)
    (evb_cons (evs_if (evt_cm (cm_eq (Bc.tr c t p).c) (ev_var 0) ev_str) (evb_one (evs_ret (ev_lst (eva_cons ev_str (eva_cons (ev_if (evt_val (ev_var 3)) (ev_callK (ks := [("other" : Str), ("one" : Str)]) (idx := [1, 0]) D_multiplied (Bc.tr c t p).c (Bc.tr c t p).t ((Bc.tr c t p).r.mono (by decide)) (evk_cons (ev_var 2) (evk_cons (ev_var 1) evk_nil)) (fun _ _ _ _ _ _ us h => match us, h with | [_,_], _ => rfl)) (ev_call D_multiplied (Bc.tr c t p).c (Bc.tr c t p).t ((Bc.tr c t p).r.mono (by decide)) (eva_cons (ev_var 1) (eva_cons (ev_var 2) eva_nil)) (fun _ _ _ _ _ _ us h => match us, h with | [_,_], _ => rfl))) eva_nil))))) evb_nil)
    (evb_one (evs_ret (ev_lst (eva_cons ev_str (eva_cons (ev_if (evt_val (ev_var 3)) (ev_callK (ks := [("other" : Str), ("one" : Str)]) (idx := [1, 0]) D_divided (Bc.tr c t p).c (Bc.tr c t p).t ((Bc.tr c t p).r.mono (by decide)) (evk_cons (ev_var 2) (evk_cons (ev_var 1) evk_nil)) (fun _ _ _ _ _ _ us h => match us, h with | [_,_], _ => rfl)) (ev_call D_divided (Bc.tr c t p).c (Bc.tr c t p).t ((Bc.tr c t p).r.mono (by decide)) (eva_cons (ev_var 1) (eva_cons (ev_var 2) eva_nil)) (fun _ _ _ _ _ _ us h => match us, h with | [_,_], _ => rfl))) eva_nil)))))))))
    (fun a oe cls d pn hz hf => (evb_one (evs_ret (ev_lst (eva_cons ev_str (eva_cons (ev_isE 4 c.c hz hf B.ec_Unfit B.is_Unfit_ChainError B.g_ChainError B.isinstance_) eva_nil))))))))) (pure_law_told B)
def s_law_due : FSem := fun us P Ex => us.length = 3 ∧ askD us fun x y => P (.nw (.lst (dueD x y)))

def w_law_due : WS := (wSeq (wIfS (tOf (wOp dEq (wV 0) (wC (.str "lowest")))) (wRet (wIf (tOf (wOp dEq (wV 2) (wC (.int 0)))) (wLst [(wC (.str "unfit")), (wC (.bool true))]) (wLst [(wC (.str "told")), (wCall s_law_low [(wV 1), (wV 2)])]))) wNext)
    (wSeq (wAsg (wTup [(wV 1), (wV 2)]) (gTupW 2 (gConsW (gTupW 2 (gConsW (gN 3) (gConsW (gN 4) gNilW))) (gConsW (gTupW 2 (gConsW (gN 5) (gConsW (gN 6) gNilW))) gNilW))))
    (wSeq (wIfS (tOf (wOp dEq (wV 0) (wC (.str "added")))) (wRet (wLst [(wC (.str "told")), (wCall s_law_low [(wOp dAdd (wOp dMul (wV 3) (wV 6)) (wOp dMul (wV 5) (wV 4))), (wOp dMul (wV 4) (wV 6))])])) wNext)
    (wSeq (wIfS (tOf (wOp dEq (wV 0) (wC (.str "multiplied")))) (wRet (wLst [(wC (.str "told")), (wCall s_law_low [(wOp dMul (wV 3) (wV 5)), (wOp dMul (wV 4) (wV 6))])])) wNext)
    (wRet (wIf (tOf (wOp dEq (wV 5) (wC (.int 0)))) (wLst [(wC (.str "unfit")), (wC (.bool true))]) (wLst [(wC (.str "told")), (wCall s_law_low [(wOp dMul (wV 3) (wV 6)), (wOp dMul (wV 4) (wV 5))])])))))))
theorem pure_law_due : ∀ us P Ex, s_law_due us P Ex → w_law_due (startE ["word", "one", "other", "a", "b", "c", "d"] us) (bodyP P Ex) := by
  unfold w_law_due
  rintro us P Ex ⟨hl, rest, ⟨a, b, rfl, ha, hb, h⟩ | ⟨a, b, c, d, x, y, z, rfl, ha, hb, hc, hd, b0, d0, hw, h⟩⟩
  · obtain rfl : rest = [] := by simpa using hl
    rw [wSeq_eq]
    walk_at "dl"
    rw [if_pos (by decide)]
    unfold dueD at h
    by_cases z : b = 0
    · rw [if_pos z] at h
      rw [if_pos (beq_iff_eq.mpr z)]
      exact h
    · rw [if_neg z] at h
      rw [if_neg (by simpa using z)]
      exact ⟨_, _, rfl, hb.mono (by decide), z, h⟩
  · obtain rfl : rest = [] := by simpa using hl
    rw [wSeq_eq]
    walk_at "dl"
    unfold dueD at h
    rcases hw with ⟨rfl, rfl, rfl⟩ | ⟨rfl, rfl, rfl⟩ | ⟨rfl, rfl, rfl⟩
    · rw [if_neg (by decide), wSeq_eq]
      walk_at "dl"
      refine ⟨trivial, trivial, trivial, ?_⟩
      rw [wSeq_eq]
      walk_at "dl"
      rw [if_pos (by decide)]
      have n0 : b * d ≠ 0 := Int.mul_ne_zero b0 d0
      rw [if_neg n0] at h
      exact ⟨ha.mulC hd (by decide) (by decide) (by decide), hc.mulC hb (by decide) (by decide) (by decide), hb.mulC hd (by decide) (by decide) (by decide), _, _, rfl, (hb.mul hd).mono (by decide), n0, h⟩
    · rw [if_neg (by decide), wSeq_eq]
      walk_at "dl"
      refine ⟨trivial, trivial, trivial, ?_⟩
      rw [wSeq_eq]
      walk_at "dl"
      rw [if_neg (by decide), wSeq_eq]
      walk_at "dl"
      rw [if_pos (by decide)]
      have n0 : b * d ≠ 0 := Int.mul_ne_zero b0 d0
      rw [if_neg n0] at h
      exact ⟨ha.mulC hc (by decide) (by decide) (by decide), hb.mulC hd (by decide) (by decide) (by decide), _, _, rfl, (hb.mul hd).mono (by decide), n0, h⟩
    · rw [if_neg (by decide), wSeq_eq]
      walk_at "dl"
      refine ⟨trivial, trivial, trivial, ?_⟩
      rw [wSeq_eq]
      walk_at "dl"
      rw [if_neg (by decide), wSeq_eq]
      walk_at "dl"
      rw [if_neg (by decide)]
      walk_at "dl"
      by_cases c0 : c = 0
      · rw [if_pos (by rw [c0, Int.mul_zero])] at h
        rw [if_pos (beq_iff_eq.mpr c0)]
        exact h
      · have n0 : b * c ≠ 0 := Int.mul_ne_zero b0 c0
        rw [if_neg n0] at h
        rw [if_neg (by simpa using c0)]
        exact ⟨ha.mulC hd (by decide) (by decide) (by decide), hb.mulC hc (by decide) (by decide) (by decide), _, _, rfl, (hb.mul hc).mono (by decide), n0, h⟩

theorem fg_law_due (B : Bt P g) (D_law_low : Fg P w g base "_law_low" st_law_low 2 ["a", "b"] s_law_low) : Fg P w g base "_law_due" st_law_due 3 ["word", "one", "other"] s_law_due := by
  obtain ⟨fd, F⟩ := B.f_law_due
  exact fg_dl (wb := w_law_due) B.g_law_due F sc_law_due (fun cdv A outer s H E c =>
    (evb_cons (evs_if (evt_cm (cm_eq c.c) (ev_var 0) ev_str) (evb_one (evs_ret (ev_if (evt_cm (cm_eq c.c) (ev_var 2) ev_int) (ev_lst (eva_cons ev_str (eva_cons ev_bool eva_nil))) (ev_lst (eva_cons ev_str (eva_cons (ev_call D_law_low c.c c.t (c.r.mono (by decide)) (eva_cons (ev_var 1) (eva_cons (ev_var 2) eva_nil)) (fun _ _ _ _ _ _ us h => match us, h with | [_,_], _ => rfl)) eva_nil)))))) evb_nil)
    (evb_cons (evs_asg (ev_tup (eva_cons (ev_var 1) (eva_cons (ev_var 2) eva_nil))) (evg_tup (n := 2) c.c.K (evgs_cons (evg_tup (n := 2) c.c.K (evgs_cons (evg_name 3 sc_law_due.nd) (evgs_cons (evg_name 4 sc_law_due.nd) evgs_nil))) (evgs_cons (evg_tup (n := 2) c.c.K (evgs_cons (evg_name 5 sc_law_due.nd) (evgs_cons (evg_name 6 sc_law_due.nd) evgs_nil))) evgs_nil))))
    (evb_cons (evs_if (evt_cm (cm_eq c.c) (ev_var 0) ev_str) (evb_one (evs_ret (ev_lst (eva_cons ev_str (eva_cons (ev_call D_law_low c.c c.t (c.r.mono (by decide)) (eva_cons (ev_add c.c.K (ev_mul (ev_var 3) (ev_var 6)) (ev_mul (ev_var 5) (ev_var 4))) (eva_cons (ev_mul (ev_var 4) (ev_var 6)) eva_nil)) (fun _ _ _ _ _ _ us h => match us, h with | [_,_], _ => rfl)) eva_nil))))) evb_nil)
    (evb_cons (evs_if (evt_cm (cm_eq c.c) (ev_var 0) ev_str) (evb_one (evs_ret (ev_lst (eva_cons ev_str (eva_cons (ev_call D_law_low c.c c.t (c.r.mono (by decide)) (eva_cons (ev_mul (ev_var 3) (ev_var 5)) (eva_cons (ev_mul (ev_var 4) (ev_var 6)) eva_nil)) (fun _ _ _ _ _ _ us h => match us, h with | [_,_], _ => rfl)) eva_nil))))) evb_nil)
    (evb_one (evs_ret (ev_if (evt_cm (cm_eq c.c) (ev_var 5) ev_int) (ev_lst (eva_cons ev_str (eva_cons ev_bool eva_nil))) (ev_lst (eva_cons ev_str (eva_cons (ev_call D_law_low c.c c.t (c.r.mono (by decide)) (eva_cons (ev_mul (ev_var 3) (ev_var 6)) (eva_cons (ev_mul (ev_var 4) (ev_var 5)) eva_nil)) (fun _ _ _ _ _ _ us h => match us, h with | [_,_], _ => rfl)) eva_nil))))))))))) (pure_law_due)
def s_law_side : FSem := fun us P Ex => fr2 us fun a b c d => P (.d (.int (cmpI (a * d) (c * b))))

def w_law_side : WS := (wSeq (wPar 2 3 (wOp dMul (wOp dIx (wV 0) (wC (.int 0))) (wOp dIx (wV 1) (wC (.int 1)))) (wOp dMul (wOp dIx (wV 1) (wC (.int 0))) (wOp dIx (wV 0) (wC (.int 1)))))
    (wRet (wOp dSub (wB dInt1 [(wOp dGt (wV 2) (wV 3))]) (wB dInt1 [(wOp dLt (wV 2) (wV 3))]))))
theorem pure_law_side : ∀ us P Ex, s_law_side us P Ex → w_law_side (startE ["one", "other", "left", "right"] us) (bodyP P Ex) := by
  unfold w_law_side
  rintro us P Ex ⟨a, b, c, d, rfl, ha, hb, hc, hd, h⟩
  rw [wSeq_eq]
  walk_at "dl"
  refine ⟨ha.mulC hd (by decide) (by decide) (by decide), hc.mulC hb (by decide) (by decide) (by decide), ?_⟩
  have e : (if decide (c * b < a * d) = true then (1 : Int) else 0) - (if decide (a * d < c * b) = true then 1 else 0) = cmpI (a * d) (c * b) := by
    unfold cmpI
    by_cases z : a * d = c * b
    · rw [if_pos z, z]; simp
    · rw [if_neg z]
      by_cases y : a * d < c * b
      · rw [if_pos y, if_neg (by simp; omega), if_pos (decide_eq_true y)]; rfl
      · rw [if_neg y, if_pos (by simp; omega), if_neg (by simpa using y)]; rfl
  rw [e]
  exact h

theorem fg_law_side (B : Bt P g) : Fg P w g base "_law_side" st_law_side 1 ["one", "other"] s_law_side := by
  obtain ⟨fd, F⟩ := B.f_law_side
  exact fg_dl (wb := w_law_side) B.g_law_side F sc_law_side (fun cdv A outer s H E c =>
    (evb_cons (evs_par (i := 2) (j := 3) sc_law_side.nd (eva_cons (ev_mul (ev_ix c.c (ev_var 0) ev_int) (ev_ix c.c (ev_var 1) ev_int)) (eva_cons (ev_mul (ev_ix c.c (ev_var 1) ev_int) (ev_ix c.c (ev_var 0) ev_int)) eva_nil)))
    (evb_one (evs_ret (ev_sub (ev_toint B.int_ (eva_cons (ev_cm cm_gt (ev_var 2) (ev_var 3)) eva_nil)) (ev_toint B.int_ (eva_cons (ev_cm cm_lt (ev_var 2) (ev_var 3)) eva_nil))))))) (pure_law_side)
end
/-! ### the deck's def -/
theorem fn_law_deck {P : Program} {w : World} {g : DG} {base : Heap} (B : Bt P g) {fd : FuncData} (F : L2.Fun g.K "_law_deck" "_law_deck" st_law_deck (He.ga g.K "_law_deck") fd) : FnOk P w g.K g.mg base (L2.CX P w) 1 (He.ga g.K "_law_deck") fd ["script"] (spDeck g) := by
  refine F.okX sc_law_deck (fun vs H Q E h => by obtain ⟨a, ns, rfl, _⟩ := h; rfl) fun cdv A outer s H vs Q E hr h => ⟨_, ?_, run_deckA B.dki "script" "cells" "stirred" "cell" h⟩
  have hu : (A.deeper (envOfC "_law_deck" (defScope st_law_deck) s.heap.objs.size (He.ga g.K "_law_deck") cdv)).units + 1 < cLine := by
    have := hr.un
    omega
  refine pss_cons (ps_par rfl sc_law_deck.nd rfl rfl (by decide) rfl rfl (pa_cons (pe_lc rfl sc_law_deck.nd (pi_list (pe_slice sl_list (pv 0) po_none (po_some pe_int))) (own := [(("cell" : Str), 3)]) (blkOk_by (N := ["script", "cells", "stirred", "cell"]) (sc := defScope st_law_deck) (by decide +kernel)) (fun s H C cl fp => pg_name (i := 3) sc_law_deck.nd rfl (Or.inl rfl)) (fun s H C cl fp => pts_nil)
      (fun s H C cl fp => pe_op op_add (pe_op op_mulC pe_int (pe_callB call_abs rfl B.abs_ (by decide +kernel) (pa_cons (pv 3) pa_nil))) (pe_callTy call_int1 rfl B.int_ (by decide +kernel) (pa_cons (pe_cmpR op_lt (pv 3) pe_int (nomark _)) pa_nil))))
      (pa_cons (pe_op op_add pe_int (pe_callB call_len_seq rfl B.len_ boot_len (pa_cons (pv 0) pa_nil))) pa_nil)) rfl)
    (pss_cons (ps_for (passes_of rfl) rfl (pi_list (pv 1)) (pg_name (i := 3) sc_law_deck.nd rfl (Or.inl rfl)) (pss_one (ps_set (i := 2) sc_law_deck.nd rfl (Or.inl rfl) (pe_op op_modN (pe_callTy call_int1 rfl B.int_ (by decide +kernel) (pa_cons (pe_op op_add (pe_op op_add (pe_op op_mulC (pv 2) pe_int) (pv 3)) pe_int) pa_nil)) pe_int))))
    (pss_one (ps_ret (pe_disp (pps_cons pe_str (pe_lc rfl sc_law_deck.nd (pi_list (pv 1)) (own := [(("cell" : Str), 3)]) (blkOk_by (N := ["script", "cells", "stirred", "cell"]) (sc := defScope st_law_deck) (by decide +kernel)) (fun s H C cl fp => pg_name (i := 3) sc_law_deck.nd rfl (Or.inl rfl)) (fun s H C cl fp => pts_one (pt_cmpR op_ge1 (pv 3) (pe_op op_pow pe_int pe_int) (by first | exact nomark _ | rfl))) (fun s H C cl fp => pv 3)) (pps_cons pe_str (pv 2) (pps_cons pe_str pe_int pps_nil))) rfl rfl (by decide) (by decide)))))
def w_law : WS := (wSeq (wForI (wiC cR1 oR1 [(wC (.int 12))]) (gN 2) (wSeq (wPar3 3 4 5 (wCall s_law_int [(wV 1)]) (wCall s_law_int [(wV 1)]) (wCall s_law_pick [(wV 1), (wLst [(wC (.int 1)), (wC (.int 1)), (wC (.int 2)), (wOp1 dNeg (wC (.int 3))), (wC (.int 12)), (wC (.int 0)), (wCall s_law_int [(wV 1)])])]))
    (wSeq (wSet 6 (wB dRepr [(wCall s_law_due [(wC (.str "lowest")), (wOp dMul (wV 3) (wV 5)), (wOp dMul (wV 4) (wV 5))])]))
    (wIfS (tOf (wOp dNe (wB dRepr [(wCall s_law_told [(wC (.str "lowest")), (wOp dMul (wV 3) (wV 5)), (wOp dMul (wV 4) (wV 5)), (wOp dEq (wV 2) (wC (.int 3)))])]) (wV 6))) (wRet (wC (.bool false))) wNext))))
    (wSeq (wForI (wiC cR1 oR1 [(wC (.int 10))]) (gN 2) (wSeq (wSet 7 (wCall s_law_some [(wV 1)]))
    (wSeq (wSet 8 (wCall s_law_low [(wOp dIx (wV 7) (wC (.int 1))), (wIf (tOf (wOp dEq (wOp dIx (wV 7) (wC (.int 0))) (wC (.int 0)))) (wC (.int 3)) (wOp dIx (wV 7) (wC (.int 0))))]))
    (wSeq (wSet 9 (wCall s_law_pick [(wV 1), (wLst [(wCall s_law_some [(wV 1)]), (wCall s_law_some [(wV 1)]), (wV 7), (wTup [(wOp1 dNeg (wOp dIx (wV 7) (wC (.int 0)))), (wOp dIx (wV 7) (wC (.int 1)))]), (wV 8), (wTup [(wC (.int 0)), (wC (.int 1))])])]))
    (wSeq (wForI (wiS (wTup [(wC (.str "added")), (wC (.str "multiplied")), (wC (.str "divided"))])) (gN 10) (wSeq (wSet 6 (wB dRepr [(wCall s_law_due [(wV 10), (wV 7), (wV 9)])]))
    (wIfS (tOrW (tOf (wOp dNe (wB dRepr [(wCall s_law_told [(wV 10), (wV 7), (wV 9), (wOp dEq (wV 2) (wC (.int 4)))])]) (wV 6))) (tOf (wOp dNe (wB dRepr [(wCall s_law_told [(wV 10), (wV 7), (wV 9), (wC (.bool false))])]) (wV 6)))) (wRet (wC (.bool false))) wNext)))
    (wSeq (wSet 11 (wLst [(wCall s_compared [(wV 7), (wV 9)]), (wCallK s_compared [1, 0] [(wV 7), (wV 9)]), (wCall s_compared [(wV 7), (wV 7)])]))
    (wIfS (tOf (wOp dNe (wB dRepr [(wV 11)]) (wB dRepr [(wLst [(wCall s_law_side [(wV 7), (wV 9)]), (wCall s_law_side [(wV 9), (wV 7)]), (wC (.int 0))])]))) (wRet (wC (.bool false))) wNext)))))))
    (wRet (wC (.bool true)))))
theorem pure_law : ∀ a, w_law (lawE ["script", "deck", "turn", "a", "b", "by", "due", "one", "about", "other", "word", "found"] a) lawP := by
  unfold w_law
  intro a
  refine p_seq fun N hN => ?_
  show wForI _ _ _ [.opq (.ref a), .deck, .no, .no, .no, .no, .no, .no, .no, .no, .no, .no] _
  walk_at "dl"
  refine ⟨⟨by decide, by decide⟩, ?_⟩
  refine p_for (fun _ e => ∃ t2 t3 t4 t5 t6 : Sl, e = [.opq (.ref a), .deck, t2, t3, t4, t5, t6, .no, .no, .no, .no, .no]) 0 ⟨_, _, _, _, _, rfl⟩ (fun i x e K hx ⟨t2, t3, t4, t5, t6, he⟩ hk => ?_) ?_
  · obtain ⟨_, rfl⟩ := rangeD_at hx
    subst he
    walk_at "dl"
    refine p_seq fun N1 hN1 => ?_
    walk_at "dl"
    refine ⟨rfl, fun a1 ha1 => ?_⟩
    walk_at "dl"
    refine ⟨rfl, fun b1 hb1 => ?_⟩
    walk_at "dl"
    refine ⟨rfl, fun z1 hz1 => ?_⟩
    walk_at "dl"
    refine ⟨_, rfl, by simp, (show (7 : Int) < drawMax by decide), fun x hx2 => ?_⟩
    obtain ⟨y1, rfl, hy1⟩ : ∃ m : Int, x = .int m ∧ Bd 400 m := by
      simp only [List.mem_cons, List.not_mem_nil, or_false] at hx2
      rcases hx2 with rfl | rfl | rfl | rfl | rfl | rfl | rfl
      · exact ⟨1, rfl, show (1 : Int).natAbs < 2 ^ 400 by decide⟩
      · exact ⟨1, rfl, show (1 : Int).natAbs < 2 ^ 400 by decide⟩
      · exact ⟨2, rfl, show (2 : Int).natAbs < 2 ^ 400 by decide⟩
      · exact ⟨-3, rfl, show (-3 : Int).natAbs < 2 ^ 400 by decide⟩
      · exact ⟨12, rfl, show (12 : Int).natAbs < 2 ^ 400 by decide⟩
      · exact ⟨0, rfl, show (0 : Int).natAbs < 2 ^ 400 by decide⟩
      · exact ⟨_, rfl, hz1⟩
    walk_at "dl"
    refine hN1 _ ?_
    refine p_seq fun N2 hN2 => ?_
    walk_at "dl"
    have m1 : Bd 1800 (a1 * y1) := (ha1.mul hy1).mono (by decide)
    have m2 : Bd 1800 (b1 * y1) := (hb1.mul hy1).mono (by decide)
    have c1 : MulC a1 y1 := ha1.mulC hy1 (by decide) (by decide) (by decide)
    have c2 : MulC b1 y1 := hb1.mulC hy1 (by decide) (by decide) (by decide)
    refine ⟨c1, c2, rfl, [], .inl ⟨_, _, rfl, m1, m2, ?_⟩⟩
    walk_at "dl"
    obtain ⟨r1, r2, r3, r4⟩ := rep_due m1 m2
    refine ⟨r1, r2, r3, r4, ?_⟩
    walk_at "dl"
    refine hN2 _ ?_
    walk_at "dl"
    refine ⟨c1, c2, _, rfl, rfl, [.d (.bool _)], .inl ⟨_, _, rfl, m1, m2, ?_⟩⟩
    walk_at "dl"
    refine ⟨r1, r2, r3, r4, ?_⟩
    walk_at "dl"
    rw [if_neg (ne_same _)]
    exact hk _ ⟨_, _, _, _, _, rfl⟩
  · rintro e ⟨t2, t3, t4, t5, t6, rfl⟩
    refine hN _ ?_
    refine p_seq fun N hN => ?_
    walk_at "dl"
    refine ⟨⟨by decide, by decide⟩, ?_⟩
    refine p_for (fun _ e => ∃ t2 t3 t4 t5 t6 t7 t8 t9 t10 t11 : Sl, e = [.opq (.ref a), .deck, t2, t3, t4, t5, t6, t7, t8, t9, t10, t11]) 0 ⟨_, _, _, _, _, _, _, _, _, _, rfl⟩ (fun i x e K hx ⟨t2, t3, t4, t5, t6, t7, t8, t9, t10, t11, he⟩ hk => ?_) ?_
    · obtain ⟨_, rfl⟩ := rangeD_at hx
      subst he
      walk_at "dl"
      refine p_seq fun N1 hN1 => ?_
      walk_at "dl"
      refine ⟨rfl, fun p q q0 hp hq => ?_⟩
      walk_at "dl"
      refine hN1 _ ?_
      refine p_seq fun N2 hN2 => ?_
      walk_at "dl"
      refine if_arg (F := fun z => s_law_low [.d (.int q), .d (.int z)] _ _) (Gd := fun z => z ≠ 0 ∧ Bd 400 z) (fun z hz => ?_) (fun _ => ⟨by decide, show (3 : Int).natAbs < 2 ^ 400 by decide⟩) (fun z => ⟨by simpa using z, hp⟩)
      refine ⟨_, _, rfl, hz.2.mono (by decide), hz.1, ?_⟩
      obtain ⟨q1, hq1⟩ := frQ_le (a := q) hz.1 |>.symm
      have hb1 := hq.le (frP_le (a := q) hz.1)
      have hb2 := hz.2.le hq1
      unfold frD
      generalize frP q z = u at hb1
      generalize frQ q z = v at hb2 q1
      walk_at "dl"
      refine hN2 _ ?_
      refine p_seq fun N3 hN3 => ?_
      walk_at "dl"
      refine ⟨rfl, fun p2 q2 q20 hp2 hq2 => ?_⟩
      walk_at "dl"
      refine ⟨rfl, fun p3 q3 q30 hp3 hq3 => ?_⟩
      walk_at "dl"
      refine ⟨_, rfl, by simp, (show (6 : Int) < drawMax by decide), fun x hx2 => ?_⟩
      obtain ⟨c, d, rfl, d0, hc, hd⟩ : ∃ c d : Int, x = .tuple [.int c, .int d] ∧ d ≠ 0 ∧ Bd 400 c ∧ Bd 400 d := by
        simp only [List.mem_cons, List.not_mem_nil, or_false] at hx2
        rcases hx2 with rfl | rfl | rfl | rfl | rfl | rfl
        · exact ⟨_, _, rfl, q20, hp2, hq2⟩
        · exact ⟨_, _, rfl, q30, hp3, hq3⟩
        · exact ⟨_, _, rfl, q0, hp, hq⟩
        · exact ⟨_, _, rfl, q0, hp.neg, hq⟩
        · exact ⟨_, _, rfl, q1, hb1, hb2⟩
        · exact ⟨0, 1, rfl, by decide, show (0 : Int).natAbs < 2 ^ 400 by decide, show (1 : Int).natAbs < 2 ^ 400 by decide⟩
      walk_at "dl"
      refine hN3 _ ?_
      refine p_seq fun N4 hN4 => ?_
      walk_at "dl"
      have hp9 := hp.mono (n := 900) (by decide)
      have hq9 := hq.mono (n := 900) (by decide)
      have hc9 := hc.mono (n := 900) (by decide)
      have hd9 := hd.mono (n := 900) (by decide)
      refine p_for (fun _ e => ∃ s6 s10 : Sl, e = [.opq (.ref a), .deck, .d (.int (0 + (i : Int))), t3, t4, t5, s6, .d (.tuple [.int p, .int q]), .d (.tuple [.int u, .int v]), .d (.tuple [.int c, .int d]), s10, t11]) 0 ⟨_, _, by first | rfl | simp⟩ (fun j x e K2 hx3 ⟨s6, s10, he⟩ hk2 => ?_) ?_
      · subst he
        obtain ⟨zz, x1, y1, rfl, hw, hx1, hy1⟩ : ∃ (zz : Str) (x1 y1 : Int), x = .str zz ∧ ((zz = "added" ∧ x1 = p * d + c * q ∧ y1 = q * d) ∨ (zz = "multiplied" ∧ x1 = p * c ∧ y1 = q * d) ∨ (zz = "divided" ∧ x1 = p * d ∧ y1 = q * c)) ∧ Bd 1800 x1 ∧ Bd 1800 y1 := by
          have hm := List.mem_of_getElem? hx3
          simp only [List.mem_cons, List.not_mem_nil, or_false] at hm
          rcases hm with rfl | rfl | rfl
          · exact ⟨_, _, _, rfl, .inl ⟨rfl, rfl, rfl⟩, (((hp.mul hd).add (hc.mul hq)).mono (by decide)), (hq.mul hd).mono (by decide)⟩
          · exact ⟨_, _, _, rfl, .inr (.inl ⟨rfl, rfl, rfl⟩), (hp.mul hc).mono (by decide), (hq.mul hd).mono (by decide)⟩
          · exact ⟨_, _, _, rfl, .inr (.inr ⟨rfl, rfl, rfl⟩), (hp.mul hd).mono (by decide), (hq.mul hc).mono (by decide)⟩
        obtain ⟨r1, r2, r3, r4⟩ := rep_due hx1 hy1
        walk_at "dl"
        refine p_seq fun N5 hN5 => ?_
        walk_at "dl"
        refine ⟨rfl, [], .inr ⟨p, q, c, d, x1, y1, zz, rfl, hp9, hq9, hc9, hd9, q0, d0, hw, ?_⟩⟩
        walk_at "dl"
        refine ⟨r1, r2, r3, r4, ?_⟩
        walk_at "dl"
        refine hN5 _ ?_
        walk_at "dl"
        refine ⟨_, rfl, rfl, [.d (.bool _)], .inr ⟨p, q, c, d, x1, y1, zz, rfl, hp9, hq9, hc9, hd9, q0, d0, hw, ?_⟩⟩
        walk_at "dl"
        refine ⟨r1, r2, r3, r4, ?_⟩
        walk_at "dl"
        rw [if_neg (ne_same _)]
        refine ⟨_, rfl, rfl, [.d (.bool _)], .inr ⟨p, q, c, d, x1, y1, zz, rfl, hp9, hq9, hc9, hd9, q0, d0, hw, ?_⟩⟩
        walk_at "dl"
        refine ⟨r1, r2, r3, r4, ?_⟩
        walk_at "dl"
        rw [if_neg (ne_same _)]
        exact hk2 _ ⟨_, _, rfl⟩
      · rintro e ⟨s6, s10, rfl⟩
        refine hN4 _ ?_
        refine p_seq fun N6 hN6 => ?_
        walk_at "dl"
        refine ⟨p, q, c, d, rfl, hp9, hq9, hc9, hd9, ?_⟩
        walk_at "dl"
        refine ⟨c, d, p, q, rfl, hc9, hd9, hp9, hq9, ?_⟩
        walk_at "dl"
        refine ⟨p, q, p, q, rfl, hp9, hq9, hp9, hq9, ?_⟩
        walk_at "dl"
        refine hN6 _ ?_
        walk_at "dl"
        obtain ⟨r1, r2, r3, r4⟩ := rep_3 (cmpI_bd (l := p * d) (r := c * q)) (cmpI_bd (l := c * q) (r := p * d)) (cmpI_bd (l := p * q) (r := p * q))
        refine ⟨r1, r2, r3, r4, ?_⟩
        walk_at "dl"
        refine ⟨p, q, c, d, rfl, hp9, hq9, hc9, hd9, ?_⟩
        walk_at "dl"
        refine ⟨c, d, p, q, rfl, hc9, hd9, hp9, hq9, ?_⟩
        walk_at "dl"
        rw [cmpI_self] at r1 r2 r3 r4 ⊢
        refine ⟨r1, r2, r3, r4, ?_⟩
        walk_at "dl"
        rw [if_neg (ne_same _)]
        exact hk _ ⟨_, _, _, _, _, _, _, _, _, _, rfl⟩
    · rintro e ⟨t2, t3, t4, t5, t6, t7, t8, t9, t10, t11, rfl⟩
      refine hN _ ?_
      walk_at "dl"
      rfl
theorem law_run {P : Program} {w : World} {g : DG} {base : Heap} (B : Bt P g) {a : Addr} {ns : List Int} (hns : ns.length ≤ 63) : LawRun P w g.K g.mg base (He.ga g.K "law") a ns := by
  have D_lowest : Fg P w g base "lowest" st_lowest 1 ["a", "b"] s_lowest := fg_lowest B
  have D_added : Fg P w g base "added" st_added 2 ["one", "other"] s_added := fg_added B D_lowest
  have D_multiplied : Fg P w g base "multiplied" st_multiplied 2 ["one", "other"] s_multiplied := fg_multiplied B D_lowest
  have D_divided : Fg P w g base "divided" st_divided 2 ["one", "other"] s_divided := fg_divided B D_lowest
  have D_compared : Fg P w g base "compared" st_compared 1 ["one", "other"] s_compared := fg_compared B
  have D_law_draw : Fg P w g base "_law_draw" st_law_draw 1 ["deck", "many"] s_law_draw := fg_law_draw B
  have D_law_pick : Fg P w g base "_law_pick" st_law_pick 2 ["deck", "items"] s_law_pick := fg_law_pick B D_law_draw
  have D_law_gcd : Fg P w g base "_law_gcd" st_law_gcd 1 ["a", "b"] s_law_gcd := fg_law_gcd B
  have D_law_low : Fg P w g base "_law_low" st_law_low 2 ["a", "b"] s_law_low := fg_law_low B D_law_gcd
  have D_law_great : Fg P w g base "_law_great" st_law_great 2 ["deck", "figures"] s_law_great := fg_law_great B D_law_draw
  have D_law_int : Fg P w g base "_law_int" st_law_int 3 ["deck"] s_law_int := fg_law_int B D_law_draw D_law_great D_law_pick
  have D_law_some : Fg P w g base "_law_some" st_law_some 4 ["deck"] s_law_some := fg_law_some B D_law_int D_law_low
  have D_law_told : Fg P w g base "_law_told" st_law_told 3 ["word", "one", "other", "is_named"] s_law_told := fg_law_told B D_divided D_lowest D_added D_multiplied
  have D_law_due : Fg P w g base "_law_due" st_law_due 3 ["word", "one", "other"] s_law_due := fg_law_due B D_law_low
  have D_law_side : Fg P w g base "_law_side" st_law_side 1 ["one", "other"] s_law_side := fg_law_side B
  obtain ⟨fd, F⟩ := B.f_law
  obtain ⟨fdD, FD⟩ := B.f_law_deck
  have bD : Binds g.K fdD ["script"] [] := FD.binds fun _ _ _ _ _ _ us hl => match us, hl with | [_], _ => rfl
  have bL : ∀ (s : Shared) (u : Value), BindsTo s fd ⟨[u], []⟩ [(("script" : Str), u)] := fun s u => by
    obtain ⟨oc, od, kV, doc, pm, an, cdv, ct, osl, efd, lk, hcd⟩ := F.ex
    subst efd
    exact BindsTo.of_eq rfl
  exact law_dl (wr := w_law) (k := 4) F sc_law rfl (by decide) ⟨rfl, by decide, by decide⟩ bL
    (fun cdv A outer s H E c => ps_set (i := 1) sc_law.nd rfl (Or.inl rfl) (pe_call (fn_law_deck B FD) (c.r.mono (by decide)) rfl B.g_law_deck FD.kp bD .nil passL (pa_cons (pv 0) pa_nil)))
    (fun cdv A outer s H E c =>
    (evb_cons (evs_for c.p (evi_range1 B.range_ (eva_cons ev_int eva_nil)) (evg_name 2 sc_law.nd) (evb_cons (evs_par3 (i := 3) (j := 4) (l := 5) sc_law.nd (eva_cons (ev_call D_law_int c.c c.t (c.r.mono (by decide)) (eva_cons (ev_var 1) eva_nil) (fun _ _ _ _ _ _ us h => match us, h with | [_], _ => rfl)) (eva_cons (ev_call D_law_int c.c c.t (c.r.mono (by decide)) (eva_cons (ev_var 1) eva_nil) (fun _ _ _ _ _ _ us h => match us, h with | [_], _ => rfl)) (eva_cons (ev_call D_law_pick c.c c.t (c.r.mono (by decide)) (eva_cons (ev_var 1) (eva_cons (ev_lst (eva_cons ev_int (eva_cons ev_int (eva_cons ev_int (eva_cons (ev_neg ev_int) (eva_cons ev_int (eva_cons ev_int (eva_cons (ev_call D_law_int c.c c.t (c.r.mono (by decide)) (eva_cons (ev_var 1) eva_nil) (fun _ _ _ _ _ _ us h => match us, h with | [_], _ => rfl)) eva_nil)))))))) eva_nil)) (fun _ _ _ _ _ _ us h => match us, h with | [_,_], _ => rfl)) eva_nil))))
    (evb_cons (evs_set (i := 6) sc_law.nd (ev_repr c.c B.repr_ (eva_cons (ev_call D_law_due c.c c.t (c.r.mono (by decide)) (eva_cons ev_str (eva_cons (ev_mul (ev_var 3) (ev_var 5)) (eva_cons (ev_mul (ev_var 4) (ev_var 5)) eva_nil))) (fun _ _ _ _ _ _ us h => match us, h with | [_,_,_], _ => rfl)) eva_nil)))
    (evb_one (evs_if (evt_cm (cm_ne c.c) (ev_repr c.c B.repr_ (eva_cons (ev_call D_law_told c.c c.t (c.r.mono (by decide)) (eva_cons ev_str (eva_cons (ev_mul (ev_var 3) (ev_var 5)) (eva_cons (ev_mul (ev_var 4) (ev_var 5)) (eva_cons (ev_cm (cm_eq c.c) (ev_var 2) ev_int) eva_nil)))) (fun _ _ _ _ _ _ us h => match us, h with | [_,_,_,_], _ => rfl)) eva_nil)) (ev_var 6)) (evb_one (evs_ret ev_bool)) evb_nil)))))
    (evb_cons (evs_for c.p (evi_range1 B.range_ (eva_cons ev_int eva_nil)) (evg_name 2 sc_law.nd) (evb_cons (evs_set (i := 7) sc_law.nd (ev_call D_law_some c.c c.t (c.r.mono (by decide)) (eva_cons (ev_var 1) eva_nil) (fun _ _ _ _ _ _ us h => match us, h with | [_], _ => rfl)))
    (evb_cons (evs_set (i := 8) sc_law.nd (ev_call D_law_low c.c c.t (c.r.mono (by decide)) (eva_cons (ev_ix c.c (ev_var 7) ev_int) (eva_cons (ev_if (evt_cm (cm_eq c.c) (ev_ix c.c (ev_var 7) ev_int) ev_int) ev_int (ev_ix c.c (ev_var 7) ev_int)) eva_nil)) (fun _ _ _ _ _ _ us h => match us, h with | [_,_], _ => rfl)))
    (evb_cons (evs_set (i := 9) sc_law.nd (ev_call D_law_pick c.c c.t (c.r.mono (by decide)) (eva_cons (ev_var 1) (eva_cons (ev_lst (eva_cons (ev_call D_law_some c.c c.t (c.r.mono (by decide)) (eva_cons (ev_var 1) eva_nil) (fun _ _ _ _ _ _ us h => match us, h with | [_], _ => rfl)) (eva_cons (ev_call D_law_some c.c c.t (c.r.mono (by decide)) (eva_cons (ev_var 1) eva_nil) (fun _ _ _ _ _ _ us h => match us, h with | [_], _ => rfl)) (eva_cons (ev_var 7) (eva_cons (ev_tup (eva_cons (ev_neg (ev_ix c.c (ev_var 7) ev_int)) (eva_cons (ev_ix c.c (ev_var 7) ev_int) eva_nil))) (eva_cons (ev_var 8) (eva_cons (ev_tup (eva_cons ev_int (eva_cons ev_int eva_nil))) eva_nil))))))) eva_nil)) (fun _ _ _ _ _ _ us h => match us, h with | [_,_], _ => rfl)))
    (evb_cons (evs_for c.p (evi_seq c.c.K (ev_tup (eva_cons ev_str (eva_cons ev_str (eva_cons ev_str eva_nil))))) (evg_name 10 sc_law.nd) (evb_cons (evs_set (i := 6) sc_law.nd (ev_repr c.c B.repr_ (eva_cons (ev_call D_law_due c.c c.t (c.r.mono (by decide)) (eva_cons (ev_var 10) (eva_cons (ev_var 7) (eva_cons (ev_var 9) eva_nil))) (fun _ _ _ _ _ _ us h => match us, h with | [_,_,_], _ => rfl)) eva_nil)))
    (evb_one (evs_if (evt_w (evw_or (evt_cm (cm_ne c.c) (ev_repr c.c B.repr_ (eva_cons (ev_call D_law_told c.c c.t (c.r.mono (by decide)) (eva_cons (ev_var 10) (eva_cons (ev_var 7) (eva_cons (ev_var 9) (eva_cons (ev_cm (cm_eq c.c) (ev_var 2) ev_int) eva_nil)))) (fun _ _ _ _ _ _ us h => match us, h with | [_,_,_,_], _ => rfl)) eva_nil)) (ev_var 6)) (evw_or1 (evt_cm (cm_ne c.c) (ev_repr c.c B.repr_ (eva_cons (ev_call D_law_told c.c c.t (c.r.mono (by decide)) (eva_cons (ev_var 10) (eva_cons (ev_var 7) (eva_cons (ev_var 9) (eva_cons ev_bool eva_nil)))) (fun _ _ _ _ _ _ us h => match us, h with | [_,_,_,_], _ => rfl)) eva_nil)) (ev_var 6))))) (evb_one (evs_ret ev_bool)) evb_nil))))
    (evb_cons (evs_set (i := 11) sc_law.nd (ev_lst (eva_cons (ev_call D_compared c.c c.t (c.r.mono (by decide)) (eva_cons (ev_var 7) (eva_cons (ev_var 9) eva_nil)) (fun _ _ _ _ _ _ us h => match us, h with | [_,_], _ => rfl)) (eva_cons (ev_callK (ks := [("other" : Str), ("one" : Str)]) (idx := [1, 0]) D_compared c.c c.t (c.r.mono (by decide)) (evk_cons (ev_var 7) (evk_cons (ev_var 9) evk_nil)) (fun _ _ _ _ _ _ us h => match us, h with | [_,_], _ => rfl)) (eva_cons (ev_call D_compared c.c c.t (c.r.mono (by decide)) (eva_cons (ev_var 7) (eva_cons (ev_var 7) eva_nil)) (fun _ _ _ _ _ _ us h => match us, h with | [_,_], _ => rfl)) eva_nil)))))
    (evb_one (evs_if (evt_cm (cm_ne c.c) (ev_repr c.c B.repr_ (eva_cons (ev_var 11) eva_nil)) (ev_repr c.c B.repr_ (eva_cons (ev_lst (eva_cons (ev_call D_law_side c.c c.t (c.r.mono (by decide)) (eva_cons (ev_var 7) (eva_cons (ev_var 9) eva_nil)) (fun _ _ _ _ _ _ us h => match us, h with | [_,_], _ => rfl)) (eva_cons (ev_call D_law_side c.c c.t (c.r.mono (by decide)) (eva_cons (ev_var 9) (eva_cons (ev_var 7) eva_nil)) (fun _ _ _ _ _ _ us h => match us, h with | [_,_], _ => rfl)) (eva_cons ev_int eva_nil)))) eva_nil))) (evb_one (evs_ret ev_bool)) evb_nil))))))))
    (evb_one (evs_ret ev_bool))))) pure_law hns

end Dl
namespace Dl
open PySem PySem.Spec PyProof.Rows L2
def fa : List He.Fa := [.glo "lowest", .glo "added", .glo "multiplied", .glo "divided", .glo "compared", .glo "_law_deck", .glo "_law_draw", .glo "_law_pick", .glo "_law_gcd", .glo "_law_low", .glo "_law_great", .glo "_law_int", .glo "_law_some", .glo "_law_told", .glo "_law_due", .glo "_law_side", .glo "law", .glo "ChainError", .glo "Unfit", .free "abs", .free "int", .free "isinstance", .free "len", .free "range", .free "repr"]
def fn : List He.DefD := [mkD "lowest" st_lowest, mkD "added" st_added, mkD "multiplied" st_multiplied, mkD "divided" st_divided, mkD "compared" st_compared, mkD "_law_deck" st_law_deck, mkD "_law_draw" st_law_draw, mkD "_law_pick" st_law_pick, mkD "_law_gcd" st_law_gcd, mkD "_law_low" st_law_low, mkD "_law_great" st_law_great, mkD "_law_int" st_law_int, mkD "_law_some" st_law_some, mkD "_law_told" st_law_told, mkD "_law_due" st_law_due, mkD "_law_side" st_law_side, mkD "law" st_law]
def ex (K : PySem.W.Frag) : Bool := supB K "Unfit" && (supFB K PySem.Challenge.pw_veiledchains_k01_whole_fractions_beside.main.file "Unfit" && (bltB K "gcd" "math.gcd" && (excCB K (He.ga K "Unfit") && (kitB K "Unfit" "ChainError" true && (exmB K "Unfit" "Unfit" true)))))
def cs : List SupD := [⟨"Unfit", initA 3, initB 3, initS 3⟩]
abbrev Rw : PySem.W.OpenRow := PySem.W.OpenLaw.row PySem.Challenge.rw_veiledchains_k01_whole_fractions_beside
abbrev hk : PySem.W.Hook := hookS 4 fa fn ex cs
def ob (s : PySem.W.SharedT) : AlS := obsSG 4 fa fn ex cs (HandSHeadRun.getT s)
theorem ob_eq (s : PySem.W.SharedT) : ob s = hk.obs s.abs := obsSG_eq (HandSHeadRun.getT_eq s)
def loose : List PySem.Str := ["gcd", "__name__", "ChainError", "Unfit", "lowest", "added", "multiplied", "divided", "compared", "_law_deck", "_law_draw", "_law_pick", "_law_gcd", "_law_low", "_law_great", "_law_int", "_law_some", "_law_told", "_law_due", "_law_side"]
theorem head_run (w : World) : HandSHeadRun.RunEqI Rw (PySem.W.view Rw.prog [22]) hk ob 6000 loose w := by
  unfold HandSHeadRun.RunEqI
  kernel_rfl
theorem facts {w : World} {K : PySem.W.Frag} {h : Heap} {mg : Str → Option Value} (X : K.In h) (G : h.Ns mainGlobals mg) (c : SaysS fa fn ex cs K) : Bt PySem.Challenge.pw_veiledchains_k01_whole_fractions_beside ⟨K, mg, dkiA⟩ := by
  have cm := c.more
  obtain ⟨e0, r0⟩ := He.ba cm
  obtain ⟨e1, r1⟩ := He.ba r0
  obtain ⟨e2, r2⟩ := He.ba r1
  obtain ⟨e3, r3⟩ := He.ba r2
  obtain ⟨e4, e5⟩ := He.ba r3
  exact ⟨rfl,
    He.free_ok X G (c.d.fact 19 rfl),
    He.free_ok X G (c.d.fact 20 rfl),
    He.free_ok X G (c.d.fact 21 rfl),
    He.free_ok X G (c.d.fact 22 rfl),
    He.free_ok X G (c.d.fact 23 rfl),
    He.free_ok X G (c.d.fact 24 rfl),
    blt_ok X G e2,
    He.glo_ok X G (c.d.fact 0 rfl),
    c.fun_ 0 rfl,
    He.glo_ok X G (c.d.fact 1 rfl),
    c.fun_ 1 rfl,
    He.glo_ok X G (c.d.fact 2 rfl),
    c.fun_ 2 rfl,
    He.glo_ok X G (c.d.fact 3 rfl),
    c.fun_ 3 rfl,
    He.glo_ok X G (c.d.fact 4 rfl),
    c.fun_ 4 rfl,
    He.glo_ok X G (c.d.fact 5 rfl),
    c.fun_ 5 rfl,
    He.glo_ok X G (c.d.fact 6 rfl),
    c.fun_ 6 rfl,
    He.glo_ok X G (c.d.fact 7 rfl),
    c.fun_ 7 rfl,
    He.glo_ok X G (c.d.fact 8 rfl),
    c.fun_ 8 rfl,
    He.glo_ok X G (c.d.fact 9 rfl),
    c.fun_ 9 rfl,
    He.glo_ok X G (c.d.fact 10 rfl),
    c.fun_ 10 rfl,
    He.glo_ok X G (c.d.fact 11 rfl),
    c.fun_ 11 rfl,
    He.glo_ok X G (c.d.fact 12 rfl),
    c.fun_ 12 rfl,
    He.glo_ok X G (c.d.fact 13 rfl),
    c.fun_ 13 rfl,
    He.glo_ok X G (c.d.fact 14 rfl),
    c.fun_ 14 rfl,
    He.glo_ok X G (c.d.fact 15 rfl),
    c.fun_ 15 rfl,
    He.glo_ok X G (c.d.fact 16 rfl),
    c.fun_ 16 rfl,
    He.glo_ok X G (c.d.fact 17 rfl),
    He.glo_ok X G (c.d.fact 18 rfl),
    sup_ok X G e0,
    supF_ok (c.sup 0 rfl) e1 rfl,
    (fun m b ax h1 h2 => by
    unfold Dl.em_Unfit at h1
    by_cases hm : m = "Unfit"
    · rw [if_pos hm] at h1
      subst hm
      have h3 := h2.symm.trans (He.glo_ok X G (c.d.fact 18 rfl))
      cases h1
      cases h3
      exact of_decide_eq_true e5
    · rw [if_neg hm] at h1; cases h1),
    excC_ok e3,
    of_decide_eq_true e4⟩
end Dl
open PySem PySem.W PySem.Calls PyProof.Rows
theorem PySem.Challenge.cw_veiledchains_k01_whole_fractions_beside_holds : PySem.Challenge.rw_veiledchains_k01_whole_fractions_beside.Holds := by
  w_on; o_law
  refine HandSHeadRun.head_imp (r := OpenLaw.row PySem.Challenge.rw_veiledchains_k01_whole_fractions_beside) (q := view (OpenLaw.row PySem.Challenge.rw_veiledchains_k01_whole_fractions_beside).prog [22]) (H := Dl.hk) (ob := Dl.ob) (M := 6000) (loose := Dl.loose) (d := HandSHeadRun.topDef (OpenLaw.row PySem.Challenge.rw_veiledchains_k01_whole_fractions_beside).prog 22) (kwd := []) Dl.ob_eq
     Dl.head_run (by kernel_rfl) (by kernel_rfl) (by kernel_rfl) (by rfl) (by first | assumption | decide +kernel) (by decide +kernel) ⟨rfl, rfl, rfl, rfl, rfl, by decide +kernel⟩ ?hw ?hc
  case hw => w_witness2
  case hc =>
    refine Dl.walk_law (l := PySem.Challenge.rw_veiledchains_k01_whole_fractions_beside) (n := 63) rfl (by decide) (by kernel_rfl) ?F
    intro w mg fa h Y G hmg0
    obtain ⟨K, KX, c⟩ := Y
    have hmg : mg ("law" : PySem.Str) = some (.ref fa) := by
      have e : (HandSHeadRun.topDef (OpenLaw.row PySem.Challenge.rw_veiledchains_k01_whole_fractions_beside).prog 22).name = ("law" : PySem.Str) := by kernel_rfl
      rw [← e]
      exact hmg0
    have B := Dl.facts (w := w) KX G c
    have e2 : some (Value.ref fa) = some (Value.ref (He.ga K "law")) := hmg.symm.trans B.g_law
    cases e2
    exact ⟨K, KX, fun a ns hl base _ _ => Dl.law_run (g := ⟨K, mg, Dl.dkiA⟩) B hl⟩


