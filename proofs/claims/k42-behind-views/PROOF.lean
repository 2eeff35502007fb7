import PyProof.Rows.All
import Wide.All
import OpenK.AllK
import Wide.FinOn
import HandS.ForMost
import HandS.Exc
import HandS.ExcOwn
import HandS.WordsExc
import HandS.Walk
import HandS.Wide
import HandS.Gcd
import HandS.HeadHook1
import HandS.TupAny
import HandS.TupMul
import HandS.Deep
import HandS.TryOnly
import KE.GoesEnum
import KE.GoesZip
import KE.GoesMore
import HandS.Style
import KE.KTupSum
import KE.KMathG
import HandS.Text
import HandS.Codes
import HandS.Replace
import HandS.SortInts
import HandS.IsInst
import HandS.Dict
import HandS.HeadHook2
import PyProof.CollectStr
import PyProof.ListNew
import PyProof.Rows.StrJoinStr
import PyProof.Rows.StrRev
import PyProof.SliceStr2
import KE.KRevSl
import HandS.More
import HandS.Conv
import PyProof.TupleOfStr
import HandS.WordsDict
import PyProof.ListMulRoad
import PyProof.FactsAll.tuple_2
import HandS.Ends
import HandS.Head0
import HandS.Head1
import HandS.Head2
import HandS.HeadEnd
import HandS.Steps
import HandS.Comp
import KE.KExcSuper
import HandS.ExcSuper
import HandS.HeadWalk
import HandS.ExcIs
import HandS.ExcField
import PyProof.ReprLoop
import PyProof.Rows.StrLawsPart
import HandS.Head3
import PySem.Challenge.RW_veiledchains_k42_whole_chains_behind_vie
set_option Elab.async false
set_option linter.all false
set_option maxRecDepth 100000
set_option maxHeartbeats 4000000
set_option exponentiation.threshold 10000
namespace Dl
open PySem PySem.Spec PyProof.Rows L2

abbrev Dk := Option (Addr × Addr)
def Sub (F F' : Hp) : Prop := ∀ a o, F a = some o → F' a = some o
theorem Sub.refl (F : Hp) : Sub F F := fun _ _ h => h
theorem Sub.trans {F F1 F2 : Hp} (a : Sub F F1) (b : Sub F1 F2) : Sub F F2 := fun c o h => b c o (a c o h)
theorem Sub.free0 {F F' : Hp} (s : Sub F F') {a : Addr} (h : F' a = none) : F a = none := by
  cases q : F a with
  | none => rfl
  | some o => rw [s a o q] at h; cases h
theorem Sub.put {F : Hp} {p : Addr} {o : HO} (h : F p = none) : Sub F (upd F p o) := fun a u e => by
  rw [upd_ne (ne_of_none e h)]; exact e
theorem Sub.seqL {K} {F F' : Hp} (s : Sub F F') {a : Addr} {xs : List V} (h : SqL K F a xs) : SqL K F' a xs := Same.seq s h
theorem Sub.seqT {K} {F F' : Hp} (s : Sub F F') {a : Addr} {xs : List V} (h : SqT K F a xs) : SqT K F' a xs := by
  rcases h with (h | ⟨o, h⟩) | h
  · exact .inl (.inl (s _ _ h))
  · exact .inl (.inr ⟨o, s _ _ h⟩)
  · exact .inr h
theorem Sub.rd {F F' : Hp} (s : Sub F F') {a : Addr} {u : HO} (h : Rd F a u) : Rd F' a u := h.elim (fun e => .inl (s _ _ e)) fun ⟨o, e⟩ => .inr ⟨o, s _ _ e⟩
/-! ### data under a value -/
/-- a dict's key -/
def kD : Key → PyData
  | .inl i => .int i
  | .inr x => .str x
def tD (ks : List Key) : PyData := .tuple (ks.map kD)
/-- an instance, told as a dict whose first key is None: the class, the attributes -/
def insD (c : Str) (ks : List Str) (xs : List PyData) : List (PyData × PyData) := (.none, .str c) :: (ks.map PyData.str).zip xs
/-- a caught error, told as a dict whose first key is None: where it stands, where its fields stand, these -/
def excD (a dd : Addr) (ks : List Str) (xs : List PyData) : List (PyData × PyData) := (.none, .tuple [.int (a : Nat), .int (dd : Nat)]) :: (ks.map PyData.str).zip xs
mutual
inductive Dq (K : PySem.W.Frag) (H : Hp) : V → PyData → Prop
  | non : Dq K H .non .none
  | bl (b : Bool) : Dq K H (.bl b) (.bool b)
  | int (i : Int) : Dq K H (.int i) (.int i)
  | str (x : Str) : Dq K H (.str x) (.str x)
  | lst {a : Addr} {vs : List V} {ds : List PyData} : H a = some (.lst vs) → DqAll K H vs ds → Dq K H (.ref a) (.list ds)
  | tup {a : Addr} {vs : List V} {ds : List PyData} : SqT K H a vs → DqAll K H vs ds → Dq K H (.ref a) (.tuple ds)
  | dic {a : Addr} {kvs : List (Key × V)} {xs : List PyData} {ds : List (PyData × PyData)} : H a = some (.dK kvs) → DqAll K H (kvs.map (·.2)) xs → ds = (kvs.map fun p => kD p.1).zip xs → Dq K H (.ref a) (.dict ds)
  | dct {a : Addr} {kvs : List (List Key × V)} {xs : List PyData} {ds : List (PyData × PyData)} : kvs ≠ [] → H a = some (.dT kvs) → DqAll K H (kvs.map (·.2)) xs → ds = (kvs.map fun p => tD p.1).zip xs → Dq K H (.ref a) (.dict ds)
  | ins {a C dx : Addr} {fs : List (Str × V)} {c : Str} {xs : List PyData} {ds : List (PyData × PyData)} : H a = some (.ins C dx fs) → C = He.ga K c → DqAll K H (fs.map (·.2)) xs → ds = insD c (fs.map (·.1)) xs → Dq K H (.ref a) (.dict ds)
  | exc {a dd : Addr} {vs : List (Str × V)} {xs : List PyData} {ds : List (PyData × PyData)} : H dd = some (.xd vs) → DqAll K H (vs.map (·.2)) xs → ds = excD a dd (vs.map (·.1)) xs → Dq K H (.ref a) (.dict ds)
inductive DqAll (K : PySem.W.Frag) (H : Hp) : List V → List PyData → Prop
  | nil : DqAll K H [] []
  | cons {v : V} {vs : List V} {d : PyData} {ds : List PyData} : Dq K H v d → DqAll K H vs ds → DqAll K H (v :: vs) (d :: ds)
end
mutual
theorem dq_dp {K} {F : Hp} : ∀ (d : PyData) (v : V), d.hasDict = false → Dq K F v d → Dp K F v d
  | .none, _, _, h => by cases h; exact .non
  | .bool b, _, _, h => by cases h; exact .bl b
  | .int i, _, _, h => by cases h; exact .int i
  | .str x, _, _, h => by cases h; exact .str x
  | .list ds, _, n, h => by
    rw [PyData.hasDict] at n
    cases h with | lst a b => exact .lst (SqL.of a) (dq_dpA ds _ n b)
  | .tuple ds, _, n, h => by
    rw [PyData.hasDict] at n
    cases h with | tup a b => exact .tup a (dq_dpA ds _ n b)
  | .dict _, _, n, h => by rw [PyData.hasDict] at n; cases n
theorem dq_dpA {K} {F : Hp} : ∀ (ds : List PyData) (vs : List V), PyData.hasDictAll ds = false → DqAll K F vs ds → DpAll K F vs ds
  | [], _, _, h => by cases h; exact .nil
  | d :: ds, _, n, h => by
    rw [PyData.hasDictAll, Bool.or_eq_false_iff] at n
    cases h with | cons a b => exact .cons (dq_dp d _ n.1 a) (dq_dpA ds _ n.2 b)
end
theorem Dq.mono {K} {F F' : Hp} {v : V} {d : PyData} (h : Dq K F v d) (s : Sub F F') : Dq K F' v d :=
  Dq.rec (motive_1 := fun v d _ => Dq K F' v d) (motive_2 := fun vs ds _ => DqAll K F' vs ds) .non .bl .int .str (fun a _ b => .lst (s _ _ a) b) (fun a _ b => .tup (s.seqT a) b) (fun a _ e b => .dic (s _ _ a) b e) (fun n a _ e b => .dct n (s _ _ a) b e) (fun a c _ e b => .ins (s _ _ a) c b e) (fun a _ e b => .exc (s _ _ a) b e) .nil (fun _ _ a b => .cons a b) h
theorem DqAll.mono {K} {F F' : Hp} {v : List V} {d : List PyData} (h : DqAll K F v d) (s : Sub F F') : DqAll K F' v d :=
  DqAll.rec (motive_1 := fun v d _ => Dq K F' v d) (motive_2 := fun vs ds _ => DqAll K F' vs ds) .non .bl .int .str (fun a _ b => .lst (s _ _ a) b) (fun a _ b => .tup (s.seqT a) b) (fun a _ e b => .dic (s _ _ a) b e) (fun n a _ e b => .dct n (s _ _ a) b e) (fun a c _ e b => .ins (s _ _ a) c b e) (fun a _ e b => .exc (s _ _ a) b e) .nil (fun _ _ a b => .cons a b) h
theorem Dq.dp {K} {F : Hp} {v : V} {d : PyData} (h : Dq K F v d) (n : d.hasDict = false) : Dp K F v d := dq_dp d v n h
theorem DqAll.length {K} {F : Hp} : ∀ {vs : List V} {ds : List PyData}, DqAll K F vs ds → vs.length = ds.length
  | _, _, .nil => rfl
  | _, _, .cons _ t => congrArg Nat.succ (DqAll.length t)
theorem DqAll.get {K} {F : Hp} : ∀ {vs : List V} {ds : List PyData} {i : Nat} {v : V}, DqAll K F vs ds → vs[i]? = some v → ∃ d, ds[i]? = some d ∧ Dq K F v d
  | _, _, _, _, .nil, e => by simp at e
  | _, _, 0, v, .cons r _, e => ⟨_, rfl, by have : _ = v := Option.some.inj e; subst this; exact r⟩
  | _, _, i + 1, v, .cons _ t, e => by
    obtain ⟨d, h1, h2⟩ := DqAll.get (i := i) (v := v) t (by simpa using e)
    exact ⟨d, by simpa using h1, h2⟩
theorem DqAll.getD {K} {F : Hp} : ∀ {vs : List V} {ds : List PyData} {i : Nat} {d : PyData}, DqAll K F vs ds → ds[i]? = some d → ∃ v, vs[i]? = some v ∧ Dq K F v d
  | _, _, _, _, .nil, e => by simp at e
  | _, _, 0, v, .cons r _, e => ⟨_, rfl, by have : _ = v := Option.some.inj e; subst this; exact r⟩
  | _, _, i + 1, v, .cons _ t, e => by
    obtain ⟨d, h1, h2⟩ := DqAll.getD (i := i) (d := v) t (by simpa using e)
    exact ⟨d, by simpa using h1, h2⟩
theorem DqAll.append {K} {F : Hp} : ∀ {vs vs' : List V} {ds ds' : List PyData}, DqAll K F vs ds → DqAll K F vs' ds' → DqAll K F (vs ++ vs') (ds ++ ds')
  | _, _, _, _, .nil, h => h
  | _, _, _, _, .cons r t, h => .cons r (DqAll.append t h)
theorem DqAll.take {K} {F : Hp} : ∀ {vs : List V} {ds : List PyData} (n : Nat), DqAll K F vs ds → DqAll K F (vs.take n) (ds.take n)
  | _, _, 0, _ => .nil
  | _, _, _ + 1, .nil => .nil
  | _, _, n + 1, .cons r t => .cons r (DqAll.take n t)
theorem DqAll.drop {K} {F : Hp} : ∀ {vs : List V} {ds : List PyData} (n : Nat), DqAll K F vs ds → DqAll K F (vs.drop n) (ds.drop n)
  | _, _, 0, h => h
  | _, _, _ + 1, .nil => .nil
  | _, _, n + 1, .cons _ t => DqAll.drop n t
theorem DqAll.set {K} {F : Hp} {v : V} {d : PyData} (r : Dq K F v d) : ∀ {vs : List V} {ds : List PyData} (i : Nat), DqAll K F vs ds → DqAll K F (vs.set i v) (ds.set i d)
  | _, _, _, .nil => .nil
  | _, _, 0, .cons _ t => .cons r t
  | _, _, i + 1, .cons q t => .cons q (DqAll.set r i t)
theorem DqAll.snoc {K} {F : Hp} {vs : List V} {ds : List PyData} {v : V} {d : PyData} (h : DqAll K F vs ds) (r : Dq K F v d) : DqAll K F (vs ++ [v]) (ds ++ [d]) := h.append (.cons r .nil)
theorem DqAll.eraseIdx {K} {F : Hp} : ∀ {vs : List V} {ds : List PyData} (i : Nat), DqAll K F vs ds → DqAll K F (vs.eraseIdx i) (ds.eraseIdx i)
  | _, _, _, .nil => .nil
  | _, _, 0, .cons _ t => t
  | _, _, i + 1, .cons q t => .cons q (DqAll.eraseIdx i t)
theorem DqAll.ints {K} {F : Hp} : ∀ {vs : List V} {ns : List Int}, DqAll K F vs (ns.map PyData.int) → vs = ns.map V.int
  | _, [], h => by cases h; rfl
  | _, n :: ns, h => by
    cases h with
    | cons a b => cases a; rw [DqAll.ints b]; rfl
theorem DqAll.ofInts {K} {F : Hp} : ∀ (ns : List Int), DqAll K F (ns.map V.int) (ns.map PyData.int)
  | [] => .nil
  | n :: ns => .cons (.int n) (DqAll.ofInts ns)
theorem DqAll.strs {K} {F : Hp} : ∀ {vs : List V} {ns : List Str}, DqAll K F vs (ns.map PyData.str) → vs = ns.map V.str
  | _, [], h => by cases h; rfl
  | _, n :: ns, h => by
    cases h with
    | cons a b => cases a; rw [DqAll.strs b]; rfl
theorem DqAll.ofStrs {K} {F : Hp} : ∀ (ns : List Str), DqAll K F (ns.map V.str) (ns.map PyData.str)
  | [] => .nil
  | n :: ns => .cons (.str n) (DqAll.ofStrs ns)

/-! ### cells, slots, results -/
inductive Cell where
  | lst (xs : List PyData)
  | dic (ks : List Key) (xs : List PyData)
  /-- m: where its dict stands, where that is to be known -/
  | ins (m : Option Addr) (c : Str) (ks : List Str) (xs : List PyData)
def Cell.toD : Cell → Option PyData
  | .lst xs => some (.list xs)
  | .dic ks xs => some (.dict ((ks.map kD).zip xs))
  | .ins _ c ks xs => some (.dict (insD c ks xs))
/-- what a name holds: nothing, data that stays, a cell of its own, the law's deck of draws -/
inductive Sl where
  | no | d (x : PyData) | own (c : Cell) | deck | opq (v : V)
abbrev En := List Sl
/-- a value on its way: data that stays; a new cell; the cell of the i-th name; the deck; a new deck -/
inductive R where
  | d (x : PyData) | nw (c : Cell) | bw (i : Nat) (c : Cell) | deck | opq (v : V)
def R.toD : R → Option PyData
  | .d x => some x
  | .nw c => c.toD
  | .bw _ c => c.toD
  | .deck => none
  | .opq _ => none
structure Exn where
  cls : Str
  val : List (Str × PyData)
/-- what stays through the whole law: the written part, the module's names, what the law's deck of draws is like -/
structure DG where
  K : PySem.W.Frag
  mg : Str → Option Value
  dki : Addr → HO → HO → Prop
/-- .. and what stood ahead: the heap (all of it stays), its data, the deck -/
structure DC where
  g : DG
  B : Hp
  F0 : Hp
  dk0 : Dk
def Off (dk : Dk) (a : Addr) : Prop := ∀ da dl, dk = some (da, dl) → a ≠ da ∧ a ≠ dl
def DeckOk (g : DG) (H F : Hp) : Dk → Prop
  | none => True
  | some (da, dl) => F da = none ∧ F dl = none ∧ da ≠ dl ∧ ∃ o1 o2, H da = some o1 ∧ H dl = some o2 ∧ g.dki dl o1 o2
def CellOk (K : PySem.W.Frag) (F : Hp) : Cell → HO → Prop
  | .lst xs, .lst vs => DqAll K F vs xs
  | .dic ks xs, .dK kvs => kvs.map (·.1) = ks ∧ DqAll K F (kvs.map (·.2)) xs
  | .ins m c ks xs, .ins C d fs => (∀ z, m = some z → d = z) ∧ C = He.ga K c ∧ fs.map (·.1) = ks ∧ DqAll K F (fs.map (·.2)) xs
  | _, _ => False
theorem CellOk.mono {K} {F F' : Hp} {c : Cell} {o : HO} (h : CellOk K F c o) (s : Sub F F') : CellOk K F' c o := by
  cases c with
  | lst xs => cases o <;> first | exact DqAll.mono h s | exact h
  | dic ks xs => cases o <;> first | exact ⟨h.1, DqAll.mono h.2 s⟩ | exact h
  | ins m c ks xs => cases o <;> first | exact ⟨h.1, h.2.1, h.2.2.1, DqAll.mono h.2.2.2 s⟩ | exact h
theorem CellOk.dq {K} {F : Hp} {c : Cell} {o : HO} {p : Addr} {x : PyData} (h : CellOk K F c o) (e : F p = some o) (t : c.toD = some x) : Dq K F (.ref p) x := by
  cases c with
  | lst xs => cases t; cases o <;> first | exact .lst e h | exact False.elim h
  | dic ks xs =>
    cases t; cases o <;> first | exact False.elim h | skip
    rename_i kvs
    obtain ⟨rfl, h⟩ := (h : kvs.map (·.1) = ks ∧ DqAll K F (kvs.map (·.2)) xs)
    exact .dic e h (by rw [List.map_map]; rfl)
  | ins m c ks xs =>
    cases t; cases o <;> first | exact False.elim h | skip
    rename_i C dx fs
    obtain ⟨_, e1, rfl, h⟩ := (h : (∀ z, m = some z → dx = z) ∧ C = He.ga K c ∧ fs.map (·.1) = ks ∧ DqAll K F (fs.map (·.2)) xs)
    exact .ins e e1 h rfl
theorem Cell.toD_some (c : Cell) : ∃ x, c.toD = some x := by cases c <;> exact ⟨_, rfl⟩
/-- a cell at p that no other one knows -/
structure Priv (C : DC) (dk : Dk) (H F : Hp) (p : Addr) (c : Cell) : Prop where
  nf : F p = none
  nb : C.B p = none
  off : Off dk p
  at_ : ∃ ho, H p = some ho ∧ CellOk C.g.K F c ho
def SlOk (C : DC) (dk : Dk) (H F : Hp) : Sl → Option V → Prop
  | .no, _ => True
  | .d x, o => ∃ v, o = some v ∧ Dq C.g.K F v x
  | .own c, o => ∃ p, o = some (.ref p) ∧ Priv C dk H F p c
  | .deck, o => ∃ da dl, dk = some (da, dl) ∧ o = some (.ref da)
  | .opq v, o => o = some v
abbrev gt (σ : L2.St) (i : Nat) : Option V := (σ[i]?).getD none
structure Ok (C : DC) (dk : Dk) (σ : L2.St) (H F : Hp) (env : En) : Prop where
  sub : Sub F H
  len : σ.length = env.length
  slot : ∀ i s, env[i]? = some s → SlOk C dk H F s (gt σ i)
  sep : ∀ i j c c' p, env[i]? = some (.own c) → env[j]? = some (.own c') → gt σ i = some (.ref p) → gt σ j = some (.ref p) → i = j
  deck : DeckOk C.g H F dk
  base : ∀ a o, C.B a = some o → Off C.dk0 a → H a = some o
  fnew : ∀ a o, F a = some o → C.F0 a = none → C.B a = none
  f0 : Sub C.F0 F
  dkr : dk = C.dk0 ∨ (C.dk0 = none ∧ ∀ da dl, dk = some (da, dl) → C.B da = none ∧ C.B dl = none)
def ROk (C : DC) (dk : Dk) (σ : L2.St) (H F : Hp) (env : En) : R → V → Prop
  | .d x, v => Dq C.g.K F v x
  | .nw c, v => ∃ p, v = .ref p ∧ Priv C dk H F p c ∧ ∀ (i : Nat) c', env[i]? = some (.own c') → gt σ i ≠ some (.ref p)
  | .bw i c, v => (env[i]? = some (.own c) ∨ ∃ x, c.toD = some x ∧ env[i]? = some (.d x)) ∧ gt σ i = some v
  | .deck, v => ∃ da dl, dk = some (da, dl) ∧ v = .ref da
  | .opq x, v => v = x
def EnLe (env env' : En) : Prop := ∀ (i : Nat) (s : Sl), env[i]? = some s → env'[i]? = some s ∨ ∃ (c : Cell) (x : PyData), s = Sl.own c ∧ c.toD = some x ∧ env'[i]? = some (Sl.d x)
theorem EnLe.refl (e : En) : EnLe e e := fun _ _ h => .inl h
theorem EnLe.trans {a b c : En} (h : EnLe a b) (h' : EnLe b c) : EnLe a c := fun i s e => by
  rcases h i s e with q | ⟨k, x, r1, r2, r3⟩
  · exact h' i s q
  · rcases h' i _ r3 with q | ⟨k', x', q, _⟩
    · exact .inr ⟨k, x, r1, r2, q⟩
    · cases q
def XOk (C : DC) (F H : Hp) (x : Exn) (cls : Value) (d : Option Addr) : Prop :=
  ∃ a, C.g.mg x.cls = some (.ref a) ∧ cls = .ref a ∧ match x.val with
    | [] => d = none
    | fs => ∃ (dd : Addr) (vs : List (Str × V)), d = some dd ∧ F dd = some (.xd vs) ∧ vs.map (·.1) = fs.map (·.1) ∧ DqAll C.g.K F (vs.map (·.2)) (fs.map (·.2))
/-- what an expression does, by data -/
abbrev WE := En → (R → En → Prop) → (Exn → En → Prop) → Prop
def L (G : DG) (W : WX) (w : WE) : TE := fun σ H Q => ∃ (C : DC) (dk : Dk) (F : Hp) (env : En) (P : R → En → Prop) (Ex : Exn → En → Prop), C.g = G ∧ Ok C dk σ H F env ∧ w env P Ex ∧
  (∀ r env' v H' F', P r env' → Sub F F' → EnLe env env' → Ok C dk σ H' F' env' → ROk C dk σ H' F' env' r v → Q v H') ∧
  (∀ x env' cls d H' F', Ex x env' → Sub F F' → EnLe env env' → Ok C dk σ H' F' env' → XOk C F' H' x cls d → W cls d σ H')
structure Ev (G : DG) (W : WX) (X : Cx) (e : Expr) (w : WE) : Prop where
  pe : PE X e (L G W w)
theorem PE.imp {X : Cx} {e : Expr} {t u : TE} (h : PE X e t) (i : ∀ σ H Q, u σ H Q → t σ H Q) : PE X e u := ⟨fun pins s σ H Q I q => h.run pins s σ H Q I (i σ H Q q)⟩
/-! ### what lies under a value -/
section
variable {C : DC} {dk : Dk} {σ : L2.St} {H H' F F' : Hp} {env env' : En} {r : R} {v : V} {x : PyData} {c : Cell} {p : Addr}
theorem gt_of {i : Nat} {v : V} (h : gt σ i = some v) : σ[i]? = some (some v) := by
  unfold gt at h
  cases e : σ[i]? with
  | none => rw [e] at h; cases h
  | some o => rw [e] at h; have : o = some v := h; rw [this]
theorem Priv.dp (h : Priv C dk H F p c) (s : Sub F H) (e : c.toD = some x) : Dq C.g.K H (.ref p) x := by
  obtain ⟨ho, e1, k⟩ := h.at_
  exact (k.mono s).dq e1 e
theorem ROk.dp (o : Ok C dk σ H F env) (h : ROk C dk σ H F env r v) (e : r.toD = some x) : Dq C.g.K H v x := by
  cases r with
  | d y => cases e; exact Dq.mono h o.sub
  | nw c => obtain ⟨p, rfl, k, _⟩ := h; exact k.dp o.sub e
  | bw i c =>
    obtain ⟨h1 | ⟨y, e1, h1⟩, h2⟩ := h
    · obtain ⟨p, q, k⟩ := o.slot _ _ h1
      rw [h2] at q; cases q
      exact k.dp o.sub e
    · have e' : c.toD = some x := e
      rw [e'] at e1; cases e1
      obtain ⟨w, q, k⟩ := o.slot _ _ h1
      rw [h2] at q; cases q
      exact Dq.mono k o.sub
  | deck => cases e
  | opq z => cases e
/-- the items of a list or a tuple stay, whoever holds it -/
theorem ROk.lst {ds : List PyData} (o : Ok C dk σ H F env) (h : ROk C dk σ H F env r v) (e : r.toD = some (.list ds)) : ∃ p vs, v = .ref p ∧ H p = some (.lst vs) ∧ DqAll C.g.K F vs ds := by
  have P : ∀ {p c}, Priv C dk H F p c → c.toD = some (.list ds) → ∃ vs, H p = some (.lst vs) ∧ DqAll C.g.K F vs ds := fun {p c} k e => by
    obtain ⟨ho, e1, k1⟩ := k.at_
    cases c with
    | lst xs =>
      cases e
      cases ho <;> first | exact ⟨_, e1, k1⟩ | exact False.elim k1
    | dic ks xs => cases e
    | ins m c ks xs => cases e
  have D : ∀ {w : V}, Dq C.g.K F w (.list ds) → ∃ p vs, w = .ref p ∧ H p = some (.lst vs) ∧ DqAll C.g.K F vs ds := fun {w} k => by
    cases k with | lst a b => exact ⟨_, _, rfl, o.sub _ _ a, b⟩
  cases r with
  | d y => cases e; exact D h
  | nw c =>
    obtain ⟨p, rfl, k, _⟩ := h
    obtain ⟨vs, a, b⟩ := P k e
    exact ⟨p, vs, rfl, a, b⟩
  | bw i c =>
    obtain ⟨h1 | ⟨y, e1, h1⟩, h2⟩ := h
    · obtain ⟨p, q, k⟩ := o.slot _ _ h1
      rw [h2] at q; cases q
      obtain ⟨vs, a, b⟩ := P k e
      exact ⟨p, vs, rfl, a, b⟩
    · have e' : c.toD = some (.list ds) := e
      rw [e'] at e1; cases e1
      obtain ⟨w, q, k⟩ := o.slot _ _ h1
      rw [h2] at q; cases q
      exact D k
  | deck => cases e
  | opq z => cases e
theorem ROk.tup {ds : List PyData} (o : Ok C dk σ H F env) (h : ROk C dk σ H F env r v) (e : r.toD = some (.tuple ds)) : ∃ p vs, v = .ref p ∧ SqT C.g.K H p vs ∧ DqAll C.g.K F vs ds := by
  have D : ∀ {w : V}, Dq C.g.K F w (.tuple ds) → ∃ p vs, w = .ref p ∧ SqT C.g.K H p vs ∧ DqAll C.g.K F vs ds := fun {w} k => by
    cases k with | tup a b => exact ⟨_, _, rfl, o.sub.seqT a, b⟩
  cases r with
  | d y => cases e; exact D h
  | nw c => cases c <;> cases e
  | bw i c => cases c <;> cases e
  | deck => cases e
  | opq z => cases e
theorem ROk.int {i : Int} (o : Ok C dk σ H F env) (h : ROk C dk σ H F env r v) (e : r.toD = some (.int i)) : v = .int i := by
  have := h.dp o e
  cases this; rfl
theorem ROk.str {i : Str} (o : Ok C dk σ H F env) (h : ROk C dk σ H F env r v) (e : r.toD = some (.str i)) : v = .str i := by
  have := h.dp o e
  cases this; rfl
theorem ROk.bool {i : Bool} (o : Ok C dk σ H F env) (h : ROk C dk σ H F env r v) (e : r.toD = some (.bool i)) : v = .bl i := by
  have := h.dp o e
  cases this; rfl
theorem ROk.non (o : Ok C dk σ H F env) (h : ROk C dk σ H F env r v) (e : r.toD = some .none) : v = .non := by
  have := h.dp o e
  cases this; rfl
/-- what is on its way stays while another expression runs: not a new cell -/
def R.still : R → Prop
  | .nw _ => False
  | _ => True
theorem ROk.keep (h : ROk C dk σ H F env r v) (st : r.still) (s : Sub F F') (l : EnLe env env') : ROk C dk σ H' F' env' r v := by
  cases r with
  | d y => exact Dq.mono h s
  | nw c => exact st.elim
  | bw i c =>
    refine ⟨?_, h.2⟩
    rcases h.1 with q | ⟨y, e, q⟩
    · rcases l _ _ q with z | ⟨c', x, z, z2, z3⟩
      · exact .inl z
      · cases z; exact .inr ⟨x, z2, z3⟩
    · rcases l _ _ q with z | ⟨c', x, z, _⟩
      · exact .inr ⟨y, e, z⟩
      · cases z
  | deck => exact h
  | opq z => exact h
/-- H has all that B has -/
theorem Ok.nb (o : Ok C dk σ H F env) (h : H p = none) : C.B p = none := by
  cases q : C.B p with
  | none => rfl
  | some u =>
    have z := o.base p u q
    cases e : C.dk0 with
    | none => rw [z fun da dl w => by rw [e] at w; cases w] at h; cases h
    | some k =>
      obtain ⟨da, dl⟩ := k
      have ed : dk = some (da, dl) := by rcases o.dkr with w | ⟨w, _⟩; rw [w, e]; rw [e] at w; cases w
      have D := o.deck
      rw [ed] at D
      obtain ⟨_, _, _, o1, o2, h1, h2, _⟩ := D
      by_cases a1 : p = da
      · subst a1; rw [h1] at h; cases h
      · by_cases a2 : p = dl
        · subst a2; rw [h2] at h; cases h
        · rw [z fun da' dl' w => by rw [e] at w; cases w; exact ⟨a1, a2⟩] at h; cases h
theorem Ok.offNew (o : Ok C dk σ H F env) (h : H p = none) : Off dk p := fun da dl w => by
  have D := o.deck
  rw [w] at D
  obtain ⟨_, _, _, o1, o2, h1, h2, _⟩ := D
  constructor
  · intro z; subst z; rw [h1] at h; cases h
  · intro z; subst z; rw [h2] at h; cases h
theorem Ok.ownNe (o : Ok C dk σ H F env) (h : H p = none) : ∀ (i : Nat) c', env[i]? = some (.own c') → gt σ i ≠ some (.ref p) := fun i c' e z => by
  obtain ⟨q, e1, k⟩ := o.slot _ _ e
  rw [z] at e1; cases e1
  obtain ⟨ho, w, _⟩ := k.at_
  rw [h] at w; cases w
/-- a new object at p -/
theorem Ok.newCell (o : Ok C dk σ H F env) (u : HO) (h : H p = none) : Ok C dk σ (upd H p u) F env where
  sub := o.sub.trans (Sub.put h)
  len := o.len
  slot := fun i s e => by
    have q := o.slot i s e
    cases s with
    | no => exact q
    | d x => exact q
    | own c =>
      obtain ⟨a, e1, k⟩ := q
      obtain ⟨ho, w, k2⟩ := k.at_
      exact ⟨a, e1, k.nf, k.nb, k.off, ho, by rw [upd_ne (ne_of_none w h)]; exact w, k2⟩
    | deck => exact q
    | opq z => exact q
  sep := o.sep
  deck := by
    have D := o.deck
    cases dk with
    | none => trivial
    | some k =>
      obtain ⟨da, dl⟩ := k
      obtain ⟨a1, a2, a3, o1, o2, h1, h2, a4⟩ := D
      exact ⟨a1, a2, a3, o1, o2, by rw [upd_ne (ne_of_none h1 h)]; exact h1, by rw [upd_ne (ne_of_none h2 h)]; exact h2, a4⟩
  base := fun a u' e f => by
    have z := o.base a u' e f
    rw [upd_ne (ne_of_none z h)]; exact z
  fnew := o.fnew
  f0 := o.f0
  dkr := o.dkr
theorem Ok.newPriv (o : Ok C dk σ H F env) {u : HO} (h : H p = none) (k : CellOk C.g.K F c u) : ROk C dk σ (upd H p u) F env (.nw c) (.ref p) :=
  ⟨p, rfl, ⟨o.sub.free0 h, o.nb h, o.offNew h, u, upd_same, k⟩, o.ownNe h⟩
/-- an object that no name's cell and no deck is, is held for good -/
theorem Ok.hold (o : Ok C dk σ H F env) {u : HO} (hu : H p = some u) (nf : F p = none) (nb : C.B p = none) (off : Off dk p) (no : ∀ (i : Nat) c', env[i]? = some (.own c') → gt σ i ≠ some (.ref p)) :
    Ok C dk σ H (upd F p u) env where
  sub := fun a w e => by
    by_cases q : a = p
    · subst q; rw [upd_same] at e; rw [hu]; exact e
    · rw [upd_ne q] at e; exact o.sub a w e
  len := o.len
  slot := fun i s e => by
    have q := o.slot i s e
    cases s with
    | no => exact q
    | d x => obtain ⟨v, e1, k⟩ := q; exact ⟨v, e1, Dq.mono k (Sub.put nf)⟩
    | own c =>
      obtain ⟨a, e1, k⟩ := q
      have ne : a ≠ p := fun z => no i c e (by rw [← z]; exact e1)
      obtain ⟨ho, w, k2⟩ := k.at_
      exact ⟨a, e1, by rw [upd_ne ne]; exact k.nf, k.nb, k.off, ho, w, CellOk.mono k2 (Sub.put nf)⟩
    | deck => exact q
    | opq z => exact q
  sep := o.sep
  deck := by
    have D := o.deck
    cases dk with
    | none => trivial
    | some k =>
      obtain ⟨da, dl⟩ := k
      obtain ⟨a1, a2, a3⟩ := D
      obtain ⟨n1, n2⟩ := off da dl rfl
      exact ⟨by rw [upd_ne (Ne.symm n1)]; exact a1, by rw [upd_ne (Ne.symm n2)]; exact a2, a3⟩
  base := o.base
  fnew := fun a w e f => by
    by_cases q : a = p
    · subst q; exact nb
    · rw [upd_ne q] at e; exact o.fnew a w e f
  f0 := o.f0.trans (Sub.put nf)
  dkr := o.dkr
/-- a new tuple -/
theorem Ok.newTup (o : Ok C dk σ H F env) {vs : List V} {ds : List PyData} (h : H p = none) (k : DqAll C.g.K F vs ds) :
    ∃ F', Sub F F' ∧ Ok C dk σ (upd H p (.tup vs)) F' env ∧ Dq C.g.K F' (.ref p) (.tuple ds) := by
  have nf := o.sub.free0 h
  exact ⟨upd F p (.tup vs), Sub.put nf, (o.newCell _ h).hold upd_same nf (o.nb h) (o.offNew h) (o.ownNe h), .tup (SqT.of upd_same) (DqAll.mono k (Sub.put nf))⟩
def frzS : Sl → Sl
  | .own c => match c.toD with
    | some x => .d x
    | none => .own c
  | s => s
def frz (env : En) (i : Nat) : En := env.modify i frzS
theorem frz_get {env : En} {i j : Nat} : (frz env i)[j]? = if j = i then (env[j]?).map frzS else env[j]? := by
  unfold frz
  rw [List.getElem?_modify]
  by_cases h : i = j
  · subst h; simp
  · rw [if_neg (fun z => h z.symm)]; simp [h]
/-- a name's cell is held for good -/
theorem Ok.freeze (o : Ok C dk σ H F env) (i : Nat) : ∃ F', Sub F F' ∧ Ok C dk σ H F' (frz env i) ∧ EnLe env (frz env i) := by
  cases e : env[i]? with
  | none =>
    have z : frz env i = env := by
      apply List.ext_getElem?; intro j; rw [frz_get]; split
      · rename_i h; subst h; rw [e]; rfl
      · rfl
    exact ⟨F, Sub.refl F, by rw [z]; exact o, by rw [z]; exact EnLe.refl _⟩
  | some s =>
    cases s with
    | own c =>
        obtain ⟨p, e1, k⟩ := o.slot _ _ e
        obtain ⟨ho, w, k2⟩ := k.at_
        obtain ⟨x0, ex0⟩ := c.toD_some
        have fe : frzS (.own c) = .d x0 := by
          have e2 : frzS (.own c) = (match c.toD with | some x => Sl.d x | none => Sl.own c) := rfl
          rw [e2, ex0]
        have le : EnLe env (frz env i) := fun j s' q => by
          rw [frz_get]
          by_cases h : j = i
          · subst h; rw [e] at q; cases q; exact .inr ⟨_, _, rfl, ex0, by rw [if_pos rfl, e]; show some (frzS (.own c)) = _; rw [fe]⟩
          · rw [if_neg h]; exact .inl q
        refine ⟨upd F p ho, Sub.put k.nf, ⟨?_, ?_, ?_, ?_, ?_, o.base, ?_, ?_, o.dkr⟩, le⟩
        · intro a u q
          by_cases z : a = p
          · subst z; rw [upd_same] at q; rw [w]; exact q
          · rw [upd_ne z] at q; exact o.sub a u q
        · rw [o.len]; unfold frz; simp
        · intro j s' q
          rw [frz_get] at q
          by_cases h : j = i
          · subst h
            rw [if_pos rfl, e] at q
            have q' : some (frzS (.own c)) = some s' := q
            rw [fe] at q'
            cases q'
            exact ⟨.ref p, e1, (k2.mono (Sub.put k.nf)).dq upd_same ex0⟩
          · rw [if_neg h] at q
            have r := o.slot j s' q
            cases s' with
            | no => exact r
            | d x => obtain ⟨v, e2, k3⟩ := r; exact ⟨v, e2, Dq.mono k3 (Sub.put k.nf)⟩
            | own c =>
              obtain ⟨a, e2, k3⟩ := r
              have ne : a ≠ p := fun z => h (o.sep j i c _ p q e (by rw [← z]; exact e2) e1)
              obtain ⟨ho, w3, k4⟩ := k3.at_
              exact ⟨a, e2, by rw [upd_ne ne]; exact k3.nf, k3.nb, k3.off, ho, w3, CellOk.mono k4 (Sub.put k.nf)⟩
            | deck => exact r
            | opq z => exact r
        · intro a b c c' q h1 h2 h3 h4
          rw [frz_get] at h1 h2
          have n : ∀ {m : Nat} {c}, (if m = i then (env[m]?).map frzS else env[m]?) = some (Sl.own c) → m ≠ i ∧ env[m]? = some (.own c) := fun {m c} y => by
            by_cases h : m = i
            · subst h; rw [if_pos rfl, e] at y
              have y' : some (frzS (.own _)) = _ := y
              rw [fe] at y'; cases y'
            · rw [if_neg h] at y; exact ⟨h, y⟩
          exact o.sep a b c c' q (n h1).2 (n h2).2 h3 h4
        · have D := o.deck
          cases dk with
          | none => trivial
          | some kk =>
            obtain ⟨da, dl⟩ := kk
            obtain ⟨a1, a2, a3⟩ := D
            obtain ⟨n1, n2⟩ := k.off da dl rfl
            exact ⟨by rw [upd_ne (Ne.symm n1)]; exact a1, by rw [upd_ne (Ne.symm n2)]; exact a2, a3⟩
        · intro a u q f
          by_cases z : a = p
          · subst z; exact k.nb
          · rw [upd_ne z] at q; exact o.fnew a u q f
        · exact o.f0.trans (Sub.put k.nf)
    | _ =>
      have z : frz env i = env := by
        apply List.ext_getElem?; intro j; rw [frz_get]; split
        · rename_i h; subst h; rw [e]; rfl
        · rfl
      exact ⟨F, Sub.refl F, by rw [z]; exact o, by rw [z]; exact EnLe.refl _⟩
/-- a value is held for good: what becomes of the names -/
def R.hold : R → En → En
  | .bw i _, env => frz env i
  | _, env => env
theorem ROk.held (o : Ok C dk σ H F env) (h : ROk C dk σ H F env r v) (e : r.toD = some x) : ∃ F', Sub F F' ∧ Ok C dk σ H F' (r.hold env) ∧ EnLe env (r.hold env) ∧ Dq C.g.K F' v x := by
  cases r with
  | d y => cases e; exact ⟨F, Sub.refl F, o, EnLe.refl _, h⟩
  | nw c =>
    obtain ⟨p, rfl, k, no⟩ := h
    obtain ⟨ho, w, k2⟩ := k.at_
    exact ⟨upd F p ho, Sub.put k.nf, o.hold w k.nf k.nb k.off no, EnLe.refl _, (k2.mono (Sub.put k.nf)).dq upd_same e⟩
  | bw i c =>
    obtain ⟨F', s, o', l⟩ := o.freeze i
    refine ⟨F', s, o', l, ?_⟩
    obtain ⟨h1 | ⟨y, e1, h1⟩, h2⟩ := h
    · have q : (frz env i)[i]? = some (.d x) := by
        rw [frz_get, if_pos rfl, h1]
        have e' : c.toD = some x := e
        show some (frzS (.own c)) = _
        have e2 : frzS (.own c) = (match c.toD with | some x => Sl.d x | none => Sl.own c) := rfl
        rw [e2, e']
      obtain ⟨w, z, k⟩ := o'.slot _ _ q
      rw [h2] at z; cases z; exact k
    · have e' : c.toD = some x := e
      rw [e'] at e1; cases e1
      have q : (frz env i)[i]? = some (.d x) := by rw [frz_get, if_pos rfl, h1]; rfl
      obtain ⟨w, z, k⟩ := o'.slot _ _ q
      rw [h2] at z; cases z; exact k
  | deck => cases e
  | opq z => cases e
/-- a value made still: a new cell is held -/
def R.calm : R → R
  | .nw c => match c.toD with
    | some x => .d x
    | none => .nw c
  | r => r
theorem R.calm_toD (r : R) : r.calm.toD = r.toD := by
  cases r with
  | nw c => cases c <;> rfl
  | _ => rfl
theorem ROk.calmed (o : Ok C dk σ H F env) (h : ROk C dk σ H F env r v) : ∃ F', Sub F F' ∧ Ok C dk σ H F' env ∧ ROk C dk σ H F' env r.calm v ∧ r.calm.still := by
  cases r with
  | nw c =>
    obtain ⟨x0, ex0⟩ := c.toD_some
    obtain ⟨F', s, o', _, k⟩ := ROk.held o h (x := x0) ex0
    have e3 : R.calm (.nw c) = .d x0 := by
      show (match c.toD with
        | some x => R.d x
        | none => R.nw c) = _
      rw [ex0]
    exact ⟨F', s, o', by rw [e3]; exact k, by rw [e3]; trivial⟩
  | d x => exact ⟨F, Sub.refl F, o, h, trivial⟩
  | bw i c => exact ⟨F, Sub.refl F, o, h, trivial⟩
  | deck => exact ⟨F, Sub.refl F, o, h, trivial⟩
  | opq z => exact ⟨F, Sub.refl F, o, h, trivial⟩
end
end Dl

namespace Dl
open PySem PySem.Spec PyProof.Rows L2

/-! ### what is wanted in the end -/
def Fin (C : DC) (W : WX) (dk : Dk) (σ : L2.St) (F : Hp) (env : En) (P : R → En → Prop) (Ex : Exn → En → Prop) (Q : VK) : Prop :=
  (∀ r env' v H' F', P r env' → Sub F F' → EnLe env env' → Ok C dk σ H' F' env' → ROk C dk σ H' F' env' r v → Q v H') ∧
  (∀ x env' cls d H' F', Ex x env' → Sub F F' → EnLe env env' → Ok C dk σ H' F' env' → XOk C F' H' x cls d → ∀ (_ : True), W cls d σ H')
theorem Fin.le {C : DC} {W : WX} {dk : Dk} {σ : L2.St} {F F1 : Hp} {env env1 : En} {P : R → En → Prop} {Ex : Exn → En → Prop} {Q : VK} (f : Fin C W dk σ F env P Ex Q) (s : Sub F F1) (l : EnLe env env1) : Fin C W dk σ F1 env1 P Ex Q :=
  ⟨fun r e v H' F' p s' l' o k => f.1 r e v H' F' p (s.trans s') (l.trans l') o k, fun x e c d H' F' p s' l' o k t => f.2 x e c d H' F' p (s.trans s') (l.trans l') o k t⟩
theorem L.mk {C : DC} {W : WX} {w : WE} {dk : Dk} {σ : L2.St} {H F : Hp} {env : En} {P : R → En → Prop} {Ex : Exn → En → Prop} {Q : VK} (o : Ok C dk σ H F env) (h : w env P Ex) (f : Fin C W dk σ F env P Ex Q) : L C.g W w σ H Q :=
  ⟨C, dk, F, env, P, Ex, rfl, o, h, f.1, fun x e c d H' F' p s' l' o' k => f.2 x e c d H' F' p s' l' o' k trivial⟩
theorem L.fin {G : DG} {W : WX} {w : WE} {σ : L2.St} {H : Hp} {Q : VK} (h : L G W w σ H Q) : ∃ C dk F env P Ex, C.g = G ∧ Ok C dk σ H F env ∧ w env P Ex ∧ Fin C W dk σ F env P Ex Q := by
  obtain ⟨C, dk, F, env, P, Ex, e, o, h1, f1, f2⟩ := h
  exact ⟨C, dk, F, env, P, Ex, e, o, h1, f1, fun x e c d H' F' p s' l' o' k _ => f2 x e c d H' F' p s' l' o' k⟩
/-- one part ahead of another -/
theorem L.step {C : DC} {W : WX} {wa : WE} {g : R → WE} {dk : Dk} {σ : L2.St} {H F : Hp} {env : En} {P : R → En → Prop} {Ex : Exn → En → Prop} {Q Q' : VK} (o : Ok C dk σ H F env)
    (h : wa env (fun r e => g r e P Ex) Ex) (f : Fin C W dk σ F env P Ex Q)
    (k : ∀ r v H1 F1 env1, Ok C dk σ H1 F1 env1 → ROk C dk σ H1 F1 env1 r v → Sub F F1 → EnLe env env1 → g r env1 P Ex → Fin C W dk σ F1 env1 P Ex Q → Q' v H1) : L C.g W wa σ H Q' :=
  L.mk o h ⟨fun r e v H' F' p s' l' o' q => k r v H' F' e o' q s' l' p (f.le s' l'), f.2⟩
/-- the same, what comes made still -/
theorem L.stepC {C : DC} {W : WX} {wa : WE} {g : R → WE} {dk : Dk} {σ : L2.St} {H F : Hp} {env : En} {P : R → En → Prop} {Ex : Exn → En → Prop} {Q Q' : VK} (o : Ok C dk σ H F env)
    (h : wa env (fun r e => g r.calm e P Ex) Ex) (f : Fin C W dk σ F env P Ex Q)
    (k : ∀ r v H1 F1 env1, Ok C dk σ H1 F1 env1 → ROk C dk σ H1 F1 env1 r v → r.still → Sub F F1 → EnLe env env1 → g r env1 P Ex → Fin C W dk σ F1 env1 P Ex Q → Q' v H1) : L C.g W wa σ H Q' := by
  refine L.step (g := fun r => g r.calm) o h f fun r v H1 F1 env1 o1 q s l h1 f1 => ?_
  obtain ⟨F2, s2, o2, q2, st⟩ := q.calmed o1
  exact k r.calm v H1 F2 env1 o2 q2 st (s.trans s2) l h1 (f1.le s2 (EnLe.refl _))

section
variable {G : DG} {W : WX} {X : Cx}
/-! ### names and constants -/
def wV (i : Nat) : WE := fun env P _ => match env[i]? with
  | some (.d x) => P (.d x) env
  | some (.own c) => P (.bw i c) env
  | some .deck => P .deck env
  | some (.opq v) => P (.opq v) env
  | _ => False
def wC (x : PyData) : WE := fun env P _ => P (.d x) env
theorem Ev.of {e : Expr} {t : TE} {w : WE} (h : PE X e t) (i : ∀ (C : DC), C.g = G → ∀ dk σ H F env P Ex Q, Ok C dk σ H F env → w env P Ex → Fin C W dk σ F env P Ex Q → t σ H Q) : Ev G W X e w :=
  ⟨PE.imp h fun σ H Q q => let ⟨_, _, _, _, _, _, e, o, h1, f⟩ := q.fin; i _ e _ _ _ _ _ _ _ _ o h1 f⟩
theorem ev_var (i : Nat) {x : Str} {pos : Pos} (hN : X.N[i]? = some x := by rfl) (hv : Vis X.env.scope x := by first | exact Or.inl rfl | exact Or.inr (Or.inl rfl) | exact Or.inr (Or.inr rfl)) (hd : (x == ("__debug__" : Str)) = false := by decide)
    (hcd : (x == ("__classdict__" : Str)) = false := by decide) : Ev G W X (.Name x pos) (wV i) := by
  refine Ev.of (pv i hN hv hd hcd) fun C hC dk σ H F env P Ex Q o h f => ?_
  unfold wV at h
  cases e : env[i]? with
  | none => rw [e] at h; exact h.elim
  | some s =>
    rw [e] at h
    have z := o.slot _ _ e
    cases s with
    | no => exact h.elim
    | d x =>
      obtain ⟨v, g, k⟩ := z
      exact ⟨v, gt_of g, f.1 _ _ _ _ _ h (Sub.refl F) (EnLe.refl env) o k⟩
    | own c =>
      obtain ⟨p, g, k⟩ := z
      exact ⟨.ref p, gt_of g, f.1 _ _ _ _ _ h (Sub.refl F) (EnLe.refl env) o ⟨.inl e, g⟩⟩
    | deck =>
      obtain ⟨da, dl, e1, g⟩ := z
      exact ⟨_, gt_of g, f.1 _ _ _ _ _ h (Sub.refl F) (EnLe.refl env) o ⟨da, dl, e1, rfl⟩⟩
    | opq v => exact ⟨_, gt_of z, f.1 _ _ _ _ _ h (Sub.refl F) (EnLe.refl env) o rfl⟩
theorem ev_const {e : Expr} {v : V} {x : PyData} (h : PE X e (tC v)) (k : ∀ F, Dq G.K F v x) : Ev G W X e (wC x) :=
  Ev.of h fun C hC dk σ H F env P Ex Q o h1 f => f.1 _ _ _ _ _ h1 (Sub.refl F) (EnLe.refl env) o (by subst hC; exact k F)
theorem ev_int {i : Int} {j pos} : Ev G W X (.Constant (.int i) j pos) (wC (.int i)) := ev_const pe_int fun _ => .int i
theorem ev_bool {b : Bool} {j pos} : Ev G W X (.Constant (.bool b) j pos) (wC (.bool b)) := ev_const pe_bl fun _ => .bl b
theorem ev_str {b : Str} {j pos} : Ev G W X (.Constant (.str b) j pos) (wC (.str b)) := ev_const pe_str fun _ => .str b
theorem ev_none {j pos} : Ev G W X (.Constant .none j pos) (wC .none) := ev_const pe_non fun _ => .non
/-- a constant of the module -/
theorem ev_glob {x : Str} {v : V} {u : Value} {y : PyData} {pos : Pos} (hm : X.mg x = some u) (r : RelV v u) (k : ∀ F, Dq G.K F v y) (hg : Gl X x := by rfl) (hd : (x == ("__debug__" : Str)) = false := by decide) : Ev G W X (.Name x pos) (wC y) :=
  ev_const (pe_glob hg hm r hd) k

/-! ### operators by data -/
abbrev Op2 := PyData → PyData → (R → Prop) → Prop
def wOp (op : Op2) (wa wb : WE) : WE := fun env P Ex => wa env (fun r e => wb e (fun s e' => match r.toD, s.toD with
  | some x, some y => op x y fun t => P t e'
  | _, _ => False) Ex) Ex
/-- what a rule by values gives, told by data -/
def Snd2 (G : DG) (rr : R2) (op : Op2) : Prop := ∀ (C : DC), C.g = G → ∀ dk σ H F env r s v u x y Q (P : R → Prop), Ok C dk σ H F env → ROk C dk σ H F env r v → ROk C dk σ H F env s u → r.toD = some x → s.toD = some y → op x y P →
  (∀ t w H' F', P t → Sub F F' → Ok C dk σ H' F' env → ROk C dk σ H' F' env t w → Q w H') → rr v u H Q
theorem L.two {C : DC} {wa wb : WE} {rr : R2} {op : Op2} (hs : Snd2 C.g rr op) {dk : Dk} {σ : L2.St} {H F : Hp} {env : En} {P : R → En → Prop} {Ex : Exn → En → Prop} {Q : VK} (o : Ok C dk σ H F env) (h : wOp op wa wb env P Ex) (f : Fin C W dk σ F env P Ex Q) :
    L C.g W wa σ H (fun x H1 => L C.g W wb σ H1 fun y H2 => rr x y H2 Q) := by
  refine L.stepC (g := fun r e P Ex => wb e (fun s e' => match r.toD, s.toD with
    | some x, some y => op x y fun t => P t e'
    | _, _ => False) Ex) o (by simpa only [wOp, R.calm_toD] using h) f fun r v H1 F1 env1 o1 k1 st s1 l1 h1 f1 => ?_
  refine L.step (g := fun s e' P Ex => match r.toD, s.toD with
    | some x, some y => op x y fun t => P t e'
    | _, _ => False) o1 h1 f1 fun s u H2 F2 env2 o2 k2 s2 l2 h2 f2 => ?_
  cases er : r.toD with
  | none => rw [er] at h2; exact h2.elim
  | some x =>
    cases es : s.toD with
    | none => rw [er, es] at h2; exact h2.elim
    | some y =>
      rw [er, es] at h2
      exact hs _ rfl _ _ _ _ _ _ _ _ _ _ _ _ _ o2 (k1.keep st s2 l2) k2 er es h2 fun t w H' F' p s' o' k' => f2.1 _ _ _ _ _ p s' (EnLe.refl _) o' k'
variable {a b : Expr} {wa wb : WE} {pos : Pos}
theorem ev_bin {op : Operator} {rr : R2} {o2 : Op2} (ho : OpR X (binaryOp op) rr) (hs : Snd2 G rr o2) (ha : Ev G W X a wa) (hb : Ev G W X b wb) : Ev G W X (.BinOp a op b pos) (wOp o2 wa wb) :=
  Ev.of (pe_op ho ha.pe hb.pe) fun _ e _ _ _ _ _ _ _ _ o h f => by subst e; exact L.two hs o h f
theorem ev_cmp {op : CmpOp} {rr : R2} {o2 : Op2} (ho : OpR X (compareOp op) rr) (hs : Snd2 G rr o2) (ha : Ev G W X a wa) (hb : Ev G W X b wb) (hm : behindInMarks op b = false) : Ev G W X (.Compare a [op] [b] pos) (wOp o2 wa wb) :=
  Ev.of (pe_cmpR ho ha.pe hb.pe hm) fun _ e _ _ _ _ _ _ _ _ o h f => by subst e; exact L.two hs o h f
theorem ev_ixR {rr : R2} {o2 : Op2} (ho : IxR X rr) (hs : Snd2 G rr o2) (ha : Ev G W X a wa) (hb : Ev G W X b wb) (hx : PlainIx b := by intro _ _; rfl) : Ev G W X (.Subscript a b pos) (wOp o2 wa wb) :=
  Ev.of (pe_ix ho ha.pe hb.pe hx) fun _ e _ _ _ _ _ _ _ _ o h f => by subst e; exact L.two hs o h f

/-! ### + -/
def dAdd : Op2 := fun x y P => match x, y with
  | .int i, .int j => P (.d (.int (i + j)))
  | .str i, .str j => i.length + j.length ≤ sizeLine ∧ P (.d (.str (i ++ j)))
  | .list i, .list j => i.length + j.length ≤ sizeLine ∧ P (.nw (.lst (i ++ j)))
  | .tuple i, .tuple j => i.length + j.length ≤ sizeLine ∧ P (.d (.tuple (i ++ j)))
  | _, _ => False
def rAddStr : R2 := fun x y H Q => ∃ i j, x = .str i ∧ y = .str j ∧ i.length + j.length ≤ sizeLine ∧ Q (.str (i ++ j)) H
def rAddInt : R2 := rI0 fun i j => .int (i + j)
def rCatAny : R2 := fun x y H Q => ∃ a b xs ys, x = .ref a ∧ y = .ref b ∧ H a = some (.lst xs) ∧ H b = some (.lst ys) ∧ xs.length + ys.length ≤ sizeLine ∧ ∀ p, H p = none → Q (.ref p) (upd H p (.lst (xs ++ ys)))
theorem op_catAny : OpR X (binaryOp .Add) rCatAny := by
  intro pins s σ H x y v u Q I rx ry h
  obtain ⟨a, b, xs, ys, e1, e2, hA, hB, hz, q⟩ := h
  exact op_cat pins s σ H x y v u Q I rx ry ⟨a, b, xs, ys, e1, e2, hA, hB, hz, q⟩
def rAddAll (K : PySem.W.Frag) : R2 := fun x y H Q => rAddInt x y H Q ∨ rAddStr x y H Q ∨ rCatAny x y H Q ∨ rCatA K x y H Q
theorem op_addAll : OpR X (binaryOp .Add) (rAddAll X.K) := OpR.or op_add (OpR.or op_add_str (OpR.or op_catAny op_catA))
theorem snd_add : Snd2 G (rAddAll G.K) dAdd := by
  intro C hC dk σ H F env r s v u x y Q P o k1 k2 e1 e2 h q
  subst hC
  cases x <;> cases y <;> first | exact h.elim | skip
  · have z1 := k1.int o e1
    have z2 := k2.int o e2
    exact .inl ⟨_, _, z1, z2, q _ _ _ _ h (Sub.refl F) o (Dq.int _)⟩
  · have z1 := k1.str o e1
    have z2 := k2.str o e2
    exact .inr (.inl ⟨_, _, z1, z2, h.1, q _ _ _ _ h.2 (Sub.refl F) o (Dq.str _)⟩)
  · obtain ⟨p1, vs1, rfl, a1, b1⟩ := k1.lst o e1
    obtain ⟨p2, vs2, rfl, a2, b2⟩ := k2.lst o e2
    refine .inr (.inr (.inl ⟨p1, p2, vs1, vs2, rfl, rfl, a1, a2, by rw [b1.length, b2.length]; exact h.1, fun p hp => ?_⟩))
    exact q _ _ _ _ h.2 (Sub.refl F) (o.newCell _ hp) (o.newPriv hp (show DqAll C.g.K F (vs1 ++ vs2) _ from b1.append b2))
  · obtain ⟨p1, vs1, rfl, a1, b1⟩ := k1.tup o e1
    obtain ⟨p2, vs2, rfl, a2, b2⟩ := k2.tup o e2
    have nil : ∀ {vs : List V} {ds : List PyData}, DqAll C.g.K F vs ds → vs = [] → ds = [] := fun {vs ds} k e => by subst e; cases k; rfl
    have D1 : ∀ {r : R} {p : Addr} {ds : List PyData}, ROk C dk σ H F env r (.ref p) → r.toD = some (.tuple ds) → Dq C.g.K F (.ref p) (.tuple ds) := fun {r p ds} k e => by
      cases r with
      | d y => cases e; exact k
      | nw c => cases c <;> cases e
      | bw i c => cases c <;> cases e
      | deck => cases e
      | opq z => cases e
    refine .inr (.inr (.inr ⟨p1, p2, vs1, vs2, rfl, rfl, a1, a2, by rw [b1.length, b2.length]; exact h.1, fun z => ?_, fun _ z => ?_, fun _ _ p hp => ?_⟩))
    · have := nil b1 z; subst this
      exact q _ _ _ _ h.2 (Sub.refl F) o (D1 k2 e2)
    · have := nil b2 z; subst this
      refine q _ _ _ _ h.2 (Sub.refl F) o ?_
      rw [List.append_nil]
      exact D1 k1 e1
    · obtain ⟨F', s', o', k'⟩ := o.newTup hp (b1.append b2)
      exact q _ _ _ _ h.2 s' o' k'
theorem ev_add (hK : X.K = G.K) (ha : Ev G W X a wa) (hb : Ev G W X b wb) : Ev G W X (.BinOp a .Add b pos) (wOp dAdd wa wb) := ev_bin op_addAll (by rw [hK]; exact snd_add) ha hb
/-! ### whole numbers -/
def dInt (g : Int → Int → Int) (c : Int → Int → Prop) : Op2 := fun x y P => match x, y with
  | .int i, .int j => c i j ∧ P (.d (.int (g i j)))
  | _, _ => False
theorem snd_int {g : Int → Int → Int} {c : Int → Int → Prop} : Snd2 G (rI c fun i j => .int (g i j)) (dInt g c) := by
  intro C hC dk σ H F env r s v u x y Q P o k1 k2 e1 e2 h q
  subst hC
  cases x <;> cases y <;> first | exact h.elim | skip
  exact ⟨_, _, k1.int o e1, k2.int o e2, h.1, q _ _ _ _ h.2 (Sub.refl F) o (Dq.int _)⟩
def dSub : Op2 := fun x y P => match x, y with
  | .int i, .int j => P (.d (.int (i - j)))
  | _, _ => False
theorem snd_sub : Snd2 G (rI0 fun i j => .int (i - j)) dSub := by
  intro C hC dk σ H F env r s v u x y Q P o k1 k2 e1 e2 h q
  subst hC
  cases x <;> cases y <;> first | exact h.elim | skip
  exact ⟨_, _, k1.int o e1, k2.int o e2, q _ _ _ _ h (Sub.refl F) o (Dq.int _)⟩
theorem ev_sub (ha : Ev G W X a wa) (hb : Ev G W X b wb) : Ev G W X (.BinOp a .Sub b pos) (wOp dSub wa wb) := ev_bin op_sub snd_sub ha hb
/-- together few enough bits -/
def MulC (i j : Int) : Prop := IntMulOk i j
def dMul : Op2 := fun x y P => match x, y with
  | .int i, .int j => MulC i j ∧ P (.d (.int (i * j)))
  | .list xs, .int k => -(2 ^ 63) ≤ k ∧ k < 2 ^ 63 ∧ xs.length * k.toNat ≤ sizeLine ∧ P (.nw (.lst (List.replicate k.toNat xs).flatten))
  | .str z, .int k => 0 ≤ k ∧ k ≤ 1000000 ∧ z.length * k.toNat ≤ sizeLine ∧ P (.d (.str (Txt.mul z k)))
  | _, _ => False
def rRepS : R2 := fun x y H Q => ∃ z k, x = .str z ∧ y = .int k ∧ 0 ≤ k ∧ k ≤ 1000000 ∧ z.length * k.toNat ≤ sizeLine ∧ Q (.str (Txt.mul z k)) H
theorem op_repS : OpR X (binaryOp .Mult) rRepS := by
  intro pins s σ H x y v u Q I rx ry h
  obtain ⟨z, k, rfl, rfl, h0, h1, hz, q⟩ := h
  obtain ⟨t, rfl⟩ := rx
  obtain ⟨t', rfl⟩ := ry
  refine SB.mul ⟨?_, fun _ _ => ?_, fun _ _ => ?_⟩ fun t' tk => ⟨.str _, H, I.tok _, ⟨_, rfl⟩, q⟩
  · rw [decide_eq_false (by omega), decide_eq_false (by omega)]; rfl
  · have hk : 0 < k := by omega
    intro hgt
    have h2 : (z.length : Int) * k ≤ 16777216 := by
      have h3 : (k.toNat : Int) = k := Int.toNat_of_nonneg h0
      have h4 : ((z.length * k.toNat : Nat) : Int) ≤ 16777216 := by rw [sizeLine_eq] at hz; omega
      rw [Int.natCast_mul, h3] at h4
      exact h4
    have h5 : (2 ^ 63 - 1 : Int) / k * k ≤ 2 ^ 63 - 1 := Int.ediv_mul_le _ (by omega)
    have h6 : ((2 ^ 63 - 1 : Int) / k + 1) * k ≤ (z.length : Int) * k := Int.mul_le_mul_of_nonneg_right (by omega) h0
    have h7 : (2 ^ 63 - 1 : Int) < ((2 ^ 63 - 1 : Int) / k + 1) * k := Int.lt_ediv_add_one_mul_self _ hk
    omega
  · exact decide_eq_false (by omega)
theorem op_mulC : OpR X (binaryOp .Mult) (rI MulC fun i j => .int (i * j)) := opI fun _ _ _ _ _ _ _ hc q => mul_int q hc
def rMulAll : R2 := fun x y H Q => rI MulC (fun i j => .int (i * j)) x y H Q ∨ rRep x y H Q ∨ rRepS x y H Q
theorem op_mulAll : OpR X (binaryOp .Mult) rMulAll := OpR.or op_mulC (OpR.or op_rep op_repS)
theorem DqAll.rep {K : PySem.W.Frag} {F : Hp} {vs : List V} {ds : List PyData} (h : DqAll K F vs ds) : ∀ k : Nat, DqAll K F (List.replicate k vs).flatten (List.replicate k ds).flatten
  | 0 => .nil
  | k + 1 => by rw [List.replicate_succ, List.replicate_succ, List.flatten_cons, List.flatten_cons]; exact h.append (DqAll.rep h k)
theorem snd_mul : Snd2 G rMulAll dMul := by
  intro C hC dk σ H F env r s v u x y Q P o k1 k2 e1 e2 h q
  subst hC
  cases x <;> cases y <;> first | exact h.elim | skip
  · exact .inl ⟨_, _, k1.int o e1, k2.int o e2, h.1, q _ _ _ _ h.2 (Sub.refl F) o (Dq.int _)⟩
  · exact .inr (.inr ⟨_, _, k1.str o e1, k2.int o e2, h.1, h.2.1, h.2.2.1, q _ _ _ _ h.2.2.2 (Sub.refl F) o (Dq.str _)⟩)
  · obtain ⟨p1, vs1, rfl, a1, b1⟩ := k1.lst o e1
    refine .inr (.inl ⟨p1, _, vs1, rfl, k2.int o e2, a1, h.1, h.2.1, by rw [b1.length]; exact h.2.2.1, fun p hp => ?_⟩)
    exact q _ _ _ _ h.2.2.2 (Sub.refl F) (o.newCell _ hp) (o.newPriv hp (show DqAll C.g.K F _ _ from b1.rep _))
theorem ev_mul (ha : Ev G W X a wa) (hb : Ev G W X b wb) : Ev G W X (.BinOp a .Mult b pos) (wOp dMul wa wb) := ev_bin op_mulAll snd_mul ha hb
/-- a divisor of few enough bits -/
def DivC (i j : Int) : Prop := j ≠ 0 ∧ Builtin.divisionGoesByPylong i j = false
theorem op_divC : OpR X (binaryOp .FloorDiv) (rI DivC fun i j => .int (i.fdiv j)) := opI fun _ _ _ _ _ _ _ hc q => floordiv_int hc.1 q (.inl hc.2)
theorem ev_div (ha : Ev G W X a wa) (hb : Ev G W X b wb) : Ev G W X (.BinOp a .FloorDiv b pos) (wOp (dInt Int.fdiv DivC) wa wb) := ev_bin op_divC snd_int ha hb
theorem ev_mod (ha : Ev G W X a wa) (hb : Ev G W X b wb) : Ev G W X (.BinOp a .Mod b pos) (wOp (dInt Int.fmod fun _ j => j ≠ 0) wa wb) := ev_bin op_modN snd_int ha hb
theorem ev_pow (ha : Ev G W X a wa) (hb : Ev G W X b wb) : Ev G W X (.BinOp a .Pow b pos) (wOp (dInt (fun i j => i ^ j.toNat) CPow) wa wb) := ev_bin op_pow snd_int ha hb

/-! ### comparisons -/
/-- pairs of plain values that are compared whatever they are -/
def scD : PyData → PyData → Bool
  | .none, .none => true
  | .none, .int _ => true
  | .int _, .none => true
  | .none, .bool _ => true
  | .bool _, .none => true
  | .none, .str _ => true
  | .str _, .none => true
  | .int _, .int _ => true
  | .bool _, .bool _ => true
  | .str _, .str _ => true
  | .int _, .str _ => true
  | .str _, .int _ => true
  | .bool _, .str _ => true
  | .str _, .bool _ => true
  | _, _ => false
theorem scD_ok {K : PySem.W.Frag} {F F' : Hp} {v u : V} {x y : PyData} (h : scD x y = true) (k1 : Dq K F v x) (k2 : Dq K F' u y) : scal v u = true ∧ decide (v = u) = PyData.eqv x y := by
  cases k1 <;> cases k2 <;> first
    | (cases h; done)
    | exact ⟨rfl, rfl⟩
    | exact ⟨rfl, dec_int⟩
    | exact ⟨rfl, dec_bl⟩
    | exact ⟨rfl, dec_str⟩
    | exact ⟨rfl, decide_eq_false (fun z => by cases z)⟩
theorem noD_of_shaped {x : PyData} (h : SeqAt.shaped x = true) : x.hasDict = false := PyData.hasDict_of_canLay x (SeqAt.canLay_of_shaped h)
def EqC (x y : PyData) : Prop := scD x y = true ∨ (SeqAt.shaped x = true ∧ SeqAt.shaped y = true)
def dEq : Op2 := fun x y P => EqC x y ∧ P (.d (.bool (PyData.eqv x y)))
def dNe : Op2 := fun x y P => EqC x y ∧ P (.d (.bool (!PyData.eqv x y)))
theorem snd_eq : Snd2 G (fun x y H Q => L2.rEq x y H Q ∨ rEqD G.K x y H Q) dEq := by
  intro C hC dk σ H F env r s v u x y Q P o k1 k2 e1 e2 h q
  subst hC
  rcases h.1 with z | ⟨z1, z2⟩
  · obtain ⟨a, b⟩ := scD_ok z (k1.dp o e1) (k2.dp o e2)
    exact .inl ⟨a, by rw [b]; exact q _ _ _ _ h.2 (Sub.refl F) o (Dq.bl _)⟩
  · exact .inr ⟨x, y, (k1.dp o e1).dp (noD_of_shaped z1), (k2.dp o e2).dp (noD_of_shaped z2), z1, z2, q _ _ _ _ h.2 (Sub.refl F) o (Dq.bl _)⟩
theorem snd_ne : Snd2 G (fun x y H Q => L2.rNe x y H Q ∨ rNeD G.K x y H Q) dNe := by
  intro C hC dk σ H F env r s v u x y Q P o k1 k2 e1 e2 h q
  subst hC
  rcases h.1 with z | ⟨z1, z2⟩
  · obtain ⟨a, b⟩ := scD_ok z (k1.dp o e1) (k2.dp o e2)
    exact .inl ⟨a, by rw [b]; exact q _ _ _ _ h.2 (Sub.refl F) o (Dq.bl _)⟩
  · exact .inr ⟨x, y, (k1.dp o e1).dp (noD_of_shaped z1), (k2.dp o e2).dp (noD_of_shaped z2), z1, z2, q _ _ _ _ h.2 (Sub.refl F) o (Dq.bl _)⟩
def rCmpI (p : Int → Int → Bool) : R2 := rI0 fun i j => .bl (p i j)
def rCmpS (p : Str → Str → Bool) : R2 := fun x y H Q => ∃ i j, x = .str i ∧ y = .str j ∧ Q (.bl (p i j)) H
def dCmp (p : Int → Int → Bool) (q : Str → Str → Bool) : Op2 := fun x y P => match x, y with
  | .int i, .int j => P (.d (.bool (p i j)))
  | .str i, .str j => P (.d (.bool (q i j)))
  | _, _ => False
theorem snd_cmp {p : Int → Int → Bool} {p' : Str → Str → Bool} : Snd2 G (fun x y H Q => rCmpI p x y H Q ∨ rCmpS p' x y H Q) (dCmp p p') := by
  intro C hC dk σ H F env r s v u x y Q P o k1 k2 e1 e2 h q
  subst hC
  cases x <;> cases y <;> first | exact h.elim | skip
  · exact .inl ⟨_, _, k1.int o e1, k2.int o e2, q _ _ _ _ h (Sub.refl F) o (Dq.bl _)⟩
  · exact .inr ⟨_, _, k1.str o e1, k2.str o e2, q _ _ _ _ h (Sub.refl F) o (Dq.bl _)⟩
abbrev dLt : Op2 := dCmp (fun i j => decide (i < j)) fun i j => decide (i.cps.toList < j.cps.toList)
abbrev dLe : Op2 := dCmp (fun i j => decide (i ≤ j)) fun i j => !decide (j.cps.toList < i.cps.toList)
abbrev dGt : Op2 := dCmp (fun i j => decide (j < i)) fun i j => decide (j.cps.toList < i.cps.toList)
abbrev dGe : Op2 := dCmp (fun i j => decide (j ≤ i)) fun i j => !decide (i.cps.toList < j.cps.toList)
/-- a comparison by its rule -/
structure CmpOk (G : DG) (X : Cx) (op : CmpOp) (o2 : Op2) : Prop where
  ex : ∃ rr : R2, OpR X (compareOp op) rr ∧ Snd2 G rr o2
theorem cm_lt : CmpOk G X .Lt dLt := ⟨_, OpR.or op_lt op_lt_str, snd_cmp⟩
theorem cm_le : CmpOk G X .LtE dLe := ⟨_, OpR.or op_le op_le_str, snd_cmp⟩
theorem cm_gt : CmpOk G X .Gt dGt := ⟨_, OpR.or op_gt op_gt_str, snd_cmp⟩
theorem cm_ge : CmpOk G X .GtE dGe := ⟨_, OpR.or op_ge op_ge_str, snd_cmp⟩
/-- the base heap holds sys.modules -/
def SysB (base : Heap) : Prop := ∃ o, base.get? sysModules = some o
def GOk (A : Around) (base : Heap) : Prop := A.guards = some [] ∧ SysB base
/-- what a context is: the data context's K, room for what is deep -/
structure Ctx0 (G : DG) (X : Cx) : Prop where
  K : X.K = G.K
  mg : X.mg = G.mg
  un : X.A.units + 65 < cLine
  g : X.A.guards = some []
  sys : SysB X.base
theorem cm_eq (c : Ctx0 G X) : CmpOk G X .Eq dEq := ⟨_, OpR.or op_eq (by have := op_eqD (X := X) (by have := c.un; omega); rw [c.K] at this; exact this), snd_eq⟩
theorem cm_ne (c : Ctx0 G X) : CmpOk G X .NotEq dNe := ⟨_, OpR.or op_ne (by have := op_neD (X := X) (by have := c.un; omega); rw [c.K] at this; exact this), snd_ne⟩
/-- x in a list of anything; in a text -/
def dIn (neg : Bool) : Op2 := fun x y P => match y with
  | .list ds => SeqAt.shaped x = true ∧ SeqAt.shaped (.list ds) = true ∧ P (.d (.bool (neg ^^ (ds.any fun z => PyData.eqv z x))))
  | .str b => (match x with
    | .str a => P (.d (.bool (neg ^^ (!(Builtin.Str.occurrences b a 0 b.length 1).isEmpty))))
    | _ => False)
  | _ => False
theorem snd_in : Snd2 G (fun x y H Q => rInD G.K x y H Q ∨ (∃ i j, x = .str i ∧ y = .str j ∧ Q (.bl (!(Builtin.Str.occurrences j i 0 j.length 1).isEmpty)) H)) (dIn false) := by
  intro C hC dk σ H F env r s v u x y Q P o k1 k2 e1 e2 h q
  subst hC
  cases y <;> first | exact h.elim | skip
  · cases x <;> first | exact h.elim | skip
    refine .inr ⟨_, _, k1.str o e1, k2.str o e2, ?_⟩
    have h' : P (.d (.bool (false ^^ _))) := h
    rw [Bool.false_xor] at h'
    exact q _ _ _ _ h' (Sub.refl F) o (Dq.bl _)
  · refine .inl ⟨x, _, (k1.dp o e1).dp (noD_of_shaped h.1), (k2.dp o e2).dp (noD_of_shaped h.2.1), h.1, h.2.1, ?_⟩
    have h' := h.2.2
    rw [Bool.false_xor] at h'
    exact q _ _ _ _ h' (Sub.refl F) o (Dq.bl _)
theorem snd_notin : Snd2 G (fun x y H Q => rNotInD G.K x y H Q ∨ (∃ i j, x = .str i ∧ y = .str j ∧ Q (.bl (!(!(Builtin.Str.occurrences j i 0 j.length 1).isEmpty))) H)) (dIn true) := by
  intro C hC dk σ H F env r s v u x y Q P o k1 k2 e1 e2 h q
  subst hC
  cases y <;> first | exact h.elim | skip
  · cases x <;> first | exact h.elim | skip
    refine .inr ⟨_, _, k1.str o e1, k2.str o e2, ?_⟩
    have h' : P (.d (.bool (true ^^ _))) := h
    rw [Bool.true_xor] at h'
    exact q _ _ _ _ h' (Sub.refl F) o (Dq.bl _)
  · refine .inl ⟨x, _, (k1.dp o e1).dp (noD_of_shaped h.1), (k2.dp o e2).dp (noD_of_shaped h.2.1), h.1, h.2.1, ?_⟩
    have h' := h.2.2
    rw [Bool.true_xor] at h'
    exact q _ _ _ _ h' (Sub.refl F) o (Dq.bl _)
theorem cm_in (c : Ctx0 G X) : CmpOk G X .In (dIn false) := ⟨_, OpR.or (by have := op_inD (X := X) c.un; rw [c.K] at this; exact this) op_in_str, snd_in⟩
theorem cm_notin (c : Ctx0 G X) : CmpOk G X .NotIn (dIn true) := ⟨_, OpR.or (by have := op_notInD (X := X) c.un; rw [c.K] at this; exact this) op_notin_str, snd_notin⟩
def isNone : PyData → Bool
  | .none => true
  | _ => false
/-- is None -/
def dIs (neg : Bool) : Op2 := fun x y P => match y with
  | .none => P (.d (.bool (neg ^^ isNone x)))
  | _ => False
theorem non_iff {K : PySem.W.Frag} {F : Hp} {v : V} {x : PyData} (h : Dq K F v x) : decide (v = .non) = isNone x := by cases h <;> rfl
theorem snd_is : Snd2 G (fun x y H Q => y = .non ∧ Q (.bl (decide (x = .non))) H) (dIs false) := by
  intro C hC dk σ H F env r s v u x y Q P o k1 k2 e1 e2 h q
  subst hC
  cases y <;> first | exact h.elim | skip
  refine ⟨k2.non o e2, ?_⟩
  rw [non_iff (k1.dp o e1)]
  have h' : P (.d (.bool (false ^^ _))) := h
  rw [Bool.false_xor] at h'
  exact q _ _ _ _ h' (Sub.refl F) o (Dq.bl _)
theorem snd_isnot : Snd2 G (fun x y H Q => y = .non ∧ Q (.bl (!decide (x = .non))) H) (dIs true) := by
  intro C hC dk σ H F env r s v u x y Q P o k1 k2 e1 e2 h q
  subst hC
  cases y <;> first | exact h.elim | skip
  refine ⟨k2.non o e2, ?_⟩
  rw [non_iff (k1.dp o e1)]
  have h' : P (.d (.bool (true ^^ _))) := h
  rw [Bool.true_xor] at h'
  exact q _ _ _ _ h' (Sub.refl F) o (Dq.bl _)
theorem cm_is : CmpOk G X .Is (dIs false) := ⟨_, op_isN, snd_is⟩
theorem cm_isnot : CmpOk G X .IsNot (dIs true) := ⟨_, op_notN, snd_isnot⟩
theorem ev_cm {op : CmpOp} {o2 : Op2} (hc : CmpOk G X op o2) (ha : Ev G W X a wa) (hb : Ev G W X b wb) (hm : behindInMarks op b = false := by first | exact nomark _ | rfl) : Ev G W X (.Compare a [op] [b] pos) (wOp o2 wa wb) :=
  let ⟨_, h1, h2⟩ := hc.ex
  ev_cmp h1 h2 ha hb hm

/-! ### one thing -/
abbrev Op1 := PyData → (R → Prop) → Prop
def wOp1 (op : Op1) (wa : WE) : WE := fun env P Ex => wa env (fun r e => match r.toD with
  | some x => op x fun t => P t e
  | _ => False) Ex
def Snd1 (G : DG) (rr : V → Hp → VK → Prop) (op : Op1) : Prop := ∀ (C : DC), C.g = G → ∀ dk σ H F env r v x Q (P : R → Prop), Ok C dk σ H F env → ROk C dk σ H F env r v → r.toD = some x → op x P →
  (∀ t w H' F', P t → Sub F F' → Ok C dk σ H' F' env → ROk C dk σ H' F' env t w → Q w H') → rr v H Q
theorem L.one {C : DC} {wa : WE} {rr : V → Hp → VK → Prop} {op : Op1} (hs : Snd1 C.g rr op) {dk : Dk} {σ : L2.St} {H F : Hp} {env : En} {P : R → En → Prop} {Ex : Exn → En → Prop} {Q : VK} (o : Ok C dk σ H F env) (h : wOp1 op wa env P Ex) (f : Fin C W dk σ F env P Ex Q) :
    L C.g W wa σ H (fun x H1 => rr x H1 Q) := by
  refine L.step (g := fun r e' P Ex => match r.toD with
    | some x => op x fun t => P t e'
    | _ => False) o h f fun r v H1 F1 env1 o1 k1 s1 l1 h1 f1 => ?_
  cases er : r.toD with
  | none => rw [er] at h1; exact h1.elim
  | some x =>
    rw [er] at h1
    exact hs _ rfl _ _ _ _ _ _ _ _ _ _ o1 k1 er h1 fun t w H' F' p s' o' k' => f1.1 _ _ _ _ _ p s' (EnLe.refl _) o' k'
def dNeg : Op1 := fun x P => match x with
  | .int i => P (.d (.int (-i)))
  | _ => False
theorem snd_neg : Snd1 G (rU fun i => .int (-i)) dNeg := by
  intro C hC dk σ H F env r v x Q P o k e h q
  subst hC
  cases x <;> first | exact h.elim | skip
  exact ⟨_, k.int o e, q _ _ _ _ h (Sub.refl F) o (Dq.int _)⟩
theorem ev_neg (ha : Ev G W X a wa) : Ev G W X (.UnaryOp .USub a pos) (wOp1 dNeg wa) := Ev.of (pe_un un_neg ha.pe) fun _ e _ _ _ _ _ _ _ _ o h f => by subst e; exact L.one snd_neg o h f

/-! ### items -/
theorem ix_dq {K : PySem.W.Frag} {F : Hp} {vs : List V} {ds : List PyData} {i : Int} {x : PyData} (h : DqAll K F vs ds) (e : atI ds i = some x) : ∃ v, atI vs i = some v ∧ Dq K F v x := by
  unfold atI at *
  rw [h.length]
  cases q : ixN ds.length i with
  | none => rw [q] at e; cases e
  | some j =>
    rw [q] at e
    exact h.getD e
/-- what a dict holds at a key that is an int or a text -/
def kEq : PyData → Key → Bool
  | .int i, .inl j => i == j
  | .str x, .inr y => x == y
  | _, _ => false
def isK : PyData → Bool
  | .int _ => true
  | .str _ => true
  | _ => false
def dgetK : List (PyData × PyData) → Key → Option PyData
  | [], _ => none
  | (a, x) :: r, k => if isK a = true then (if kEq a k = true then some x else dgetK r k) else none
theorem kEq_kD {a k : Key} : kEq (kD a) k = decide (a = k) := by
  cases a <;> cases k
  · rename_i i j
    show (i == j) = _
    by_cases h : i = j
    · subst h; simp
    · rw [decide_eq_false (fun z => h (by cases z; rfl))]; simpa using h
  · exact (decide_eq_false (fun z => by cases z)).symm
  · exact (decide_eq_false (fun z => by cases z)).symm
  · rename_i i j
    show (i == j) = _
    by_cases h : i = j
    · subst h; simp
    · rw [decide_eq_false (fun z => h (by cases z; rfl))]; simpa using h
theorem isK_kD {a : Key} : isK (kD a) = true := by cases a <;> rfl
theorem dgetK_kvs {K : PySem.W.Frag} {F : Hp} {k : Key} {y : PyData} : ∀ {kvs : List (Key × V)} {xs : List PyData}, DqAll K F (kvs.map (·.2)) xs → dgetK ((kvs.map fun p => kD p.1).zip xs) k = some y → ∃ v, valV kvs k = some v ∧ Dq K F v y
  | [], xs, _, e => by cases e
  | (a, v) :: kvs, [], h, _ => by cases h
  | (a, v) :: kvs, x :: xs, h, e => by
    cases h with
    | cons h1 h2 =>
      have e' : (if isK (kD a) = true then (if kEq (kD a) k = true then some x else dgetK ((kvs.map fun p => kD p.1).zip xs) k) else none) = some y := e
      rw [if_pos isK_kD, kEq_kD] at e'
      unfold valV
      rw [List.find?_cons]
      by_cases z : a = k
      · rw [if_pos (decide_eq_true z)] at e'
        cases e'
        refine ⟨v, ?_, h1⟩
        show (match (motive := Bool → Option (Key × V)) decide (a = k) with
          | true => some (a, v)
          | false => kvs.find? fun kv => decide (kv.1 = k)).map (fun q : Key × V => q.2) = _
        rw [decide_eq_true z]
        rfl
      · rw [if_neg (by rw [decide_eq_false z]; simp)] at e'
        obtain ⟨w, g1, g2⟩ := dgetK_kvs h2 e'
        refine ⟨w, ?_, g2⟩
        show (match (motive := Bool → Option (Key × V)) decide (a = k) with
          | true => some (a, v)
          | false => kvs.find? fun kv => decide (kv.1 = k)).map (fun q : Key × V => q.2) = _
        rw [decide_eq_false z]
        exact g1
theorem dgetK_ins {c : Str} {ks : List Str} {xs : List PyData} {k : Key} : dgetK (insD c ks xs) k = none := rfl
theorem dgetK_exc {a dd : Addr} {ks : List Str} {xs : List PyData} {k : Key} : dgetK (excD a dd ks xs) k = none := rfl
theorem dgetK_dct {k : Key} {kvs : List (List Key × V)} {xs : List PyData} : dgetK ((kvs.map fun p => tD p.1).zip xs) k = none := by
  cases kvs with
  | nil => rfl
  | cons a r => cases xs <;> rfl
/-- an item of a dict, whoever holds it -/
theorem ROk.dget {C : DC} {dk : Dk} {σ : L2.St} {H F : Hp} {env : En} {r : R} {v : V} {ds : List (PyData × PyData)} {k : Key} {y : PyData} (o : Ok C dk σ H F env) (h : ROk C dk σ H F env r v) (e : r.toD = some (.dict ds)) (g : dgetK ds k = some y) :
    ∃ a w, v = .ref a ∧ DGet H a (kV k) (some w) ∧ Dq C.g.K F w y := by
  have P : ∀ {p c}, Priv C dk H F p c → c.toD = some (.dict ds) → ∃ w, DGet H p (kV k) (some w) ∧ Dq C.g.K F w y := fun {p c} q e => by
    obtain ⟨ho, e1, k1⟩ := q.at_
    cases c with
    | lst xs => cases e
    | dic ks xs =>
      cases e
      cases ho <;> first | exact False.elim k1 | skip
      rename_i kvs
      obtain ⟨rfl, k2⟩ := (k1 : kvs.map (·.1) = ks ∧ DqAll C.g.K F (kvs.map (·.2)) xs)
      rw [List.map_map] at g
      obtain ⟨w, g1, g2⟩ := dgetK_kvs k2 g
      exact ⟨w, by rw [← g1]; exact DGet.k e1, g2⟩
    | ins m c ks xs => cases e; rw [dgetK_ins] at g; cases g
  have D : ∀ {z : V}, Dq C.g.K F z (.dict ds) → ∃ a w, z = .ref a ∧ DGet H a (kV k) (some w) ∧ Dq C.g.K F w y := fun {z} q => by
    cases q with
    | dic e1 b e2 =>
      subst e2
      obtain ⟨w, g1, g2⟩ := dgetK_kvs b g
      exact ⟨_, w, rfl, by rw [← g1]; exact DGet.k (o.sub _ _ e1), g2⟩
    | dct n e1 b e2 => subst e2; rw [dgetK_dct] at g; cases g
    | ins e1 c b e2 => subst e2; rw [dgetK_ins] at g; cases g
    | exc e1 b e2 => subst e2; rw [dgetK_exc] at g; cases g
  cases r with
  | d y => cases e; exact D h
  | nw c =>
    obtain ⟨p, rfl, q, _⟩ := h
    obtain ⟨w, g1, g2⟩ := P q e
    exact ⟨p, w, rfl, g1, g2⟩
  | bw i c =>
    obtain ⟨h1 | ⟨z, e1, h1⟩, h2⟩ := h
    · obtain ⟨p, q, q2⟩ := o.slot _ _ h1
      rw [h2] at q; cases q
      obtain ⟨w, g1, g2⟩ := P q2 e
      exact ⟨p, w, rfl, g1, g2⟩
    · have e' : c.toD = some (.dict ds) := e
      rw [e'] at e1; cases e1
      obtain ⟨z, q, q2⟩ := o.slot _ _ h1
      rw [h2] at q; cases q
      exact D q2
  | deck => cases e
  | opq z => cases e
def dIx : Op2 := fun x y P => match x, y with
  | .list ds, .int i => (match atI ds i with
    | some z => P (.d z)
    | none => False)
  | .tuple ds, .int i => (match atI ds i with
    | some z => P (.d z)
    | none => False)
  | .str z, .int i => (match atI z.cps.toList i with
    | some c => z.length ≤ sizeLine ∧ P (.d (.str ⟨#[c]⟩))
    | none => False)
  | .dict ds, .int i => (match dgetK ds (.inl i) with
    | some z => P (.d z)
    | none => False)
  | .dict ds, .str i => (match dgetK ds (.inr i) with
    | some z => P (.d z)
    | none => False)
  | _, _ => False
def rIxDG : R2 := fun x y H Q => ∃ a v, x = .ref a ∧ DGet H a y (some v) ∧ Q v H
theorem ix_dget (hu : X.A.units + 1 < cLine) : IxR X rIxDG := by
  intro value slice pins s σ H x y v u Q I rx ry h hs
  obtain ⟨a, z, rfl, g, q⟩ := h
  obtain rfl : v = Value.ref a := rx
  exact tail_any (dict_typeIs I g) PySem.F.slot_dict_getitem.lookup (d_getItem hu I g ry fun w' s' I' rw' => ⟨z, H, I', rw', q⟩) hs
theorem snd_ix : Snd2 G (fun x y H Q => rIx G.K x y H Q ∨ rIxDG x y H Q) dIx := by
  intro C hC dk σ H F env r s v u x y Q P o k1 k2 e1 e2 h q
  subst hC
  cases x <;> cases y <;> first | exact h.elim | skip
  · rename_i z i
    have h' : (match atI z.cps.toList i with
      | some c => z.length ≤ sizeLine ∧ P (.d (.str ⟨#[c]⟩))
      | none => False) := h
    cases e : atI z.cps.toList i with
    | none => rw [e] at h'; exact h'.elim
    | some c =>
      rw [e] at h'
      exact .inl (.inr (.inr ⟨z, i, c, k1.str o e1, k2.int o e2, h'.1, e, q _ _ _ _ h'.2 (Sub.refl F) o (Dq.str _)⟩))
  · rename_i ds i
    obtain ⟨p1, vs1, rfl, a1, b1⟩ := k1.lst o e1
    have h' : (match atI ds i with
      | some z => P (.d z)
      | none => False) := h
    cases e : atI ds i with
    | none => rw [e] at h'; exact h'.elim
    | some z =>
      rw [e] at h'
      obtain ⟨v, g, k⟩ := ix_dq b1 e
      exact .inl (.inl ⟨p1, vs1, i, v, rfl, k2.int o e2, SqL.of a1, g, q _ _ _ _ h' (Sub.refl F) o k⟩)
  · rename_i ds i
    obtain ⟨p1, vs1, rfl, a1, b1⟩ := k1.tup o e1
    have h' : (match atI ds i with
      | some z => P (.d z)
      | none => False) := h
    cases e : atI ds i with
    | none => rw [e] at h'; exact h'.elim
    | some z =>
      rw [e] at h'
      obtain ⟨v, g, k⟩ := ix_dq b1 e
      exact .inl (.inr (.inl ⟨p1, vs1, i, v, rfl, k2.int o e2, a1, g, q _ _ _ _ h' (Sub.refl F) o k⟩))
  · rename_i ds i
    have h' : (match dgetK ds (.inl i) with
      | some z => P (.d z)
      | none => False) := h
    cases e : dgetK ds (.inl i) with
    | none => rw [e] at h'; exact h'.elim
    | some z =>
      rw [e] at h'
      obtain ⟨a, w, rfl, g1, g2⟩ := k1.dget o e1 e
      exact .inr ⟨a, w, rfl, by rw [k2.int o e2]; exact g1, q _ _ _ _ h' (Sub.refl F) o g2⟩
  · rename_i ds i
    have h' : (match dgetK ds (.inr i) with
      | some z => P (.d z)
      | none => False) := h
    cases e : dgetK ds (.inr i) with
    | none => rw [e] at h'; exact h'.elim
    | some z =>
      rw [e] at h'
      obtain ⟨a, w, rfl, g1, g2⟩ := k1.dget o e1 e
      exact .inr ⟨a, w, rfl, by rw [k2.str o e2]; exact g1, q _ _ _ _ h' (Sub.refl F) o g2⟩
theorem ev_ix (c : Ctx0 G X) (ha : Ev G W X a wa) (hb : Ev G W X b wb) (hx : PlainIx b := by intro _ _; rfl) : Ev G W X (.Subscript a b pos) (wOp dIx wa wb) :=
  ev_ixR (by have := IxR.or (ix_seq (X := X)) (ix_dget (X := X) (by have := c.un; omega)); rw [c.K] at this; exact this) snd_ix ha hb hx
end
end Dl

namespace Dl
open PySem PySem.Spec PyProof.Rows L2

/-! ### several values -/
def ROks (C : DC) (dk : Dk) (σ : L2.St) (H F : Hp) (env : En) : List R → List V → Prop
  | [], [] => True
  | r :: rs, v :: vs => (r.still ∧ ROk C dk σ H F env r v) ∧ ROks C dk σ H F env rs vs
  | _, _ => False
def toDs : List R → Option (List PyData)
  | [] => some []
  | r :: rs => match r.toD, toDs rs with
    | some x, some xs => some (x :: xs)
    | _, _ => none
def holdAll : List R → En → En
  | [], e => e
  | r :: rs, e => holdAll rs (r.hold e)
abbrev WA := En → (List R → En → Prop) → (Exn → En → Prop) → Prop
def wA : List WE → WA
  | [] => fun env P _ => P [] env
  | w :: ws => fun env P Ex => w env (fun r e => wA ws e (fun rs e' => P (r.calm :: rs) e') Ex) Ex
def LA (G : DG) (W : WX) (ws : List WE) : TA := fun σ H Q => ∃ (C : DC) (dk : Dk) (F : Hp) (env : En) (P : List R → En → Prop) (Ex : Exn → En → Prop), C.g = G ∧ Ok C dk σ H F env ∧ wA ws env P Ex ∧
  (∀ rs env' vs H' F', P rs env' → rs.length = ws.length → Sub F F' → EnLe env env' → Ok C dk σ H' F' env' → ROks C dk σ H' F' env' rs vs → Q vs H') ∧
  (∀ x env' cls d H' F', Ex x env' → Sub F F' → EnLe env env' → Ok C dk σ H' F' env' → XOk C F' H' x cls d → W cls d σ H')
structure EvA (G : DG) (W : WX) (X : Cx) (es : List Expr) (ws : List WE) : Prop where
  pa : PA X es (LA G W ws)
theorem PA.imp {X : Cx} {es : List Expr} {t u : TA} (h : PA X es t) (i : ∀ σ H Q, u σ H Q → t σ H Q) : PA X es u := ⟨fun pos pins s σ H Q I q => h.run pos pins s σ H Q I (i σ H Q q)⟩
section
variable {C : DC} {dk : Dk} {σ : L2.St} {H H' F F' : Hp} {env env' : En} {rs : List R} {vs : List V} {xs : List PyData}
theorem ROks.keep : ∀ {rs : List R} {vs : List V}, ROks C dk σ H F env rs vs → Sub F F' → EnLe env env' → ROks C dk σ H' F' env' rs vs
  | [], [], _, _, _ => trivial
  | r :: rs, v :: vs, h, s, l => ⟨⟨h.1.1, h.1.2.keep h.1.1 s l⟩, ROks.keep h.2 s l⟩
  | [], _ :: _, h, _, _ => h.elim
  | _ :: _, [], h, _, _ => h.elim
theorem ROks.dp (o : Ok C dk σ H F env) : ∀ {rs : List R} {vs : List V} {xs : List PyData}, ROks C dk σ H F env rs vs → toDs rs = some xs → DqAll C.g.K H vs xs
  | [], [], xs, _, e => by cases e; exact .nil
  | r :: rs, v :: vs, xs, h, e => by
    unfold toDs at e
    cases e1 : r.toD with
    | none => rw [e1] at e; cases e
    | some x =>
      cases e2 : toDs rs with
      | none => rw [e1, e2] at e; cases e
      | some ys =>
        rw [e1, e2] at e; cases e
        exact .cons (h.1.2.dp o e1) (ROks.dp o h.2 e2)
  | [], _ :: _, _, h, _ => h.elim
  | _ :: _, [], _, h, _ => h.elim
theorem toDs_cons {r : R} {rs : List R} (h : toDs (r :: rs) = some xs) : ∃ x ys, r.toD = some x ∧ toDs rs = some ys ∧ xs = x :: ys := by
  unfold toDs at h
  cases e1 : r.toD with
  | none => rw [e1] at h; cases h
  | some x =>
    cases e2 : toDs rs with
    | none => rw [e1, e2] at h; cases h
    | some ys => rw [e1, e2] at h; cases h; exact ⟨x, ys, rfl, rfl, rfl⟩
theorem toDs_len : ∀ {rs : List R} {xs : List PyData}, toDs rs = some xs → rs.length = xs.length
  | [], _, e => by cases e; rfl
  | r :: rs, xs, e => by
    obtain ⟨x, ys, _, e2, rfl⟩ := toDs_cons e
    exact congrArg Nat.succ (toDs_len e2)
theorem ROks.held : ∀ {rs : List R} {vs : List V} {xs : List PyData} {F : Hp} {env : En}, Ok C dk σ H F env → ROks C dk σ H F env rs vs → toDs rs = some xs →
    ∃ F', Sub F F' ∧ Ok C dk σ H F' (holdAll rs env) ∧ EnLe env (holdAll rs env) ∧ DqAll C.g.K F' vs xs
  | [], [], xs, F, env, o, _, e => by cases e; exact ⟨F, Sub.refl F, o, EnLe.refl _, .nil⟩
  | r :: rs, v :: vs, xs, F, env, o, h, e => by
    obtain ⟨x, ys, e1, e2, rfl⟩ := toDs_cons e
    obtain ⟨F1, s1, o1, l1, k1⟩ := ROk.held o h.1.2 e1
    obtain ⟨F2, s2, o2, l2, k2⟩ := ROks.held o1 (h.2.keep s1 l1) e2
    exact ⟨F2, s1.trans s2, o2, l1.trans l2, .cons (k1.mono s2) k2⟩
  | [], _ :: _, _, _, _, _, h, _ => h.elim
  | _ :: _, [], _, _, _, _, h, _ => h.elim
end
section
variable {G : DG} {W : WX} {X : Cx}
theorem eva_nil : EvA G W X [] [] := ⟨PA.imp pa_nil fun σ H Q h => by
  obtain ⟨C, dk, F, env, P, Ex, e, o, h1, f1, f2⟩ := h
  exact f1 _ _ _ _ _ h1 rfl (Sub.refl F) (EnLe.refl _) o trivial⟩
theorem eva_cons {e : Expr} {es : List Expr} {w : WE} {ws : List WE} (h : Ev G W X e w) (hr : EvA G W X es ws) (hs : starEach (e :: es) X.env = (false, eval e X.env) :: starEach es X.env := by rfl) : EvA G W X (e :: es) (w :: ws) := by
  refine ⟨PA.imp (pa_cons h.pe hr.pa hs) fun σ H Q q => ?_⟩
  obtain ⟨C, dk, F, env, P, Ex, rfl, o, h1, f1, f2⟩ := q
  refine ⟨C, dk, F, env, fun r e => wA ws e (fun rs e' => P (r.calm :: rs) e') Ex, Ex, rfl, o, h1, fun r env1 v H1 F1 p s1 l1 o1 k1 => ?_, f2⟩
  obtain ⟨F2, s2, o2, k2, st⟩ := k1.calmed o1
  refine ⟨C, dk, F2, env1, fun rs e' => P (r.calm :: rs) e', Ex, rfl, o2, p, fun rs env3 vs H3 F3 p3 n3 s3 l3 o3 k3 => ?_, fun x env' cls d H' F' p' s' l' o' k' => f2 x env' cls d H' F' p' ((s1.trans s2).trans s') (l1.trans l') o' k'⟩
  exact f1 _ _ _ _ _ p3 (congrArg Nat.succ n3) ((s1.trans s2).trans s3) (l1.trans l3) o3 ⟨⟨st, k2.keep st s3 l3⟩, k3⟩
/-- from a list of arguments on -/
theorem L.args {C : DC} {ws : List WE} {g : List R → WE} {dk : Dk} {σ : L2.St} {H F : Hp} {env : En} {P : R → En → Prop} {Ex : Exn → En → Prop} {Q : VK} {Q' : List V → Hp → Prop} (o : Ok C dk σ H F env)
    (h : wA ws env (fun rs e => g rs e P Ex) Ex) (f : Fin C W dk σ F env P Ex Q)
    (k : ∀ rs vs H1 F1 env1, rs.length = ws.length → Ok C dk σ H1 F1 env1 → ROks C dk σ H1 F1 env1 rs vs → g rs env1 P Ex → Fin C W dk σ F1 env1 P Ex Q → Q' vs H1) : LA C.g W ws σ H Q' :=
  ⟨C, dk, F, env, _, _, rfl, o, h, fun rs e vs H' F' p n s l o' q => k rs vs H' F' e n o' q p (f.le s l), fun x e c d H' F' p s l o' q => f.2 x e c d H' F' p s l o' q trivial⟩

/-! ### displays -/
def wTup (ws : List WE) : WE := fun env P Ex => wA ws env (fun rs e => match toDs rs with
  | some xs => P (.d (.tuple xs)) (holdAll rs e)
  | none => False) Ex
def wLst (ws : List WE) : WE := fun env P Ex => wA ws env (fun rs e => match toDs rs with
  | some xs => P (.nw (.lst xs)) (holdAll rs e)
  | none => False) Ex
theorem ev_tup {es : List Expr} {ws : List WE} {x1 pos} (h : EvA G W X es ws) (hle : ws.length ≤ 1000 := by exact Nat.le_of_ble_eq_true rfl) : Ev G W X (.Tuple es x1 pos) (wTup ws) := by
  refine Ev.of (pe_tup h.pa) fun C hC dk σ H F env P Ex Q o hw f => ?_
  subst hC
  refine L.args (g := fun rs e P _ => match toDs rs with
    | some xs => P (.d (.tuple xs)) (holdAll rs e)
    | none => False) o (by assumption) f fun rs vs H1 F1 env1 n1 o1 k1 h1 f1 => ?_
  cases e : toDs rs with
  | none => rw [e] at h1; exact h1.elim
  | some xs =>
    rw [e] at h1
    have h1' : P (.d (.tuple xs)) (holdAll rs env1) := h1
    obtain ⟨F2, s2, o2, l2, k2⟩ := k1.held o1 e
    refine ⟨by rw [k2.length, ← toDs_len e, n1]; exact Nat.le_trans hle (by decide), fun p hp => ?_⟩
    obtain ⟨F3, s3, o3, k3⟩ := o2.newTup hp k2
    exact f1.1 _ _ _ _ _ h1' (s2.trans s3) l2 o3 k3
theorem ev_lst {es : List Expr} {ws : List WE} {pos} (h : EvA G W X es ws) (hle : ws.length ≤ 1000 := by exact Nat.le_of_ble_eq_true rfl) : Ev G W X (.List es pos) (wLst ws) := by
  refine Ev.of (pe_lst h.pa) fun C hC dk σ H F env P Ex Q o hw f => ?_
  subst hC
  refine L.args (g := fun rs e P _ => match toDs rs with
    | some xs => P (.nw (.lst xs)) (holdAll rs e)
    | none => False) o (by assumption) f fun rs vs H1 F1 env1 n1 o1 k1 h1 f1 => ?_
  cases e : toDs rs with
  | none => rw [e] at h1; exact h1.elim
  | some xs =>
    rw [e] at h1
    have h1' : P (.nw (.lst xs)) (holdAll rs env1) := h1
    obtain ⟨F2, s2, o2, l2, k2⟩ := k1.held o1 e
    refine ⟨by rw [k2.length, ← toDs_len e, n1]; exact Nat.le_trans hle (by decide), fun p hp => ?_⟩
    exact f1.1 _ _ _ _ _ h1' s2 l2 (o2.newCell _ hp) (o2.newPriv hp k2)

/-! ### built-ins -/
abbrev OpN := List PyData → (R → Prop) → Prop
def wB (op : OpN) (ws : List WE) : WE := fun env P Ex => wA ws env (fun rs e => match toDs rs with
  | some xs => op xs fun t => P t e
  | none => False) Ex
def SndN (G : DG) (rr : List V → Hp → VK → Prop) (op : OpN) : Prop := ∀ (C : DC), C.g = G → ∀ dk σ H F env rs vs xs Q (P : R → Prop), Ok C dk σ H F env → ROks C dk σ H F env rs vs → toDs rs = some xs → op xs P →
  (∀ t w H' F', P t → Sub F F' → Ok C dk σ H' F' env → ROk C dk σ H' F' env t w → Q w H') → rr vs H Q
theorem L.many {C : DC} {ws : List WE} {rr : List V → Hp → VK → Prop} {op : OpN} (hs : SndN C.g rr op) {dk : Dk} {σ : L2.St} {H F : Hp} {env : En} {P : R → En → Prop} {Ex : Exn → En → Prop} {Q : VK} (o : Ok C dk σ H F env) (h : wB op ws env P Ex) (f : Fin C W dk σ F env P Ex Q) :
    LA C.g W ws σ H (fun vs H1 => rr vs H1 Q) := by
  refine L.args (g := fun rs e P _ => match toDs rs with
    | some xs => op xs fun t => P t e
    | none => False) o (by assumption) f fun rs vs H1 F1 env1 n1 o1 k1 h1 f1 => ?_
  cases e : toDs rs with
  | none => rw [e] at h1; exact h1.elim
  | some xs =>
    rw [e] at h1
    exact hs _ rfl _ _ _ _ _ _ _ _ _ _ o1 k1 e h1 fun t w H' F' p s' o' k' => f1.1 _ _ _ _ _ p s' (EnLe.refl _) o' k'
variable {x : Str} {p pos : Pos} {e : Expr} {es : List Expr} {ws : List WE} {id T : String} {rr : List V → Hp → VK → Prop} {op : OpN}
theorem ev_callB (hc : CallR X (.builtin id) rr) (hs : SndN G rr op) (hm : X.mg x = none) (hv : bootBuiltins x = some (.builtin id)) (ha : EvA G W X (e :: es) ws) (hg : Gl X x := by rfl) (hn : x ≠ "__name__" := by decide) (hdb : (x == ("__debug__" : Str)) = false := by decide)
    (he : starEach (e :: es) X.env = (false, eval e X.env) :: starEach es X.env := by rfl) (hpl : (backTo pos (starEach es X.env)).any (·.1) = false := by rfl) : Ev G W X (.Call (.Name x p) (e :: es) [] pos) (wB op ws) :=
  Ev.of (pe_callB hc hg hm hv ha.pa hn hdb he hpl) fun C hC dk σ H F env P Ex Q o h f => by subst hC; exact L.many hs o h f
theorem ev_callTy (hc : CallR X (.type T) rr) (hs : SndN G rr op) (hm : X.mg x = none) (hv : bootBuiltins x = some (.type T)) (ha : EvA G W X (e :: es) ws) (hg : Gl X x := by rfl) (hn : x ≠ "__name__" := by decide) (hdb : (x == ("__debug__" : Str)) = false := by decide)
    (he : starEach (e :: es) X.env = (false, eval e X.env) :: starEach es X.env := by rfl) (hpl : (backTo pos (starEach es X.env)).any (·.1) = false := by rfl) : Ev G W X (.Call (.Name x p) (e :: es) [] pos) (wB op ws) :=
  Ev.of (pe_callTy hc hg hm hv ha.pa hn hdb he hpl) fun C hC dk σ H F env P Ex Q o h f => by subst hC; exact L.many hs o h f
/-- a function of a module that is imported -/
theorem ev_callM (hc : CallR X (.builtin id) rr) (hs : SndN G rr op) (hm : X.mg x = some (.builtin id)) (ha : EvA G W X (e :: es) ws) (hg : Gl X x := by rfl) (hdb : (x == ("__debug__" : Str)) = false := by decide)
    (he : starEach (e :: es) X.env = (false, eval e X.env) :: starEach es X.env := by rfl) (hpl : (backTo pos (starEach es X.env)).any (·.1) = false := by rfl) : Ev G W X (.Call (.Name x p) (e :: es) [] pos) (wB op ws) :=
  Ev.of (pe_callBfun hc hg hm ha.pa hdb he hpl) fun C hC dk σ H F env P Ex Q o h f => by subst hC; exact L.many hs o h f
theorem ROks.one {C : DC} {dk : Dk} {σ : L2.St} {H F : Hp} {env : En} {rs : List R} {vs : List V} {x : PyData} (h : ROks C dk σ H F env rs vs) (e : toDs rs = some [x]) : ∃ r v, rs = [r] ∧ vs = [v] ∧ ROk C dk σ H F env r v ∧ r.toD = some x := by
  match rs, vs, h with
  | [], [], _ => cases e
  | r :: rs, v :: vs, h =>
    obtain ⟨y, ys, e1, e2, e3⟩ := toDs_cons e
    cases e3
    match rs, vs, h with
    | [], [], h => exact ⟨r, v, rfl, rfl, h.1.2, e1⟩
    | q :: qs, _, _ => obtain ⟨_, _, _, _, e4⟩ := toDs_cons e2; cases e4
    | [], _ :: _, h => exact h.2.elim
theorem ROks.two {C : DC} {dk : Dk} {σ : L2.St} {H F : Hp} {env : En} {rs : List R} {vs : List V} {x y : PyData} (h : ROks C dk σ H F env rs vs) (e : toDs rs = some [x, y]) : ∃ r s v u, rs = [r, s] ∧ vs = [v, u] ∧ ROk C dk σ H F env r v ∧ r.toD = some x ∧ ROk C dk σ H F env s u ∧ s.toD = some y := by
  match rs, vs, h with
  | [], [], _ => cases e
  | r :: rs, v :: vs, h =>
    obtain ⟨y, ys, e1, e2, e3⟩ := toDs_cons e
    cases e3
    obtain ⟨s, u, rfl, rfl, k, e4⟩ := ROks.one h.2 e2
    exact ⟨r, s, v, u, rfl, rfl, h.1.2, e1, k, e4⟩
/-! len, abs, int, gcd, tuple, list, sum -/
def dLen : OpN := fun xs P => match xs with
  | [.list ds] => P (.d (.int ds.length))
  | [.tuple ds] => P (.d (.int ds.length))
  | [.str z] => z.length ≤ sizeLine ∧ P (.d (.int z.length))
  | _ => False
def rLen2 (K : PySem.W.Frag) : List V → Hp → VK → Prop := fun xs H Q => (∃ p ys, xs = [.ref p] ∧ (SqL K H p ys ∨ SqT K H p ys) ∧ Q (.int ys.length) H) ∨ ∃ z, xs = [.str z] ∧ z.length ≤ sizeLine ∧ Q (.int z.length) H
theorem call_len2 : CallR X (.builtin "len") (rLen2 X.K) := CallR.or call_len_seq call_len_str
theorem snd_len : SndN G (rLen2 G.K) dLen := by
  intro C hC dk σ H F env rs vs xs Q P o k e h q
  subst hC
  match xs, h with
  | [.list ds], h =>
    obtain ⟨r, v, rfl, rfl, k1, e1⟩ := k.one e
    obtain ⟨p1, vs1, rfl, a1, b1⟩ := k1.lst o e1
    refine .inl ⟨p1, vs1, rfl, .inl (SqL.of a1), ?_⟩
    rw [b1.length]
    exact q _ _ _ _ h (Sub.refl F) o (Dq.int _)
  | [.tuple ds], h =>
    obtain ⟨r, v, rfl, rfl, k1, e1⟩ := k.one e
    obtain ⟨p1, vs1, rfl, a1, b1⟩ := k1.tup o e1
    refine .inl ⟨p1, vs1, rfl, .inr a1, ?_⟩
    rw [b1.length]
    exact q _ _ _ _ h (Sub.refl F) o (Dq.int _)
  | [.str z], h =>
    obtain ⟨r, v, rfl, rfl, k1, e1⟩ := k.one e
    refine .inr ⟨z, by rw [k1.str o e1], h.1, q _ _ _ _ h.2 (Sub.refl F) o (Dq.int _)⟩
theorem ev_len (c : Ctx0 G X) (hm : X.mg "len" = none) (ha : EvA G W X (e :: es) ws) (hg : Gl X "len" := by rfl)
    (he : starEach (e :: es) X.env = (false, eval e X.env) :: starEach es X.env := by rfl) (hpl : (backTo pos (starEach es X.env)).any (·.1) = false := by rfl) : Ev G W X (.Call (.Name "len" p) (e :: es) [] pos) (wB dLen ws) :=
  ev_callB (by have := call_len2 (X := X); rw [c.K] at this; exact this) snd_len hm boot_len ha hg (by decide) (by decide) he hpl
def dAbs : OpN := fun xs P => match xs with
  | [.int i] => P (.d (.int (i.natAbs : Int)))
  | _ => False
theorem natAbs_ite (i : Int) : (if i < 0 then -i else i) = (i.natAbs : Int) := by split <;> omega
theorem snd_abs : SndN G (fun xs H Q => ∃ i, xs = [.int i] ∧ Q (.int (if i < 0 then -i else i)) H) dAbs := by
  intro C hC dk σ H F env rs vs xs Q P o k e h q
  subst hC
  match xs, h with
  | [.int i], h =>
    obtain ⟨r, v, rfl, rfl, k1, e1⟩ := k.one e
    refine ⟨i, by rw [k1.int o e1], ?_⟩
    rw [natAbs_ite]
    exact q _ _ _ _ h (Sub.refl F) o (Dq.int _)
theorem ev_abs (hm : X.mg "abs" = none) (ha : EvA G W X (e :: es) ws) (hg : Gl X "abs" := by rfl)
    (he : starEach (e :: es) X.env = (false, eval e X.env) :: starEach es X.env := by rfl) (hpl : (backTo pos (starEach es X.env)).any (·.1) = false := by rfl) : Ev G W X (.Call (.Name "abs" p) (e :: es) [] pos) (wB dAbs ws) :=
  ev_callB call_abs snd_abs hm (by decide +kernel) ha hg (by decide) (by decide) he hpl
def dInt1 : OpN := fun xs P => match xs with
  | [.int i] => P (.d (.int i))
  | [.bool b] => P (.d (.int (if b then 1 else 0)))
  | _ => False
theorem snd_int1 : SndN G (fun xs H Q => (∃ i, xs = [.int i] ∧ Q (.int i) H) ∨ ∃ k, xs = [.bl k] ∧ Q (.int (if k then 1 else 0)) H) dInt1 := by
  intro C hC dk σ H F env rs vs xs Q P o k e h q
  subst hC
  match xs, h with
  | [.int i], h =>
    obtain ⟨r, v, rfl, rfl, k1, e1⟩ := k.one e
    exact .inl ⟨i, by rw [k1.int o e1], q _ _ _ _ h (Sub.refl F) o (Dq.int _)⟩
  | [.bool i], h =>
    obtain ⟨r, v, rfl, rfl, k1, e1⟩ := k.one e
    exact .inr ⟨i, by rw [k1.bool o e1], q _ _ _ _ h (Sub.refl F) o (Dq.int _)⟩
theorem ev_toint (hm : X.mg "int" = none) (ha : EvA G W X (e :: es) ws) (hg : Gl X "int" := by rfl)
    (he : starEach (e :: es) X.env = (false, eval e X.env) :: starEach es X.env := by rfl) (hpl : (backTo pos (starEach es X.env)).any (·.1) = false := by rfl) : Ev G W X (.Call (.Name "int" p) (e :: es) [] pos) (wB dInt1 ws) :=
  ev_callTy call_int1 snd_int1 hm (by decide +kernel) ha hg (by decide) (by decide) he hpl
def dGcd : OpN := fun xs P => match xs with
  | [.int a, .int b] => P (.d (.int (Int.gcd a b)))
  | _ => False
theorem snd_gcd : SndN G rGcd dGcd := by
  intro C hC dk σ H F env rs vs xs Q P o k e h q
  subst hC
  match xs, h with
  | [.int i, .int j], h =>
    obtain ⟨r, s, v, u, rfl, rfl, k1, e1, k2, e2⟩ := k.two e
    exact ⟨i, j, by rw [k1.int o e1, k2.int o e2], q _ _ _ _ h (Sub.refl F) o (Dq.int _)⟩
theorem ev_gcd (hm : X.mg x = some (.builtin "math.gcd")) (ha : EvA G W X (e :: es) ws) (hg : Gl X x := by rfl) (hdb : (x == ("__debug__" : Str)) = false := by decide)
    (he : starEach (e :: es) X.env = (false, eval e X.env) :: starEach es X.env := by rfl) (hpl : (backTo pos (starEach es X.env)).any (·.1) = false := by rfl) : Ev G W X (.Call (.Name x p) (e :: es) [] pos) (wB dGcd ws) :=
  ev_callM cr_gcd snd_gcd hm ha hg hdb he hpl
def dTuple : OpN := fun xs P => match xs with
  | [.list ds] => P (.d (.tuple ds))
  | [.tuple ds] => P (.d (.tuple ds))
  | _ => False
theorem snd_tuple : SndN G (fun xs H Q => ∃ p ys, xs = [.ref p] ∧ ((SqL G.K H p ys ∧ ∀ l, H l = none → Q (.ref l) (upd H l (.tup ys))) ∨ (SqT G.K H p ys ∧ Q (.ref p) H))) dTuple := by
  intro C hC dk σ H F env rs vs xs Q P o k e h q
  subst hC
  match xs, h with
  | [.list ds], h =>
    obtain ⟨r, v, rfl, rfl, k1, e1⟩ := k.one e
    obtain ⟨p1, vs1, rfl, a1, b1⟩ := k1.lst o e1
    refine ⟨p1, vs1, rfl, .inl ⟨SqL.of a1, fun l hl => ?_⟩⟩
    obtain ⟨F3, s3, o3, k3⟩ := o.newTup hl b1
    exact q _ _ _ _ h s3 o3 k3
  | [.tuple ds], h =>
    obtain ⟨r, v, rfl, rfl, k1, e1⟩ := k.one e
    obtain ⟨p1, vs1, rfl, a1, b1⟩ := k1.tup o e1
    refine ⟨p1, vs1, rfl, .inr ⟨a1, ?_⟩⟩
    refine q _ _ _ _ h (Sub.refl F) o ?_
    cases r with
    | d y => cases e1; exact k1
    | nw c => cases c <;> cases e1
    | bw i c => cases c <;> cases e1
    | deck => cases e1
    | opq z => cases e1
theorem ev_tuple (c : Ctx0 G X) (hm : X.mg "tuple" = none) (ha : EvA G W X (e :: es) ws) (hg : Gl X "tuple" := by rfl)
    (he : starEach (e :: es) X.env = (false, eval e X.env) :: starEach es X.env := by rfl) (hpl : (backTo pos (starEach es X.env)).any (·.1) = false := by rfl) : Ev G W X (.Call (.Name "tuple" p) (e :: es) [] pos) (wB dTuple ws) :=
  ev_callTy (by have := call_tuple_of (X := X); rw [c.K] at this; exact this) snd_tuple hm (by decide +kernel) ha hg (by decide) (by decide) he hpl
def dList : OpN := fun xs P => match xs with
  | [.list ds] => P (.nw (.lst ds))
  | [.tuple ds] => P (.nw (.lst ds))
  | _ => False
theorem snd_list : SndN G (fun xs H Q => ∃ p ys, xs = [.ref p] ∧ (SqL G.K H p ys ∨ SqT G.K H p ys) ∧ ∀ l, H l = none → Q (.ref l) (upd H l (.lst ys))) dList := by
  intro C hC dk σ H F env rs vs xs Q P o k e h q
  subst hC
  match xs, h with
  | [.list ds], h =>
    obtain ⟨r, v, rfl, rfl, k1, e1⟩ := k.one e
    obtain ⟨p1, vs1, rfl, a1, b1⟩ := k1.lst o e1
    exact ⟨p1, vs1, rfl, .inl (SqL.of a1), fun l hl => q _ _ _ _ h (Sub.refl F) (o.newCell _ hl) (o.newPriv hl b1)⟩
  | [.tuple ds], h =>
    obtain ⟨r, v, rfl, rfl, k1, e1⟩ := k.one e
    obtain ⟨p1, vs1, rfl, a1, b1⟩ := k1.tup o e1
    exact ⟨p1, vs1, rfl, .inr a1, fun l hl => q _ _ _ _ h (Sub.refl F) (o.newCell _ hl) (o.newPriv hl b1)⟩
theorem ev_list (c : Ctx0 G X) (hm : X.mg "list" = none) (ha : EvA G W X (e :: es) ws) (hg : Gl X "list" := by rfl)
    (he : starEach (e :: es) X.env = (false, eval e X.env) :: starEach es X.env := by rfl) (hpl : (backTo pos (starEach es X.env)).any (·.1) = false := by rfl) : Ev G W X (.Call (.Name "list" p) (e :: es) [] pos) (wB dList ws) :=
  ev_callTy (by have := call_list_of (X := X); rw [c.K] at this; exact this) snd_list hm (by decide +kernel) ha hg (by decide) (by decide) he hpl
end
end Dl

namespace Dl
open PySem PySem.Spec PyProof.Rows L2

/-! ### what a def is, by data -/
abbrev FSem := List R → (R → Prop) → (Exn → Prop) → Prop
def argOf (r : R) : R := match r.toD with
  | some x => .d x
  | none => r
def ArgsOk (g : DG) (dk : Dk) (F : Hp) : List R → List V → Prop
  | [], [] => True
  | r :: rs, v :: vs => (match r with
    | .d x => Dq g.K F v x
    | .deck => ∃ da dl, dk = some (da, dl) ∧ v = .ref da
    | .opq y => v = y
    | _ => False) ∧ ArgsOk g dk F rs vs
  | _, _ => False
/-- behind a call: F' the data that stand then -/
structure Aft (g : DG) (dk : Dk) (H F H' F' : Hp) : Prop where
  sf : Sub F F'
  sub : Sub F' H'
  new : ∀ a o, F' a = some o → F a = none → H a = none
  keep : ∀ a o, H a = some o → Off dk a → H' a = some o
  deck : DeckOk g H' F' dk
def RetOk (g : DG) (dk : Dk) (H H' F' : Hp) : R → V → Prop
  | .d x, v => Dq g.K F' v x
  | .nw c, v => ∃ p, v = .ref p ∧ F' p = none ∧ H p = none ∧ Off dk p ∧ ∃ ho, H' p = some ho ∧ CellOk g.K F' c ho
  | .bw _ _, _ => False
  | .deck, v => ∃ da dl, v = .ref da ∧ da ≠ dl ∧ H da = none ∧ H dl = none ∧ DeckOk g H' F' (some (da, dl))
  | .opq y, v => v = y
def XOk0 (g : DG) (F H : Hp) (x : Exn) (cls : Value) (d : Option Addr) : Prop := XOk ⟨g, fun _ => none, fun _ => none, none⟩ F H x cls d
def spOf (g : DG) (f : FSem) : Sp := fun vs H Q E => ∃ (F : Hp) (dk : Dk) (us : List R), Sub F H ∧ DeckOk g H F dk ∧ ArgsOk g dk F us vs ∧
  ∃ (P : R → Prop) (Ex : Exn → Prop), f us P Ex ∧ (∀ t v H' F', P t → Aft g dk H F H' F' → RetOk g dk H H' F' t v → Q v H') ∧
    (∀ x cls d H' F', Ex x → Aft g dk H F H' F' → XOk0 g F' H' x cls d → E cls d H')
/-- a def that is found by its name and does what f says -/
structure Fg (P : Program) (w : World) (g : DG) (base : Heap) (x : Str) (st : Stmt) (k : Nat) (ps : List Str) (f : FSem) : Prop where
  ex : ∃ (a : Addr) (fd : FuncData), g.mg x = some (.ref a) ∧ Fun g.K x x st a fd ∧ ∀ (A : Around) (outer : List Env) (s : Shared) (H : Hp) (args : Args) (us : List Value) (vs : List V) (Q : VK) (E : XK),
    Room k A → GOk A base → Env0 P w g.K g.mg base A outer s H → vs.length = ps.length → BindsTo s fd args (ps.zip us) → Vals vs us → spOf g f vs H Q E → codeAny (model P w) A (.call (.ref a) args) (CR (L2.CX P w) outer P w H s Q E) s
section
variable {P : Program} {w : World} {g : DG} {base : Heap} {x : Str} {st : Stmt} {k : Nat} {ps N : List Str} {f : FSem}
theorem Fg.mono {j : Nat} (h : Fg P w g base x st k ps f) (l : k ≤ j) : Fg P w g base x st j ps f := by
  obtain ⟨a, fd, h1, h2, h3⟩ := h.ex
  exact ⟨a, fd, h1, h2, fun A outer s H args us vs Q E hr => h3 A outer s H args us vs Q E (hr.mono l)⟩
/-- THE RULE of a def, guards told -/
theorem fg_of {a : Addr} {fd : FuncData} (hm : g.mg x = some (.ref a)) (F : Fun g.K x x st a fd) (S : FnScope N ps (defScope st))
    (hbody : ∀ (cdv : Value) (A : Around) (outer : List Env) (s : Shared) (H : Hp) (vs : List V) (Q : VK) (E : XK), Room k (A.deeper (envOfC x (defScope st) s.heap.objs.size a cdv)) → GOk A base → vs.length = ps.length → spOf g f vs H Q E →
      ∃ t, PSs (cxOf (L2.CX P w) P w g.K g.mg base N x (defScope st) a cdv A outer s H E) (defBody st) t ∧ t { nx := fun _ H' => Q .non H', rt := Q } (start N vs) H) : Fg P w g base x st (k + 1) ps f := by
  refine ⟨a, fd, hm, F, ?_⟩
  obtain ⟨oc, od, kV, doc, pm, an, cdv, ct, osl, efd, lk, hcd⟩ := F.ex
  subst efd
  intro A outer s H args us vs Q E hr hgd e0 lenV hb rv hsp
  have inS : g.K.In s.heap := e0.mod.kin.keeps fun b o e => (e0.bs b o e).1
  have noL : s.heap.NoLimit := e0.mod.nolimit.keeps fun b o e => (e0.bs b o e).1
  have kinds : ∀ y ∈ ps.zip us, (defScope st).names.lookup y.1 = some .local ∨ ((defScope st).names.lookup y.1 = some .cell ∧ ((cellsFrom (s.heap.objs.size + 1) (defScope st).names []).lookup y.1).isSome = true) := by
    rintro ⟨n, v⟩ hy
    exact (S.par n (List.of_mem_zip hy).1).imp id fun q => ⟨q, PySem.W.cellsFrom_some _ _ _ (.inl q)⟩
  refine codeAny_call_function hr.depth (inS _ _ lk) rfl S.co S.gen rfl (PySem.W.codeRec_of inS hcd) (hb _ _ _ _ (wpAny_newFunctionEnv_cells S.kind kinds fun env he s1 z => ?_))
  subst he
  obtain ⟨t, ht, hq⟩ := hbody cdv A outer s H vs Q E (hr.deeper _) hgd lenV hsp
  have J := inv_start (CX := L2.CX P w) (E := E) S hr.hd e0 lenV rv z
  refine ⟨noL.keeps z.toInCall.keep, codeAny_func (wpAny_mono (ht.run [] s1 (start N vs) H _ J hq) (fun fl s' hs => ?_) fun _ _ q => q)⟩
  cases fl with
  | ret u => obtain ⟨v, σ', H', J', r', q⟩ := hs; exact ⟨v, H', J'.os, J'.bare, J'.base, J'.hok, r', q⟩
  | next => obtain ⟨σ', H', J', q⟩ := hs; exact ⟨V.non, H', J'.os, J'.bare, J'.base, J'.hok, rfl, q⟩
  | brk => obtain ⟨_, _, _, q⟩ := hs; exact q.elim
  | cont => obtain ⟨_, _, _, q⟩ := hs; exact q.elim
end
/-! ### calls -/
section
variable {C : DC} {dk : Dk} {σ : L2.St} {H H' F F' : Hp} {env : En} {rs : List R} {vs : List V}
/-- all arguments held -/
theorem ROks.args : ∀ {rs : List R} {vs : List V} {F : Hp} {env : En}, Ok C dk σ H F env → ROks C dk σ H F env rs vs →
    ∃ F', Sub F F' ∧ Ok C dk σ H F' (holdAll rs env) ∧ EnLe env (holdAll rs env) ∧ ArgsOk C.g dk F' (rs.map argOf) vs
  | [], [], F, env, o, _ => ⟨F, Sub.refl F, o, EnLe.refl _, trivial⟩
  | r :: rs, v :: vs, F, env, o, h => by
    cases e : r.toD with
    | some x =>
      obtain ⟨F1, s1, o1, l1, k1⟩ := ROk.held o h.1.2 e
      obtain ⟨F2, s2, o2, l2, k2⟩ := ROks.args o1 (h.2.keep s1 l1)
      refine ⟨F2, s1.trans s2, o2, l1.trans l2, ?_, k2⟩
      have : argOf r = .d x := by unfold argOf; rw [e]
      rw [this]
      exact k1.mono s2
    | none =>
      have eh : r.hold env = env := by
        cases r with
        | bw i c => cases c <;> cases e
        | _ => rfl
      obtain ⟨F2, s2, o2, l2, k2⟩ := ROks.args o h.2
      have ea : argOf r = r := by unfold argOf; rw [e]
      refine ⟨F2, s2, by show Ok C dk σ H F2 (holdAll rs (r.hold env)); rw [eh]; exact o2, by show EnLe env (holdAll rs (r.hold env)); rw [eh]; exact l2, ?_, k2⟩
      rw [ea]
      have k := h.1.2
      cases r with
      | d x => cases e
      | nw c => cases c <;> cases e
      | bw i c => cases c <;> cases e
      | deck => exact k
      | opq y => exact k
  | [], _ :: _, _, _, _, h => h.elim
  | _ :: _, [], _, _, _, h => h.elim
/-- the caller's state behind the call; F0 ⊆ F: what it lets stand of its data -/
theorem Ok.after {F1 : Hp} {env1 : En} (o : Ok C dk σ H F env) (o1 : Ok C dk σ H F1 env1) (s1 : Sub F1 F) (a : Aft C.g dk H F H' F') (F2 : Hp) (h2 : F2 = F1 ∨ (F2 = F' ∧ env1 = env)) : Ok C dk σ H' F2 env1 := by
  have dkk : ∀ {p}, Off C.dk0 p → ∀ {u}, C.B p = some u → Off dk p := fun {p} f {u} e => by
    rcases o.dkr with w | ⟨_, w⟩
    · rw [w]; exact f
    · intro da dl z
      obtain ⟨n1, n2⟩ := w da dl z
      constructor
      · intro y; rw [y, n1] at e; cases e
      · intro y; rw [y, n2] at e; cases e
  have base : ∀ p u, C.B p = some u → Off C.dk0 p → H' p = some u := fun p u e f => a.keep p u (o.base p u e f) (dkk f e)
  rcases h2 with rfl | ⟨rfl, rfl⟩
  · refine ⟨(s1.trans a.sf).trans a.sub, o1.len, fun i s e => ?_, o1.sep, ?_, base, o1.fnew, o1.f0, o1.dkr⟩
    · have q := o1.slot i s e
      cases s with
      | own c => obtain ⟨p, e1, k⟩ := q; obtain ⟨ho, w, k2⟩ := k.at_; exact ⟨p, e1, k.nf, k.nb, k.off, ho, a.keep _ _ w k.off, k2⟩
      | no => exact q
      | d x => exact q
      | deck => exact q
      | opq z => exact q
    · have D := a.deck
      have D1 := o1.deck
      cases dk with
      | none => trivial
      | some kk => obtain ⟨da, dl⟩ := kk; exact ⟨D1.1, D1.2.1, D.2.2⟩
  · refine ⟨a.sub, o.len, fun i s e => ?_, o.sep, a.deck, base, fun p u e f => ?_, o.f0.trans a.sf, o.dkr⟩
    · have q := o.slot i s e
      cases s with
      | own c =>
        obtain ⟨p, e1, k⟩ := q
        obtain ⟨ho, w, k2⟩ := k.at_
        refine ⟨p, e1, ?_, k.nb, k.off, ho, a.keep _ _ w k.off, CellOk.mono k2 a.sf⟩
        cases z : F2 p with
        | none => rfl
        | some u => rw [a.new _ _ z k.nf] at w; cases w
      | d x => obtain ⟨v, e1, k⟩ := q; exact ⟨v, e1, k.mono a.sf⟩
      | no => exact q
      | deck => exact q
      | opq z => exact q
    · cases z : F p with
      | none => exact o.nb (a.new _ _ e z)
      | some u' => exact o.fnew p u' z f
end
def flatD : PyData → Bool
  | .none => true
  | .bool _ => true
  | .int _ => true
  | .str _ => true
  | _ => false
def R.flat : R → Bool
  | .d x => flatD x
  | _ => false
theorem flat_any {K : PySem.W.Frag} {F F' : Hp} {v : V} {x : PyData} (h : Dq K F v x) (f : flatD x = true) : Dq K F' v x := by
  cases h <;> first | (cases f; done) | constructor
def wCall (f : FSem) (ws : List WE) : WE := fun env P Ex => wA ws env (fun rs e => f (rs.map argOf) (fun t => match t with
  | .deck => False
  | t => P t (if t.flat = true then e else holdAll rs e)) fun x => Ex x (holdAll rs e)) Ex
section
variable {G : DG} {W : WX} {X : Cx}
theorem L.call {C : DC} {f : FSem} {dk : Dk} {σ : L2.St} {H F : Hp} {env : En} {rs : List R} {vs : List V} {P : R → En → Prop} {Ex : Exn → En → Prop} {Q : VK} {E : XK} (o : Ok C dk σ H F env) (k : ROks C dk σ H F env rs vs)
    (h : f (rs.map argOf) (fun t => match t with
      | .deck => False
      | t => P t (if t.flat = true then env else holdAll rs env)) fun x => Ex x (holdAll rs env)) (fin : Fin C W dk σ F env P Ex Q) (hE : ∀ cls d H', W cls d σ H' → E cls d H') : spOf C.g f vs H Q E := by
  obtain ⟨F1, s1, o1, l1, a1⟩ := k.args o
  refine ⟨F1, dk, rs.map argOf, o1.sub, o1.deck, a1, _, _, h, fun t v H' F' p a r => ?_, fun x cls d H' F' p a r => ?_⟩
  · have oA := o1.after o1 (Sub.refl F1) a F' (.inr ⟨rfl, rfl⟩)
    have oB := o1.after o s1 a F (.inl rfl)
    cases t with
    | d x =>
      have p' : P (.d x) (if flatD x = true then env else holdAll rs env) := p
      by_cases fl : flatD x = true
      · rw [if_pos fl] at p'
        exact fin.1 _ _ _ _ _ p' (Sub.refl F) (EnLe.refl _) oB (flat_any r fl)
      · rw [if_neg fl] at p'
        exact fin.1 _ _ _ _ _ p' (s1.trans a.sf) l1 oA r
    | nw c =>
      obtain ⟨p1, rfl, h1, h2, h3, h4⟩ := r
      refine fin.1 _ _ _ _ _ (show P (.nw c) (holdAll rs env) from p) (s1.trans a.sf) l1 oA ⟨p1, rfl, ⟨h1, o.nb h2, h3, h4⟩, fun i c' e z => ?_⟩
      obtain ⟨q, e1, kk⟩ := o1.slot _ _ e
      rw [z] at e1; cases e1
      obtain ⟨ho, w, _⟩ := kk.at_
      rw [h2] at w; cases w
    | bw i c => exact r.elim
    | deck => exact p.elim
    | opq y => exact fin.1 _ _ _ _ _ (show P (.opq y) (holdAll rs env) from p) (s1.trans a.sf) l1 oA r
  · have oA := o1.after o1 (Sub.refl F1) a F' (.inr ⟨rfl, rfl⟩)
    exact hE _ _ _ (fin.2 x _ cls d H' F' p (s1.trans a.sf) l1 oA r trivial)
variable {x : Str} {p pos : Pos} {e : Expr} {es : List Expr} {ws : List WE} {st : Stmt} {k : Nat} {ps : List Str} {f : FSem}
/-- the callee runs -/
theorem run_fg {a : Addr} {fd : FuncData} {pins : List (Addr × Obj)} {σ : L2.St} {H : Hp} {s : Shared} {Q : VK} {us : List Value} {vs : List V} {args : Args} (hG : X.mg = G.mg ∧ X.K = G.K) (tk : Takes X W) (hr : Room k X.A) (hg : GOk X.A X.base)
    (run : ∀ (A : Around) (outer : List Env) (s : Shared) (H : Hp) (args : Args) (us : List Value) (vs : List V) (Q : VK) (E : XK),
      Room k A → GOk A X.base → Env0 X.prog X.w G.K G.mg X.base A outer s H → vs.length = ps.length → BindsTo s fd args (ps.zip us) → Vals vs us → spOf G f vs H Q E → codeAny (model X.prog X.w) A (.call (.ref a) args) (CR (L2.CX X.prog X.w) outer X.prog X.w H s Q E) s)
    (I : Inv X pins σ H s) (r : Vals vs us) (hl : vs.length = ps.length) (hb : BindsTo s fd args (ps.zip us)) (h : spOf G f vs H Q (L2.WE W σ)) : wpAny (model X.prog X.w) X.A (call (.ref a) args.pos args.kw) (EP X pins σ Q) X.xe s := by
  have e0 := I.env0
  rw [hG.1, hG.2] at e0
  refine wpAny_call (codeAny_mono (run X.A X.stack s H args us vs Q (L2.WE W σ) hr hg e0 hl hb r h) fun r s' hq => ?_)
  cases r with
  | error e => exact passAt tk σ pins H s e s' I hq
  | ok fl => cases fl with
    | ret u => exact I.after hq
    | _ => exact False.elim hq
theorem map_len {α β : Type} {f : α → β} (l : List α) : (l.map f).length = l.length := List.length_map ..
theorem ArgsOk.len {g : DG} {dk : Dk} {F : Hp} : ∀ {us : List R} {vs : List V}, ArgsOk g dk F us vs → us.length = vs.length
  | [], [], _ => rfl
  | _ :: _, _ :: _, h => congrArg Nat.succ (ArgsOk.len h.2)
  | [], _ :: _, h => h.elim
  | _ :: _, [], h => h.elim
theorem ROks.len {C : DC} {dk : Dk} {σ : L2.St} {H F : Hp} {env : En} : ∀ {us : List R} {vs : List V}, ROks C dk σ H F env us vs → us.length = vs.length
  | [], [], _ => rfl
  | _ :: _, _ :: _, h => congrArg Nat.succ (ROks.len h.2)
  | [], _ :: _, h => h.elim
  | _ :: _, [], h => h.elim
/-- f(e, ..) -/
theorem ev_call (D : Fg X.prog X.w G X.base x st k ps f) (c : Ctx0 G X) (tk : Takes X W) (hr : Room k X.A) (ha : EvA G W X (e :: es) ws)
    (hb : ∀ (kV doc pm : Value) (an : Option Addr) (cdv ct : Value) (us : List Value), us.length = ps.length → bindArgs (PySem.W.fnOf x x (defArgs st) (defBody st) (defScope st) .none kV doc pm an cdv ct) ⟨us, []⟩ = pure (ps.zip us))
    (hlen : ws.length = ps.length := by rfl) (hg : Gl X x := by rfl) (hd : (x == ("__debug__" : Str)) = false := by decide)
    (he : starEach (e :: es) X.env = (false, eval e X.env) :: starEach es X.env := by rfl) (hpl : (backTo pos (starEach es X.env)).any (·.1) = false := by rfl) : Ev G W X (.Call (.Name x p) (e :: es) [] pos) (wCall f ws) := by
  obtain ⟨a, fd, hm, Fn, run⟩ := D.ex
  have bind := Fn.binds hb
  refine ⟨⟨fun pins s σ H Q I q => ?_⟩⟩
  obtain ⟨C, dk, F, env, P, Ex, hC, o, hw, fin⟩ := q.fin
  subst hC
  have hk : PySem.W.keepIn X.K (.ref a) = true := by rw [c.K]; exact Fn.kp
  refine wpAny_Call_Name_kw (ld_glob I hg (by rw [c.mg]; exact hm) ?_ hd)
  have q2 : LA C.g W ws σ H fun vs H1 => vs.length = ps.length ∧ spOf C.g f vs H1 Q (L2.WE W σ) :=
    L.args (Q := Q) (P := P) (Ex := Ex) (g := fun rs e P Ex => f (rs.map argOf) (fun t => match t with
      | .deck => False
      | t => P t (if t.flat = true then e else holdAll rs e)) fun x => Ex x (holdAll rs e)) o hw fin fun rs vs H1 F1 env1 n1 o1 k1 h1 f1 =>
        ⟨by rw [← k1.len, n1]; exact hlen, L.call (W := W) o1 k1 h1 f1 fun _ _ _ z => z⟩
  refine PySem.W.callWith_K (h₀ := X.base) I.ok.mod.kin hk (thn (ha.pa.run pos pins s σ H _ I q2) fun us s1 ⟨vs, H1, I1, rv, hl, hsp⟩ => ⟨I1.kIn, ?_⟩) he hpl
  have e1 : us.length = ps.length := by rw [← rv.length]; exact hl
  exact run_fg (args := ⟨us, []⟩) ⟨c.mg, c.K⟩ tk hr ⟨c.g, c.sys⟩ run I1 rv hl (by have := bind s1 us (by rw [← c.K]; exact I1.kIn) (by rw [List.append_nil]; exact e1); rw [List.append_nil] at this; exact this) hsp
end
end Dl

namespace Dl
open PySem PySem.Spec PyProof.Rows L2

/-! ### tests -/
abbrev WT := En → (Bool → En → Prop) → (Exn → En → Prop) → Prop
def LT (G : DG) (W : WX) (w : WT) : TT := fun σ H Q => ∃ (C : DC) (dk : Dk) (F : Hp) (env : En) (P : Bool → En → Prop) (Ex : Exn → En → Prop), C.g = G ∧ Ok C dk σ H F env ∧ w env P Ex ∧
  (∀ b env' H' F', P b env' → Sub F F' → EnLe env env' → Ok C dk σ H' F' env' → Q b H') ∧
  (∀ x env' cls d H' F', Ex x env' → Sub F F' → EnLe env env' → Ok C dk σ H' F' env' → XOk C F' H' x cls d → W cls d σ H')
structure EvT (G : DG) (W : WX) (X : Cx) (e : Expr) (w : WT) : Prop where
  pt : PT X e (LT G W w)
structure EvW (G : DG) (W : WX) (X : Cx) (e : Expr) (w : WT) : Prop where
  pw : PW X e (LT G W w)
theorem PT.imp {X : Cx} {e : Expr} {t u : TT} (h : PT X e t) (i : ∀ σ H Q, u σ H Q → t σ H Q) : PT X e u := ⟨fun pins s σ H Q I q => h.run pins s σ H Q I (i σ H Q q)⟩
theorem PW.imp {X : Cx} {e : Expr} {t u : TT} (h : PW X e t) (i : ∀ σ H Q, u σ H Q → t σ H Q) : PW X e u := ⟨fun wh pins s σ H Q I q => h.run wh pins s σ H Q I (i σ H Q q)⟩
section
variable {G : DG} {W : WX} {X : Cx}
/-- a value that is a bool, as a test -/
def tOf (w : WE) : WT := fun env P Ex => w env (fun r e => match r.toD with
  | some (.bool b) => P b e
  | _ => False) Ex
theorem L.test {w : WE} {σ : L2.St} {H : Hp} {Q : Bool → Hp → Prop} (h : LT G W (tOf w) σ H Q) : L G W w σ H fun x H1 => ∃ k, x = .bl k ∧ Q k H1 := by
  obtain ⟨C, dk, F, env, P, Ex, rfl, o, h1, f1, f2⟩ := h
  refine ⟨C, dk, F, env, _, Ex, rfl, o, h1, fun r e v H' F' p s l o' k => ?_, f2⟩
  cases q : r.toD with
  | none => rw [q] at p; exact p.elim
  | some x =>
    rw [q] at p
    cases x <;> first | exact p.elim | skip
    rename_i b
    exact ⟨b, k.bool o' q, f1 b e H' F' p s l o'⟩
variable {a b : Expr} {wa wb : WE} {pos : Pos} {ta tb : WT}
theorem evt_val {e : Expr} {w : WE} (h : Ev G W X e w) (he : ∀ whole, isTrue e X.env whole = (do let v ← whole; standAt e.pos; holding [v] (truthy v)) := by intro _; rfl) : EvT G W X e (tOf w) :=
  ⟨PT.imp (pt_val h.pe he) fun σ H Q q => L.test q⟩
theorem evt_cm {op : CmpOp} {o2 : Op2} (hc : CmpOk G X op o2) (ha : Ev G W X a wa) (hb : Ev G W X b wb) (hm : behindInMarks op b = false := by first | exact nomark _ | rfl) : EvT G W X (.Compare a [op] [b] pos) (tOf (wOp o2 wa wb)) := by
  obtain ⟨rr, h1, h2⟩ := hc.ex
  refine ⟨PT.imp (pt_cmpR h1 ha.pe hb.pe hm) fun σ H Q q => ?_⟩
  obtain ⟨C, dk, F, env, P, Ex, hC, o, hw, fin⟩ := L.fin (L.test q)
  subst hC
  exact L.two h2 o hw fin
def tNotW (t : WT) : WT := fun env P Ex => t env (fun b e => P (!b) e) Ex
theorem evt_not (ha : EvT G W X a ta) : EvT G W X (.UnaryOp .Not a pos) (tNotW ta) :=
  ⟨PT.imp (pt_not ha.pt) fun σ H Q q => by
    obtain ⟨C, dk, F, env, P, Ex, rfl, o, h1, f1, f2⟩ := q
    exact ⟨C, dk, F, env, _, Ex, rfl, o, h1, fun b e H' F' p s l o' => f1 _ e H' F' p s l o', f2⟩⟩
def tAndW (t u : WT) : WT := fun env P Ex => t env (fun b e => if b = true then u e P Ex else P false e) Ex
def tOrW (t u : WT) : WT := fun env P Ex => t env (fun b e => if b = true then P true e else u e P Ex) Ex
theorem L.and {t u : WT} {σ : L2.St} {H : Hp} {Q : Bool → Hp → Prop} (q : LT G W (tAndW t u) σ H Q) : tAnd (LT G W t) (LT G W u) σ H Q := by
  obtain ⟨C, dk, F, env, P, Ex, rfl, o, h1, f1, f2⟩ := q
  refine ⟨C, dk, F, env, _, Ex, rfl, o, h1, fun b e H' F' p s l o' => ?_, f2⟩
  cases b with
  | true => exact ⟨C, dk, F', e, P, Ex, rfl, o', p, fun b2 e2 H2 F2 p2 s2 l2 o2 => f1 _ _ _ _ p2 (s.trans s2) (l.trans l2) o2, fun x e2 c d H2 F2 p2 s2 l2 o2 k => f2 x e2 c d H2 F2 p2 (s.trans s2) (l.trans l2) o2 k⟩
  | false => exact f1 _ _ _ _ p s l o'
theorem L.or {t u : WT} {σ : L2.St} {H : Hp} {Q : Bool → Hp → Prop} (q : LT G W (tOrW t u) σ H Q) : L2.tOr (LT G W t) (LT G W u) σ H Q := by
  obtain ⟨C, dk, F, env, P, Ex, rfl, o, h1, f1, f2⟩ := q
  refine ⟨C, dk, F, env, _, Ex, rfl, o, h1, fun b e H' F' p s l o' => ?_, f2⟩
  cases b with
  | false => exact ⟨C, dk, F', e, P, Ex, rfl, o', p, fun b2 e2 H2 F2 p2 s2 l2 o2 => f1 _ _ _ _ p2 (s.trans s2) (l.trans l2) o2, fun x e2 c d H2 F2 p2 s2 l2 o2 k => f2 x e2 c d H2 F2 p2 (s.trans s2) (l.trans l2) o2 k⟩
  | true => exact f1 _ _ _ _ p s l o'
theorem evw_and1 (ha : EvT G W X a ta) : EvW G W X (.BoolOp .And [a] pos) ta := ⟨pw_and1 ha.pt⟩
theorem evw_or1 (ha : EvT G W X a ta) : EvW G W X (.BoolOp .Or [a] pos) ta := ⟨pw_or1 ha.pt⟩
theorem evw_and {rest : List Expr} (ha : EvT G W X a ta) (hb : EvW G W X (.BoolOp .And (b :: rest) pos) tb) : EvW G W X (.BoolOp .And (a :: b :: rest) pos) (tAndW ta tb) := ⟨PW.imp (pw_and ha.pt hb.pw) fun _ _ _ q => L.and q⟩
theorem evw_or {rest : List Expr} (ha : EvT G W X a ta) (hb : EvW G W X (.BoolOp .Or (b :: rest) pos) tb) : EvW G W X (.BoolOp .Or (a :: b :: rest) pos) (tOrW ta tb) := ⟨PW.imp (pw_or ha.pt hb.pw) fun _ _ _ q => L.or q⟩
theorem evt_w {e : Expr} {t : WT} (h : EvW G W X e t) : EvT G W X e t := ⟨h.pw.pt⟩
/-! and, or, not as values -/
def wAnd (wa wb : WE) : WE := fun env P Ex => wa env (fun r e => match r.toD with
  | some (.bool b) => if b = true then wb e P Ex else P (.d (.bool false)) e
  | _ => False) Ex
def wOr (wa wb : WE) : WE := fun env P Ex => wa env (fun r e => match r.toD with
  | some (.bool b) => if b = true then P (.d (.bool true)) e else wb e P Ex
  | _ => False) Ex
theorem ev_one {op : BoolOp} (ha : Ev G W X a wa) : Ev G W X (.BoolOp op [a] pos) wa := ⟨pe_one ha.pe⟩
theorem ev_and {rest : List Expr} (ha : Ev G W X a wa) (hb : Ev G W X (.BoolOp .And (b :: rest) pos) wb) : Ev G W X (.BoolOp .And (a :: b :: rest) pos) (wAnd wa wb) := by
  refine Ev.of (pe_and ha.pe hb.pe) fun C hC dk σ H F env P Ex Q o h f => ?_
  subst hC
  refine L.step (g := fun r e P Ex => match r.toD with
    | some (.bool b) => if b = true then wb e P Ex else P (.d (.bool false)) e
    | _ => False) o h f fun r v H1 F1 env1 o1 k1 s1 l1 h1 f1 => ?_
  cases q : r.toD with
  | none => rw [q] at h1; exact h1.elim
  | some x =>
    rw [q] at h1
    cases x <;> first | exact h1.elim | skip
    rename_i b
    refine ⟨b, k1.bool o1 q, ?_⟩
    cases b with
    | true => exact L.mk o1 h1 f1
    | false => exact f1.1 _ _ _ _ _ h1 (Sub.refl _) (EnLe.refl _) o1 (Dq.bl _)
theorem ev_or {rest : List Expr} (ha : Ev G W X a wa) (hb : Ev G W X (.BoolOp .Or (b :: rest) pos) wb) : Ev G W X (.BoolOp .Or (a :: b :: rest) pos) (wOr wa wb) := by
  refine Ev.of (pe_or ha.pe hb.pe) fun C hC dk σ H F env P Ex Q o h f => ?_
  subst hC
  refine L.step (g := fun r e P Ex => match r.toD with
    | some (.bool b) => if b = true then P (.d (.bool true)) e else wb e P Ex
    | _ => False) o h f fun r v H1 F1 env1 o1 k1 s1 l1 h1 f1 => ?_
  cases q : r.toD with
  | none => rw [q] at h1; exact h1.elim
  | some x =>
    rw [q] at h1
    cases x <;> first | exact h1.elim | skip
    rename_i b
    refine ⟨b, k1.bool o1 q, ?_⟩
    cases b with
    | false => exact L.mk o1 h1 f1
    | true => exact f1.1 _ _ _ _ _ h1 (Sub.refl _) (EnLe.refl _) o1 (Dq.bl _)
def dNot : Op1 := fun x P => match x with
  | .bool b => P (.d (.bool (!b)))
  | _ => False
theorem ev_not (ha : Ev G W X a wa) : Ev G W X (.UnaryOp .Not a pos) (wOp1 dNot wa) := by
  refine Ev.of (pe_not ha.pe) fun C hC dk σ H F env P Ex Q o h f => ?_
  subst hC
  refine L.step (g := fun r e P Ex => match r.toD with
    | some x => dNot x fun t => P t e
    | _ => False) o h f fun r v H1 F1 env1 o1 k1 s1 l1 h1 f1 => ?_
  cases q : r.toD with
  | none => rw [q] at h1; exact h1.elim
  | some x =>
    rw [q] at h1
    cases x <;> first | exact h1.elim | skip
    exact ⟨_, k1.bool o1 q, f1.1 _ _ _ _ _ h1 (Sub.refl _) (EnLe.refl _) o1 (Dq.bl _)⟩
/-- a if c else b -/
def wIf (c : WT) (wa wb : WE) : WE := fun env P Ex => c env (fun k e => if k = true then wa e P Ex else wb e P Ex) Ex
theorem ev_if {c : Expr} {tc : WT} (hc : EvT G W X c tc) (ha : Ev G W X a wa) (hb : Ev G W X b wb) : Ev G W X (.IfExp c a b pos) (wIf tc wa wb) := by
  refine Ev.of (pe_ifExp hc.pt ha.pe hb.pe) fun C hC dk σ H F env P Ex Q o h f => ?_
  subst hC
  refine ⟨C, dk, F, env, _, Ex, rfl, o, h, fun b e H' F' p s l o' => ?_, fun x e c d H' F' p s l o' k => f.2 x e c d H' F' p s l o' k trivial⟩
  cases b with
  | true => exact L.mk o' p (f.le s l)
  | false => exact L.mk o' p (f.le s l)
/-! ### statements -/
structure Pd where
  nx : En → Prop
  rt : R → Prop
  bk : En → Prop
  ct : En → Prop
  ex : Exn → En → Prop
abbrev WS := En → Pd → Prop
def RetR (C : DC) (dk : Dk) (H F : Hp) : R → V → Prop
  | .d x, v => Dq C.g.K F v x
  | .nw c, v => ∃ p, v = .ref p ∧ Priv C dk H F p c
  | .bw _ _, _ => False
  | .deck, v => ∃ da dl, dk = some (da, dl) ∧ v = .ref da
  | .opq y, v => v = y
structure FinS (C : DC) (W : WX) (P : Pd) (D : Ends) : Prop where
  nx : ∀ env σ H F dk, P.nx env → Ok C dk σ H F env → D.nx σ H
  bk : ∀ env σ H F dk, P.bk env → Ok C dk σ H F env → D.bk σ H
  ct : ∀ env σ H F dk, P.ct env → Ok C dk σ H F env → D.ct σ H
  rt : ∀ r v env σ H F dk, P.rt r → Ok C dk σ H F env → RetR C dk H F r v → D.rt v H
  ex : ∀ x env cls d σ H F dk, P.ex x env → Ok C dk σ H F env → XOk C F H x cls d → W cls d σ H

def LS (G : DG) (W : WX) (w : WS) : TS := fun D σ H => ∃ (C : DC) (dk : Dk) (F : Hp) (env : En) (P : Pd), C.g = G ∧ Ok C dk σ H F env ∧ w env P ∧ FinS C W P D
structure EvS (G : DG) (W : WX) (X : Cx) (s : Stmt) (w : WS) : Prop where
  ps : PS X s (LS G W w)
structure EvB (G : DG) (W : WX) (X : Cx) (s : List Stmt) (w : WS) : Prop where
  ps : PSs X s (LS G W w)
theorem PS.imp {X : Cx} {e : Stmt} {t u : TS} (h : PS X e t) (i : ∀ D σ H, u D σ H → t D σ H) : PS X e u := ⟨fun pins s σ H D I q => h.run pins s σ H D I (i D σ H q)⟩
theorem PSs.imp {X : Cx} {e : List Stmt} {t u : TS} (h : PSs X e t) (i : ∀ D σ H, u D σ H → t D σ H) : PSs X e u := ⟨fun pins s σ H D I q => h.run pins s σ H D I (i D σ H q)⟩
def wNext : WS := fun env P => P.nx env
def wSeq (a b : WS) : WS := fun env P => a env { P with nx := fun e => b e P }
theorem evb_nil : EvB G W X [] wNext := ⟨PSs.imp pss_nil fun D σ H q => by
  obtain ⟨C, dk, F, env, P, rfl, o, h, f⟩ := q
  exact f.nx _ _ _ _ _ h o⟩
theorem evb_cons {s : Stmt} {ss : List Stmt} {ws wr : WS} (h : EvS G W X s ws) (hr : EvB G W X ss wr) : EvB G W X (s :: ss) (wSeq ws wr) := ⟨PSs.imp (pss_cons h.ps hr.ps) fun D σ H q => by
  obtain ⟨C, dk, F, env, P, rfl, o, h, f⟩ := q
  exact ⟨C, dk, F, env, { P with nx := fun e => wr e P }, rfl, o, h, ⟨fun env' σ' H' F' dk' p o' => ⟨C, dk', F', env', P, rfl, o', p, f⟩, f.bk, f.ct, f.rt, f.ex⟩⟩⟩
theorem evb_one {s : Stmt} {ws : WS} (h : EvS G W X s ws) : EvB G W X [s] ws := ⟨PSs.imp (pss_one h.ps) fun _ _ _ q => q⟩
/-- .. never reached -/
def wNever : WS := fun _ _ => False
theorem evs_never {s : Stmt} : EvS G W X s wNever := ⟨PS.imp ps_never fun _ _ _ ⟨_, _, _, _, _, _, _, h, _⟩ => h⟩
theorem evs_pass : EvS G W X (.Pass pos) wNext := ⟨PS.imp ps_pass fun D σ H q => by
  obtain ⟨C, dk, F, env, P, rfl, o, h, f⟩ := q
  exact f.nx _ _ _ _ _ h o⟩
def wBreak : WS := fun env P => P.bk env
def wCont : WS := fun env P => P.ct env
theorem evs_break : EvS G W X (.Break pos) wBreak := ⟨PS.imp ps_break fun D σ H q => by
  obtain ⟨C, dk, F, env, P, rfl, o, h, f⟩ := q
  exact f.bk _ _ _ _ _ h o⟩
theorem evs_cont : EvS G W X (.Continue pos) wCont := ⟨PS.imp ps_continue fun D σ H q => by
  obtain ⟨C, dk, F, env, P, rfl, o, h, f⟩ := q
  exact f.ct _ _ _ _ _ h o⟩
def retR (r : R) (env : En) : R := match r with
  | .bw i c => (match env[i]? with
    | some (.own c') => .nw c'
    | some (.d x) => .d x
    | _ => .bw i c)
  | r => r
theorem ROk.ret {C : DC} {dk : Dk} {σ : L2.St} {H F : Hp} {env : En} {r : R} {v : V} (o : Ok C dk σ H F env) (k : ROk C dk σ H F env r v) : RetR C dk H F (retR r env) v := by
  cases r with
  | d x => exact k
  | nw c => obtain ⟨p, e, k, _⟩ := k; exact ⟨p, e, k⟩
  | bw i c =>
    have er : retR (.bw i c) env = (match env[i]? with
      | some (.own c') => .nw c'
      | some (.d x) => .d x
      | _ => .bw i c) := rfl
    rw [er]
    rcases k.1 with h | ⟨x, e, h⟩
    · rw [h]
      obtain ⟨p, q, k2⟩ := o.slot _ _ h
      rw [k.2] at q; cases q
      exact ⟨p, rfl, k2⟩
    · rw [h]
      obtain ⟨w, q, k2⟩ := o.slot _ _ h
      rw [k.2] at q; cases q
      exact k2
  | deck => exact k
  | opq y => exact k
/-- an expression, then what follows -/
theorem L.stmt {C : DC} {w : WE} {g : R → En → Pd → Prop} {dk : Dk} {σ : L2.St} {H F : Hp} {env : En} {P : Pd} {D : Ends} {Q : VK} (o : Ok C dk σ H F env) (h : w env (fun r e => g r e P) P.ex) (f : FinS C W P D)
    (k : ∀ r v H1 F1 env1, Ok C dk σ H1 F1 env1 → ROk C dk σ H1 F1 env1 r v → g r env1 P → Q v H1) : L C.g W w σ H Q :=
  ⟨C, dk, F, env, _, P.ex, rfl, o, h, fun r e v H' F' p _ _ o' q => k r v H' F' e o' q p, fun x e c d H' F' p _ _ o' q => f.ex x e c d σ H' F' dk p o' q⟩
def wRet (w : WE) : WS := fun env P => w env (fun r e => P.rt (retR r e)) P.ex
theorem evs_ret {e : Expr} {w : WE} (h : Ev G W X e w) : EvS G W X (.Return (some e) pos) (wRet w) := ⟨PS.imp (ps_ret h.pe) fun D σ H q => by
  obtain ⟨C, dk, F, env, P, rfl, o, hw, f⟩ := q
  exact L.stmt (g := fun r e P => P.rt (retR r e)) o hw f fun r v H1 F1 env1 o1 k1 p => f.rt _ _ _ _ _ _ _ p o1 (k1.ret o1)⟩
def wRetN : WS := fun _ P => P.rt (.d .none)
theorem evs_retN : EvS G W X (.Return none pos) wRetN := ⟨PS.imp ps_retN fun D σ H q => by
  obtain ⟨C, dk, F, env, P, rfl, o, hw, f⟩ := q
  exact f.rt _ _ _ _ _ _ _ hw o Dq.non⟩
def wDrop (w : WE) : WS := fun env P => w env (fun _ e => P.nx e) P.ex
theorem evs_expr {e : Expr} {w : WE} (h : Ev G W X e w) (hs : swapsWith e none pos.line X.env = pure false := by rfl) : EvS G W X (.Expr e pos) (wDrop w) := ⟨PS.imp (ps_expr h.pe hs) fun D σ H q => by
  obtain ⟨C, dk, F, env, P, rfl, o, hw, f⟩ := q
  exact L.stmt (g := fun _ e P => P.nx e) o hw f fun r v H1 F1 env1 o1 k1 p => f.nx _ _ _ _ _ p o1⟩
def wIfS (c : WT) (a b : WS) : WS := fun env P => c env (fun k e => if k = true then a e P else b e P) P.ex
theorem evs_if {c : Expr} {aa bb : List Stmt} {tc : WT} {wa wb : WS} (hc : EvT G W X c tc) (ha : EvB G W X aa wa) (hb : EvB G W X bb wb) : EvS G W X (.If c aa bb pos) (wIfS tc wa wb) := ⟨PS.imp (ps_if hc.pt ha.ps hb.ps) fun D σ H q => by
  obtain ⟨C, dk, F, env, P, rfl, o, hw, f⟩ := q
  refine ⟨C, dk, F, env, _, P.ex, rfl, o, hw, fun b e H' F' p s l o' => ?_, fun x e c d H' F' p _ _ o' q => f.ex x e c d σ H' F' dk p o' q⟩
  cases b with
  | true => exact ⟨C, dk, F', e, P, rfl, o', p, f⟩
  | false => exact ⟨C, dk, F', e, P, rfl, o', p, f⟩⟩
/-! stores -/
def stR (r : R) (e : En) : En × Sl := match r with
  | .d x => (e, .d x)
  | .nw c => (e, .own c)
  | .bw j c => (frz e j, match c.toD with
    | some x => .d x
    | none => .no)
  | .deck => (e, .deck)
  | .opq v => (e, .opq v)
def stE (i : Nat) (r : R) (e : En) : En := (stR r e).1.set i (stR r e).2
theorem gt_set {σ : L2.St} {i j : Nat} {v : V} : gt (σ.set i (some v)) j = if i = j ∧ i < σ.length then some v else gt σ j := by
  unfold gt
  rw [List.getElem?_set]
  by_cases h : i = j
  · subst h
    by_cases hl : i < σ.length
    · rw [if_pos rfl, if_pos hl, if_pos ⟨rfl, hl⟩]; rfl
    · rw [if_pos rfl, if_neg hl, if_neg (fun z => hl z.2)]
      rw [List.getElem?_eq_none (by omega)]
  · rw [if_neg h, if_neg (fun z => h z.1)]
theorem Ok.store {C : DC} {dk : Dk} {σ : L2.St} {H F : Hp} {env : En} {i : Nat} {s : Sl} {v : V} (o : Ok C dk σ H F env) (k : SlOk C dk H F s (some v)) (no : ∀ c, s = .own c → ∀ (j : Nat) c', env[j]? = some (.own c') → gt σ j ≠ some v) :
    Ok C dk (σ.set i (some v)) H F (env.set i s) where
  sub := o.sub
  len := by rw [List.length_set, List.length_set]; exact o.len
  slot := fun j s' e => by
    rw [gt_set]
    rw [List.getElem?_set] at e
    by_cases h : i = j
    · subst h
      rw [if_pos rfl] at e
      by_cases hl : i < env.length
      · rw [if_pos hl] at e; cases e
        rw [if_pos ⟨rfl, by rw [o.len]; exact hl⟩]; exact k
      · rw [if_neg hl] at e; cases e
    · rw [if_neg h] at e
      rw [if_neg (fun z => h z.1)]; exact o.slot j s' e
  sep := fun a b c c' p e1 e2 e3 e4 => by
    rw [gt_set] at e3 e4
    rw [List.getElem?_set] at e1 e2
    by_cases ha : i = a
    · by_cases hb : i = b
      · exact ha.symm.trans hb
      · rw [if_pos ha] at e1
        rw [if_neg hb] at e2
        rw [if_neg (fun z => hb z.1)] at e4
        by_cases hl : i < env.length
        · rw [if_pos hl] at e1; cases e1
          rw [if_pos ⟨ha, by rw [o.len]; exact hl⟩] at e3
          cases e3
          exact absurd e4 (no c rfl b c' e2)
        · rw [if_neg hl] at e1; cases e1
    · rw [if_neg ha] at e1
      rw [if_neg (fun z => ha z.1)] at e3
      by_cases hb : i = b
      · rw [if_pos hb] at e2
        by_cases hl : i < env.length
        · rw [if_pos hl] at e2; cases e2
          rw [if_pos ⟨hb, by rw [o.len]; exact hl⟩] at e4
          cases e4
          exact absurd e3 (no c' rfl a c e1)
        · rw [if_neg hl] at e2; cases e2
      · rw [if_neg hb] at e2
        rw [if_neg (fun z => hb z.1)] at e4
        exact o.sep a b c c' p e1 e2 e3 e4
  deck := o.deck
  base := o.base
  fnew := o.fnew
  f0 := o.f0
  dkr := o.dkr
theorem ROk.store {C : DC} {dk : Dk} {σ : L2.St} {H F : Hp} {env : En} {r : R} {v : V} (i : Nat) (o : Ok C dk σ H F env) (k : ROk C dk σ H F env r v) : ∃ F', Ok C dk (σ.set i (some v)) H F' (stE i r env) := by
  cases r with
  | d x => exact ⟨F, o.store (s := .d x) ⟨v, rfl, k⟩ fun c e => by cases e⟩
  | nw c =>
    obtain ⟨p, rfl, k1, k2⟩ := k
    exact ⟨F, o.store (s := .own c) ⟨p, rfl, k1⟩ fun _ _ => k2⟩
  | bw j c =>
    cases e : c.toD with
    | none => cases c <;> cases e
    | some x =>
      obtain ⟨F', s, o', l, k'⟩ := ROk.held o k (x := x) e
      refine ⟨F', ?_⟩
      have : stE i (.bw j c) env = (frz env j).set i (.d x) := by
        have e2 : stE i (.bw j c) env = (frz env j).set i (match c.toD with
          | some x => Sl.d x
          | none => Sl.no) := rfl
        have e3 : c.toD = some x := e
        rw [e2, e3]
      rw [this]
      exact o'.store (s := .d x) ⟨v, rfl, k'⟩ fun c e => by cases e
  | deck => obtain ⟨da, dl, e1, rfl⟩ := k; exact ⟨F, o.store (s := .deck) ⟨da, dl, e1, rfl⟩ fun c e => by cases e⟩
  | opq y => obtain rfl : v = y := k; exact ⟨F, o.store (s := .opq v) rfl fun c e => by cases e⟩
def wSet (i : Nat) (w : WE) : WS := fun env P => w env (fun r e => P.nx (stE i r e)) P.ex
theorem evs_set {i : Nat} {x : Str} {e : Expr} {w : WE} {pos' : Pos} (hN : X.N.Nodup) (h : Ev G W X e w) (hi : X.N[i]? = some x := by rfl) (hx : Loc X.env.scope x := by first | exact Or.inl rfl | exact Or.inr rfl) (hs : swapsWith e (some (.Name x pos')) pos.line X.env = pure false := by rfl)
    (hf : X.fn x = true ∨ X.env.scope.names.lookup x = some .local := by first | exact .inl rfl | exact .inr rfl | assumption) : EvS G W X (.Assign [.Name x pos'] e pos) (wSet i w) := ⟨PS.imp (ps_set hN hi hx h.pe hs hf) fun D σ H q => by
  obtain ⟨C, dk, F, env, P, rfl, o, hw, f⟩ := q
  refine L.stmt (g := fun r e P => P.nx (stE i r e)) o hw f fun r v H1 F1 env1 o1 k1 p => ?_
  obtain ⟨F2, o2⟩ := k1.store i o1
  exact f.nx _ _ _ _ _ p o2⟩
/-- a, b = x, y with plain local names -/
def wPar (i j : Nat) (wa wb : WE) : WS := fun env P => wA [wa, wb] env (fun rs e => match toDs rs with
  | some [x, y] => P.nx (((holdAll rs e).set i (.d x)).set j (.d y))
  | _ => False) P.ex
theorem evs_par {i j : Nat} {x y : Str} {a b : Expr} {wa wb : WE} {px py pt : Pos} {kt k2 pt2} (hN : X.N.Nodup) (h : EvA G W X [a, b] [wa, wb]) (hc : X.calm = true := by rfl) (hi : X.N[i]? = some x := by rfl) (hj : X.N[j]? = some y := by rfl) (hij : i ≠ j := by decide)
    (hx : X.env.scope.names.lookup x = some .local := by rfl) (hy : X.env.scope.names.lookup y = some .local := by rfl)
    (hw : swappedStores [.Tuple [.Name x px, .Name y py] kt pt] (.Tuple [a, b] k2 pt2) X.env = pure (some [x, y]) := by rfl)
    (hs : swapsWithSole [.Tuple [.Name x px, .Name y py] kt pt] (.Tuple [a, b] k2 pt2) pos.line X.env = pure false := by rfl) :
    EvS G W X (.Assign [.Tuple [.Name x px, .Name y py] kt pt] (.Tuple [a, b] k2 pt2) pos) (wPar i j wa wb) := ⟨PS.imp (ps_par hc hN hi hj hij hx hy h.pa hw hs) fun D σ H q => by
  obtain ⟨C, dk, F, env, P, rfl, o, hw, f⟩ := q
  refine ⟨C, dk, F, env, _, P.ex, rfl, o, hw, fun rs e vs H' F' p n s l o' k => ?_, fun x e c d H' F' p _ _ o' q => f.ex x e c d σ H' F' dk p o' q⟩
  cases z : toDs rs with
  | none => rw [z] at p; exact p.elim
  | some xs =>
    rw [z] at p
    match xs, p with
    | [x, y], p =>
      obtain ⟨F2, s2, o2, l2, k2⟩ := k.held o' z
      cases k2 with
      | cons q1 q2 =>
        rename_i v1 v2
        cases q2 with
        | cons q2 q3 =>
          rename_i u1 u2
          cases q3
          have o3 := o2.store (i := i) (s := .d x) ⟨_, rfl, q1⟩ fun c e => by cases e
          have o4 := o3.store (i := j) (s := .d y) ⟨_, rfl, q2⟩ fun c e => by cases e
          exact ⟨v1, u1, rfl, f.nx _ _ _ _ _ p o4⟩⟩
/-! targets by data -/
abbrev WG := PyData → En → (En → Prop) → Prop
/-- only these slots are stored -/
def Chg {α : Type} (sl : List Nat) (σ σ' : List α) : Prop := σ'.length = σ.length ∧ ∀ j, j ∉ sl → σ'[j]? = σ[j]?
theorem Chg.refl {α : Type} {sl : List Nat} {σ : List α} : Chg sl σ σ := ⟨rfl, fun _ _ => rfl⟩
theorem Chg.app {α : Type} {s1 s2 : List Nat} {a b c : List α} (h : Chg s1 a b) (h' : Chg s2 b c) : Chg (s1 ++ s2) a c :=
  ⟨h'.1.trans h.1, fun j n => (h'.2 j fun z => n (List.mem_append_right _ z)).trans (h.2 j fun z => n (List.mem_append_left _ z))⟩
def LG (G : DG) (sl : List Nat) (t : WG) : TG := fun v σ H Q => ∃ (C : DC) (dk : Dk) (F : Hp) (env : En) (x : PyData) (K : En → Prop), C.g = G ∧ Ok C dk σ H F env ∧ Dq C.g.K F v x ∧ t x env K ∧ ∀ env' σ', K env' → Chg sl σ σ' → Chg sl env env' → Ok C dk σ' H F env' → Q σ' H
def LGs (G : DG) (sl : List Nat) (t : List PyData → En → (En → Prop) → Prop) : TGs := fun vs σ H Q => ∃ (C : DC) (dk : Dk) (F : Hp) (env : En) (xs : List PyData) (K : En → Prop), C.g = G ∧ Ok C dk σ H F env ∧ DqAll C.g.K F vs xs ∧ t xs env K ∧ ∀ env' σ', K env' → Chg sl σ σ' → Chg sl env env' → Ok C dk σ' H F env' → Q σ' H
structure EvG (G : DG) (X : Cx) (e : Expr) (sl : List Nat) (w : WG) : Prop where
  pg : PG X e (LG G sl w)
structure EvGs (G : DG) (X : Cx) (e : List Expr) (sl : List Nat) (w : List PyData → En → (En → Prop) → Prop) : Prop where
  pg : PGs X e (LGs G sl w)
theorem PG.imp {X : Cx} {e : Expr} {t u : TG} (h : PG X e t) (i : ∀ v σ H Q, u v σ H Q → t v σ H Q) : PG X e u := ⟨fun pins s σ H v u Q I r q => h.run pins s σ H v u Q I r (i v σ H Q q)⟩
theorem PGs.imp {X : Cx} {e : List Expr} {t u : TGs} (h : PGs X e t) (i : ∀ v σ H Q, u v σ H Q → t v σ H Q) : PGs X e u := ⟨fun pins s σ H v u Q I r q => h.run pins s σ H v u Q I r (i v σ H Q q)⟩
def gN (i : Nat) : WG := fun x e K => K (e.set i (.d x))
theorem evg_name (i : Nat) {x : Str} (hN : X.N.Nodup) (hi : X.N[i]? = some x := by rfl) (hx : Loc X.env.scope x := by first | exact Or.inl rfl | exact Or.inr rfl) (hf : X.fn x = true ∨ X.env.scope.names.lookup x = some .local := by first | exact .inl rfl | exact .inr rfl | assumption) : EvG G X (.Name x pos) [i] (gN i) :=
  ⟨PG.imp (pg_name hN hi hx hf) fun v σ H Q q => by
    obtain ⟨C, dk, F, env, x, K, rfl, o, k, h, f⟩ := q
    exact f _ _ h ⟨List.length_set .., fun j n => List.getElem?_set_ne (fun z => n (by simp [z]))⟩ ⟨List.length_set .., fun j n => List.getElem?_set_ne (fun z => n (by simp [z]))⟩ (o.store (s := .d x) ⟨v, rfl, k⟩ fun c e => by cases e)⟩
def gNilW : List PyData → En → (En → Prop) → Prop := fun xs e K => match xs with
  | [] => K e
  | _ => False
def gConsW (t : WG) (u : List PyData → En → (En → Prop) → Prop) : List PyData → En → (En → Prop) → Prop := fun xs e K => match xs with
  | x :: xs => t x e fun e' => u xs e' K
  | _ => False
theorem evgs_nil : EvGs G X [] [] gNilW := ⟨PGs.imp pgs_nil fun v σ H Q q => by
  obtain ⟨C, dk, F, env, xs, K, rfl, o, k, h, f⟩ := q
  cases k with
  | nil => exact ⟨rfl, f _ _ h Chg.refl Chg.refl o⟩
  | cons a b => exact h.elim⟩
theorem evgs_cons {e : Expr} {es : List Expr} {s1 s2 : List Nat} {t : WG} {u : List PyData → En → (En → Prop) → Prop} (h1 : EvG G X e s1 t) (h2 : EvGs G X es s2 u) (hs : (assignEach (e :: es) X.env).map (·.2) = assign e X.env :: (assignEach es X.env).map (·.2) := by rfl) : EvGs G X (e :: es) (s1 ++ s2) (gConsW t u) := ⟨PGs.imp (pgs_cons h1.pg h2.pg hs) fun v σ H Q q => by
  obtain ⟨C, dk, F, env, xs, K, rfl, o, k, h, f⟩ := q
  cases k with
  | nil => exact h.elim
  | cons a b => exact ⟨_, _, rfl, C, dk, F, env, _, _, rfl, o, a, h, fun env' σ' p c ce o' => ⟨C, dk, F, env', _, K, rfl, o', b, p, fun env'' σ'' p' c' ce' o'' => f _ _ p' (c.app c') (ce.app ce') o''⟩⟩⟩
def gTupW (n : Nat) (u : List PyData → En → (En → Prop) → Prop) : WG := fun x e K => match x with
  | .tuple xs => xs.length = n ∧ u xs e K
  | .list xs => xs.length = n ∧ u xs e K
  | _ => False
theorem PG.or {e : Expr} {t u : TG} (h : PG X e t) (h' : PG X e u) : PG X e (fun v σ H Q => t v σ H Q ∨ u v σ H Q) := ⟨fun pins s σ H v w Q I r q => q.elim (h.run pins s σ H v w Q I r) (h'.run pins s σ H v w Q I r)⟩
theorem evg_tup {es : List Expr} {kk : Nat} {sl : List Nat} {u : List PyData → En → (En → Prop) → Prop} {n : Nat} (hK : X.K = G.K) (h : EvGs G X es sl u) (hc : X.calm = true := by rfl) (hn : (assignEach es X.env).length = n := by rfl) (hst : (assignEach es X.env).findIdx? (·.1) = none := by rfl) : EvG G X (.Tuple es kk pos) sl (gTupW n u) :=
  ⟨PG.imp (PG.or (pg_tup hc h.pg hn hst) (pg_lst hc h.pg hn hst)) fun v σ H Q q => by
    obtain ⟨C, dk, F, env, x, K, rfl, o, k, h, f⟩ := q
    cases k <;> first | exact False.elim h | skip
    · rename_i a vs ds k1 k2
      rw [hK]
      exact .inr ⟨a, vs, rfl, SqL.of (o.sub _ _ k1), by rw [k2.length]; exact h.1, C, dk, F, env, ds, K, rfl, o, k2, h.2, f⟩
    · rename_i a vs ds k1 k2
      rw [hK]
      exact .inl ⟨a, vs, rfl, o.sub.seqT k1, by rw [k2.length]; exact h.1, C, dk, F, env, ds, K, rfl, o, k2, h.2, f⟩⟩
def wAsg (w : WE) (t : WG) : WS := fun env P => w env (fun r e => match r.toD with
  | some x => t x (r.hold e) P.nx
  | none => False) P.ex
theorem evs_asg {tg e : Expr} {w : WE} {sl : List Nat} {t : WG} (h : Ev G W X e w) (hg : EvG G X tg sl t) (hs : swapsWithSole [tg] e pos.line X.env = pure false := by rfl) (hw : swappedStores [tg] e X.env = pure none := by rfl)
    (h1 : (assignEach [tg] X.env).map (·.2) = [assign tg X.env] := by rfl) : EvS G W X (.Assign [tg] e pos) (wAsg w t) := ⟨PS.imp (ps_asg h.pe hg.pg hs hw h1) fun D σ H q => by
  obtain ⟨C, dk, F, env, P, rfl, o, hw, f⟩ := q
  refine L.stmt (g := fun r e P => match r.toD with
    | some x => t x (r.hold e) P.nx
    | none => False) o hw f fun r v H1 F1 env1 o1 k1 p => ?_
  cases z : r.toD with
  | none => rw [z] at p; exact p.elim
  | some x =>
    rw [z] at p
    obtain ⟨F2, s2, o2, l2, k2⟩ := k1.held o1 z
    exact ⟨C, dk, F2, _, x, P.nx, rfl, o2, k2, p, fun env' σ' p' _ _ o' => f.nx _ _ _ _ _ p' o'⟩⟩
/-! loops -/
def wWhile (c : WT) (b : WS) : WS := fun env P => ∃ Iv : Nat → En → Prop, (∃ m, Iv m env) ∧ ∀ m e, Iv m e → c e (fun k e' => if k = true then b e' { nx := fun e2 => ∃ m', m' < m ∧ Iv m' e2, ct := fun e2 => ∃ m', m' < m ∧ Iv m' e2, bk := P.nx, rt := P.rt, ex := P.ex } else P.nx e') P.ex
theorem evs_while {c : Expr} {body : List Stmt} {tc : WT} {wb : WS} (hp : PassesOwn (model X.prog X.w) X.A X.env X.xe) (hc : EvT G W X c tc) (hb : EvB G W X body wb) : EvS G W X (.While c body [] pos) (wWhile tc wb) := ⟨PS.imp (ps_while hp hc.pt hb.ps) fun D σ H q => by
  obtain ⟨C, dk, F, env, P, rfl, o, ⟨Iv, ⟨m, i0⟩, turn⟩, f⟩ := q
  refine ⟨fun m σ H => ∃ dk F env, Ok C dk σ H F env ∧ Iv m env, ⟨m, dk, F, env, o, i0⟩, ?_⟩
  rintro m σ H ⟨dk, F, env, o, i⟩
  refine ⟨C, dk, F, env, _, P.ex, rfl, o, turn m env i, fun b e H' F' p s l o' => ?_, fun x e c d H' F' p _ _ o' q => f.ex x e c d σ H' F' dk p o' q⟩
  cases b with
  | false => exact f.nx _ _ _ _ _ p o'
  | true =>
    have again : ∀ env2 σ2 H2 F2 dk2, (∃ m', m' < m ∧ Iv m' env2) → Ok C dk2 σ2 H2 F2 env2 → ∃ m', m' < m ∧ ∃ dk F env, Ok C dk σ2 H2 F env ∧ Iv m' env := fun env2 σ2 H2 F2 dk2 ⟨m', h1, h2⟩ o2 => ⟨m', h1, dk2, F2, env2, o2, h2⟩
    exact ⟨fun σ2 H2 => ∃ m', m' < m ∧ ∃ dk F env, Ok C dk σ2 H2 F env ∧ Iv m' env, fun _ _ z => z, C, dk, F', e, _, rfl, o', p, ⟨again, fun _ _ _ _ _ p o => f.nx _ _ _ _ _ p o, again, f.rt, f.ex⟩⟩⟩
/-- what is walked: its items, as data -/
abbrev WI := En → (List PyData → En → Prop) → (Exn → En → Prop) → Prop
def ItOk (K : PySem.W.Frag) (J : It) (xs : List PyData) (F : Hp) : Prop := ∃ (Gd : Hp → Prop) (Y : Nat → Hp → V → Hp → Prop), Walk J xs.length Gd Y ∧ (∀ H, Sub F H → Gd H) ∧
  ∀ i H v H', i < xs.length → Y i H v H' → (H' = H ∧ ∃ d, xs[i]? = some d ∧ Dq K F v d) ∨ ∃ T vs ds, v = .ref T ∧ H T = none ∧ H' = upd H T (.tup vs) ∧ xs[i]? = some (.tuple ds) ∧ DqAll K F vs ds
def LI (G : DG) (W : WX) (w : WI) : TI := fun σ H R => ∃ (C : DC) (dk : Dk) (F : Hp) (env : En) (P : List PyData → En → Prop) (Ex : Exn → En → Prop), C.g = G ∧ Ok C dk σ H F env ∧ w env P Ex ∧
  (∀ xs env' H' F' J, P xs env' → Sub F F' → EnLe env env' → Ok C dk σ H' F' env' → ItOk C.g.K J xs F' → R J H') ∧
  (∀ x env' cls d H' F', Ex x env' → Sub F F' → EnLe env env' → Ok C dk σ H' F' env' → XOk C F' H' x cls d → W cls d σ H')
structure EvI (G : DG) (W : WX) (X : Cx) (tg iter : Expr) (w : WI) : Prop where
  pi : PI X tg iter (LI G W w)
theorem PI.imp {X : Cx} {tg e : Expr} {t u : TI} (h : PI X tg e t) (i : ∀ σ H Q, u σ H Q → t σ H Q) : PI X tg e u := ⟨fun pins s σ H Q I q => h.run pins s σ H Q I (i σ H Q q)⟩
def wFor (t : WG) (b : WS) : List PyData → WS
  | [], env, P => P.nx env
  | x :: xs, env, P => t x env fun e => b e { P with nx := fun e' => wFor t b xs e' P, ct := fun e' => wFor t b xs e' P, bk := P.nx }
def wForI (i : WI) (t : WG) (b : WS) : WS := fun env P => i env (fun xs e => wFor t b xs e P) P.ex
theorem It.step {C : DC} {dk : Dk} {σ : L2.St} {H H' F F1 : Hp} {env : En} {J : It} {xs : List PyData} {i : Nat} {v : V} {Y : Nat → Hp → V → Hp → Prop} (o : Ok C dk σ H F env) (s : Sub F1 F) (hi : i < xs.length) (y : Y i H v H')
    (hy : ∀ i H v H', i < xs.length → Y i H v H' → (H' = H ∧ ∃ d, xs[i]? = some d ∧ Dq C.g.K F1 v d) ∨ ∃ T vs ds, v = .ref T ∧ H T = none ∧ H' = upd H T (.tup vs) ∧ xs[i]? = some (.tuple ds) ∧ DqAll C.g.K F1 vs ds) :
    ∃ d F', xs[i]? = some d ∧ Sub F F' ∧ Ok C dk σ H' F' env ∧ Dq C.g.K F' v d := by
  rcases hy i H v H' hi y with ⟨rfl, d, e, k⟩ | ⟨T, vs, ds, rfl, n, rfl, e, k⟩
  · exact ⟨d, F, e, Sub.refl F, o, k.mono s⟩
  · obtain ⟨F', s', o', k'⟩ := o.newTup n (k.mono s)
    exact ⟨_, F', e, s', o', k'⟩
theorem drop_cons {α : Type} {xs : List α} {i : Nat} {d : α} (e : xs[i]? = some d) : xs.drop i = d :: xs.drop (i + 1) := by
  have h : i < xs.length := (List.getElem?_eq_some_iff.mp e).1
  rw [List.drop_eq_getElem_cons h]
  rw [List.getElem?_eq_getElem h] at e
  cases e; rfl
/-- the same with more data that stand -/
abbrev DC.at (C : DC) (F1 : Hp) : DC := { C with F0 := F1 }
theorem Ok.up {C : DC} {dk dk1 : Dk} {σ σ1 : L2.St} {H H1 F F1 : Hp} {env env1 : En} (o1 : Ok C dk1 σ1 H1 F1 env1) (o : Ok C dk σ H F env) (s : Sub F1 F) : Ok (C.at F1) dk σ H F env :=
  ⟨o.sub, o.len, fun i z e => by
    have q := o.slot i z e
    cases z with
    | own c => obtain ⟨p, e1, k⟩ := q; exact ⟨p, e1, k.nf, k.nb, k.off, k.at_⟩
    | _ => exact q, o.sep, o.deck, o.base, fun a u e f => o.fnew a u e (o1.f0.free0 f), s, o.dkr⟩
theorem Ok.down {C : DC} {dk dk1 : Dk} {σ σ1 : L2.St} {H H1 F F1 : Hp} {env env1 : En} (o1 : Ok C dk1 σ1 H1 F1 env1) (o : Ok (C.at F1) dk σ H F env) : Ok C dk σ H F env :=
  ⟨o.sub, o.len, fun i z e => by
    have q := o.slot i z e
    cases z with
    | own c => obtain ⟨p, e1, k⟩ := q; exact ⟨p, e1, k.nf, k.nb, k.off, k.at_⟩
    | _ => exact q, o.sep, o.deck, o.base, fun a u e f => by
      cases z : F1 a with
      | none => exact o.fnew a u e z
      | some w => exact o1.fnew a w z f, o1.f0.trans o.f0, o.dkr⟩
theorem FinS.up {C : DC} {W : WX} {P : Pd} {D : Ends} {dk1 : Dk} {σ1 : L2.St} {H1 F1 : Hp} {env1 : En} (o1 : Ok C dk1 σ1 H1 F1 env1) (f : FinS C W P D) : FinS (C.at F1) W P D :=
  ⟨fun _ _ _ _ _ p o => f.nx _ _ _ _ _ p (o1.down o), fun _ _ _ _ _ p o => f.bk _ _ _ _ _ p (o1.down o), fun _ _ _ _ _ p o => f.ct _ _ _ _ _ p (o1.down o), fun r v _ _ _ _ _ p o k => f.rt r v _ _ _ _ _ p (o1.down o) (by
    cases r with
    | nw c => obtain ⟨p, e, k⟩ := k; exact ⟨p, e, k.nf, k.nb, k.off, k.at_⟩
    | _ => exact k), fun x _ c d _ _ _ _ p o k => f.ex x _ c d _ _ _ _ p (o1.down o) k⟩
theorem evs_for {tg iter : Expr} {body : List Stmt} {wi : WI} {sl : List Nat} {t : WG} {wb : WS} (hp : PassesOwn (model X.prog X.w) X.A X.env X.xe) (hi : EvI G W X tg iter wi) (hg : EvG G X tg sl t) (hb : EvB G W X body wb) (hc : X.calm = true := by rfl)
    (hs : ∀ x, foldedSetIterable iter X.env x = pure x := by intro _; rfl) : EvS G W X (.For tg iter body [] pos) (wForI wi t wb) := ⟨PS.imp (ps_for hp hc hi.pi hg.pg hb.ps hs) fun D σ H q => by
  obtain ⟨C, dk, F, env, P, rfl, o, hw, f⟩ := q
  refine ⟨C, dk, F, env, _, P.ex, rfl, o, hw, fun xs e H1 F1 J p s l o1 it => ?_, fun x e c d H' F' p _ _ o' q => f.ex x e c d σ H' F' dk p o' q⟩
  obtain ⟨Gd, Y, wk, hG, hY⟩ := it
  have f' := FinS.up o1 f
  refine for_it wk (fun i σ H => ∃ dk F env, Ok (C.at F1) dk σ H F env ∧ wFor t wb (xs.drop i) env P) ⟨dk, F1, e, Ok.up o1 o1 (Sub.refl F1), p⟩ (fun i σ H _ ⟨dk, F, env, o, _⟩ => hG H (o.f0.trans o.sub)) ?_ ?_
  · rintro i v σ2 H2 H3 hlt ⟨dk2, F2, env2, o2, w2⟩ y
    obtain ⟨d, F3, e3, s3, o3, k3⟩ := It.step (C := C.at F1) (J := J) o2 o2.f0 hlt y hY
    rw [drop_cons e3] at w2
    refine ⟨C.at F1, dk2, F3, env2, d, _, rfl, o3, k3, w2, fun env4 σ4 p4 _ _ o4 => ?_⟩
    have again : ∀ env5 σ5 H5 F5 dk5, wFor t wb (xs.drop (i + 1)) env5 P → Ok (C.at F1) dk5 σ5 H5 F5 env5 → ∃ dk F env, Ok (C.at F1) dk σ5 H5 F env ∧ wFor t wb (xs.drop (i + 1)) env P := fun env5 σ5 H5 F5 dk5 p5 o5 => ⟨dk5, F5, env5, o5, p5⟩
    exact ⟨C.at F1, dk2, F3, env4, _, rfl, o4, p4, ⟨again, f'.nx, again, f'.rt, f'.ex⟩⟩
  · rintro σ2 H2 ⟨dk2, F2, env2, o2, w2⟩
    rw [List.drop_length] at w2
    exact f'.nx _ _ _ _ _ w2 o2⟩
end
end Dl

namespace Dl
open PySem PySem.Spec PyProof.Rows L2

/-! ### values that are walked: lists, tuples, texts -/
inductive Sk where
  | l | t | s
def signs (z : Str) : List V := z.cps.toList.map fun c => V.str ⟨#[c]⟩
def SqV (K : PySem.W.Frag) (H : Hp) : Sk → V → List V → Prop
  | .l, .ref a, xs => SqL K H a xs
  | .t, .ref a, xs => SqT K H a xs
  | .s, .str z, xs => xs = signs z
  | _, _, _ => False
def Sit : Sk → Value → Addr → Nat → Heap → Prop
  | .l, .ref a, it, i, h => h.IsListIter it a i
  | .t, .ref a, it, i, h => h.IsTupleIter it a i
  | .s, .str x t, it, i, h => h.IsStrIter it (strIterType x) x t i
  | _, _, _, _, _ => False
def Sob : Sk → Value → Obj
  | .l, v => { cls := .type "list_iterator", data := .fields #[v, .int 0 0] }
  | .t, v => { cls := .type "tuple_iterator", data := .fields #[v, .int 0 0] }
  | .s, .str x t => { cls := .type (strIterType x), data := .fields #[.str x t, .int 0 0] }
  | .s, v => { cls := .type "str_iterator", data := .fields #[v, .int 0 0] }
theorem Sit.live {k : Sk} {u : Value} {it : Addr} {i : Nat} {h : Heap} (x : Sit k u it i h) : ∃ o vs, h.get? it = some o ∧ o.data = .fields vs := by
  cases k <;> cases u <;> first | exact False.elim x | (obtain ⟨o, e, c, d⟩ := x; exact ⟨o, _, e, d⟩)
theorem Sit.at {k : Sk} {u : Value} {it : Addr} {i : Nat} {h h' : Heap} (x : Sit k u it i h) (e : ∀ o, h.get? it = some o → h'.get? it = some o) : Sit k u it i h' := by
  cases k <;> cases u <;> first | exact False.elim x | (obtain ⟨o, q, r⟩ := x; exact ⟨o, e _ q, r⟩)
section
variable {X : Cx} {pins : List (Addr × Obj)} {σ : L2.St} {H : Hp} {s : Shared}
theorem SqV.inj {k : Sk} {v : V} {xs ys : List V} (I : Inv X pins σ H s) (h : SqV X.K H k v xs) (h' : SqV X.K H k v ys) : xs = ys := by
  cases k <;> cases v <;> first | exact False.elim h | skip
  · exact I.list_inj h h'
  · exact I.tuple_inj h h'
  · have e : xs = signs _ := h
    have e' : ys = signs _ := h'
    rw [e, e']
/-- what is not the iterators' own -/
def Old (X : Cx) (H : Hp) (b : Addr) : Prop := H b ≠ none ∨ ∃ o, X.base.get? b = some o
theorem Old.ne {b c : Addr} (I : Inv X pins σ H s) (h : Old X H b) (f : FpOk X pins H c) : c ≠ b := by
  rintro rfl
  rcases h with h | ⟨o, h⟩
  · exact h f.1
  · rcases f.2.2.2.1 with q | q
    · exact I.ok.noex _ _ h q
    · exact absurd (Nat.lt_of_lt_of_le (Heap.lt_size h) (Nat.le_trans I.ok.bsz q)) (Nat.lt_irrefl _)
theorem old_L {K} {a : Addr} {xs : List V} (hK : X.K = K) (I : Inv X pins σ H s) (h : SqL K H a xs) : Old X H a := by
  subst hK
  rcases h with (h | ⟨o, h⟩) | ⟨o, its, n, h, _⟩
  · exact .inl (by rw [h]; simp)
  · exact .inl (by rw [h]; simp)
  · exact .inr ⟨o, I.ok.mod.kin a o h⟩
theorem old_T {K} {a : Addr} {xs : List V} (hK : X.K = K) (I : Inv X pins σ H s) (h : SqT K H a xs) : Old X H a := by
  subst hK
  rcases h with (h | ⟨o, h⟩) | ⟨o, its, n, h, _⟩
  · exact .inl (by rw [h]; simp)
  · exact .inl (by rw [h]; simp)
  · exact .inr ⟨o, I.ok.mod.kin a o h⟩
theorem draws_of {k : Sk} {v : V} {u : Value} {xs : List V} (A : Around) (hh : A.handled = none) (I : Inv X pins σ H s) (r : RelV v u) (q : SqV X.K H k v xs) (it : Addr) (f : FpOk X pins H it) :
    ∃ (fp : List Addr) (Pd : Nat → Value → Prop) (St : Nat → Heap → Prop), Draws X.prog X.w A it fp xs.length Pd St ∧ it ∈ fp ∧ (∀ i, Sit k u it i s.heap → St i s.heap) ∧ (∀ i h, St i h → Sit k u it i h) ∧
      (∀ i y, Pd i y → ∃ x, xs[i]? = some x ∧ RelV x y) ∧ ∀ b ∈ fp, b = it ∨ Old X H b := by
  cases k <;> cases v <;> first | exact False.elim q | skip
  · rename_i a
    cases r
    obtain ⟨its, rv, p, hz⟩ := I.list q
    have hl := rv.length
    have D := Draws.list (prog := X.prog) (w := X.w) hh it a (Ne.symm ((old_L rfl I q).ne I f)) its.toArray
    rw [List.size_toArray, ← hl] at D
    refine ⟨_, _, _, D, by simp, fun i z => ⟨z, p.isList⟩, fun i h z => z.1, fun i y z => ?_, fun b hb => ?_⟩
    · have z' : its[i]? = some y := by simpa using z
      obtain ⟨x, e⟩ : ∃ x, xs[i]? = some x := by
        have : i < its.length := (List.getElem?_eq_some_iff.mp z').1
        exact ⟨xs[i], List.getElem?_eq_getElem (by omega)⟩
      obtain ⟨u', h1, h2⟩ := rv.get e
      rw [z'] at h1; cases h1
      exact ⟨x, e, h2⟩
    · have hb' : b = it ∨ b = a := by simpa using hb
      exact hb'.imp id fun e => by rw [e]; exact old_L rfl I q
  · rename_i a
    cases r
    obtain ⟨its, rv, p, hz⟩ := I.tuple q
    have hl := rv.length
    have D := Draws.tuple (prog := X.prog) (w := X.w) hh it a (Ne.symm ((old_T rfl I q).ne I f)) its.toArray
    rw [List.size_toArray, ← hl] at D
    refine ⟨_, _, _, D, by simp, fun i z => ⟨z, p⟩, fun i h z => z.1, fun i y z => ?_, fun b hb => ?_⟩
    · have z' : its[i]? = some y := by simpa using z
      obtain ⟨x, e⟩ : ∃ x, xs[i]? = some x := by
        have : i < its.length := (List.getElem?_eq_some_iff.mp z').1
        exact ⟨xs[i], List.getElem?_eq_getElem (by omega)⟩
      obtain ⟨u', h1, h2⟩ := rv.get e
      rw [z'] at h1; cases h1
      exact ⟨x, e, h2⟩
    · have hb' : b = it ∨ b = a := by simpa using hb
      exact hb'.imp id fun e => by rw [e]; exact old_T rfl I q
  · rename_i z
    obtain ⟨t, rfl⟩ := r
    have q' : xs = signs z := q
    subst q'
    have D := Draws.text (prog := X.prog) (w := X.w) hh it z t
    have e : z.cps.size = (signs z).length := by unfold signs; simp
    rw [e] at D
    refine ⟨_, _, _, D, by simp, fun i z => z, fun i h z => z, fun i y h => ?_, fun b hb => .inl (by simpa using hb)⟩
    obtain ⟨c, u', h1, rfl⟩ := h
    refine ⟨.str ⟨#[c]⟩, ?_, u', rfl⟩
    unfold signs
    rw [List.getElem?_map]
    have : z.cps.toList[i]? = some c := by simpa using h1
    rw [this]; rfl
/-- an iterator that hands out new tuples: one turn -/
theorem tup_turn {Iw : Addr} {fp wr : List Addr} {n i : Nat} {Pt : Nat → Array Value → Prop} {St : Nat → Heap → Prop} {Mid : Nat → Addr → Heap → Prop} {elts : List Expr} {kk : Nat} {pos : Pos} {vs : List V} {E : Value → Shared → Prop} {ch : List Addr}
    (W : WalksT X.prog X.w X.A Iw fp wr n Pt St Mid) (I : Inv X pins σ H s) (hi : i < n) (st : St i s.heap) (hw : ∀ b ∈ wr, b ∈ ch) (hf : ∀ b ∈ ch, FpOk X pins H b) (hl : vs.length ≤ sizeLine) (hP : ∀ vals, Pt i vals → Vals vs vals.toList)
    {R : V → Hp → Shared → Prop} (hR : ∀ T s2, H T = none → s.heap.objs.size ≤ T → Inv X pins σ (upd H T (.tup vs)) s2 → St (i + 1) s2.heap → R (.ref T) (upd H T (.tup vs)) s2) :
    wpAny (model X.prog X.w) X.A (pyNext (.ref Iw)) (fun r s1 => ∃ u, r = some u ∧ wpAny (model X.prog X.w) X.A (letOwnedTupleGo (.Tuple elts kk pos) (.ref Iw) u) (fun _ s2 => ∃ x H', RelV x u ∧ R x H' s2) E s1) E s := by
  refine W.item i s _ _ hi st fun T vals h' tk hp hT ht hm hk => ⟨_, rfl, W.go elts kk pos i T { s with heap := h', toks := tk } _ _ hm fun h'' st2 hk2 => ?_⟩
  have nT : H T = none := I.hok.fresh hT
  have ap : T ∉ wr := W.apart i T h' hm
  have new : ObjOk X.prog X.w (upd H T (.tup vs)) h'' T (.tup vs) := by
    refine ⟨hl, vals.toList, hP vals hp, ?_⟩
    obtain ⟨o, e, c, m, d⟩ := ht
    exact ⟨o, hk2 T o ap e, c, m, by simpa using d⟩
  have J : Inv X pins σ (upd H T (.tup vs)) { s with heap := h'', toks := tk } :=
    I.turnedNew (ch := ch) (fun b o hb e => hk2 b o (fun q => hb (hw b q)) (hk b o (fun q => hb (hw b q)) e)) hf hT new
  exact ⟨.ref T, _, rfl, hR T _ nT hT J st2⟩
end
/-! enumerate -/
def ItE (K : PySem.W.Frag) (k : Sk) (v : V) : It :=
  ⟨fun i H => ∃ xs x, SqV K H k v xs ∧ xs[i]? = some x, fun i H y H' => ∃ T x, y = .ref T ∧ H T = none ∧ H' = upd H T (.tup [.int (i : Nat), x]) ∧ ∀ xs, SqV K H k v xs → xs[i]? = some x, fun i H => ∃ xs, SqV K H k v xs ∧ xs.length = i⟩
theorem turn_enumV {P : Program} {w : World} {K : PySem.W.Frag} {elts : List Expr} {kk : Nat} {tpos : Pos} (k : Sk) (v : V) (u : Value) (r : RelV v u) (e it : Addr) :
    Turn P w K (.Tuple elts kk tpos) (ItE K k v) [e, it] e (fun i h => (∃ old, IsEnum h e it ((0 : Int) + (i : Int)) old) ∧ Sit k u it i h ∧ e ≠ it) where
  mem := by simp
  obj := fun i h st b hb => by
    obtain ⟨⟨old, he⟩, hs, _⟩ := st
    have e' : b = e ∨ b = it := by simpa using hb
    rcases e' with z | z
    · rw [z]; exact ⟨_, he, fun v q => nomatch q⟩
    · obtain ⟨o, vs, ho, hd⟩ := hs.live
      rw [z]; exact ⟨o, ho, fun v q => by rw [hd] at q; cases q⟩
  keep := fun i h h' st kp => let ⟨⟨old, he⟩, hi, hne⟩ := st; ⟨⟨old, kp e (by simp) _ he⟩, hi.at fun o q => kp it (by simp) o q, hne⟩
  item := by
    intro X hP hw hK hc i pins s σ H E I hf st hg
    subst hP hw hK
    obtain ⟨⟨old, he⟩, hit, hne⟩ := st
    obtain ⟨xs, x, hq, hx⟩ := hg
    have fit := hf it (by simp)
    have fe := hf e (by simp)
    obtain ⟨fp, Pd, St, D, mem, st1, st2, hP, hold⟩ := draws_of X.A.in1 (by exact I.ok.hd hc) I r hq it fit
    have hef : e ∉ fp := fun z => (hold e z).elim hne fun q => q.ne I fe rfl
    have hlt : i < xs.length := (List.getElem?_eq_some_iff.mp hx).1
    refine wpAny_mono (tup_turn (ch := [e, it]) (vs := [.int (i : Nat), x]) (WalksT.enumFrom 0 D e hne hef mem) I hlt ⟨⟨old, he⟩, st1 i hit⟩ (fun b hb => hb) hf (by show 2 ≤ sizeLine; decide) (fun vals ⟨t, y, h1, h2⟩ => ?_)
      (R := fun x' H' s2 => Inv X pins σ H' s2 ∧ (ItE X.K k v).yld i H x' H' ∧ ((∃ old, IsEnum s2.heap e it ((0 : Int) + ((i + 1 : Nat) : Int)) old) ∧ Sit k u it (i + 1) s2.heap ∧ e ≠ it) ∧ ∀ b ∈ [e, it], H' b = none) fun T s2 nT hT J st' => ?_)
      (fun r s1 ⟨u', e1, e2⟩ => ⟨u', e1, wpAny_mono e2 (fun _ s2 ⟨x', H', q1, q2, q3, q4, q5⟩ => ⟨x', H', q2, q1, q3, q4, q5⟩) fun _ _ z => z⟩) fun _ _ z => z
    · obtain ⟨x'', h3, h4⟩ := hP i y h1
      rw [hx] at h3; cases h3
      rw [h2]
      exact .cons ⟨t, by rw [Int.zero_add]⟩ (.cons h4 .nil)
    · refine ⟨J, ⟨T, x, rfl, nT, rfl, fun ys hy => by rw [hy.inj I hq]; exact hx⟩, ⟨st'.1, st2 _ _ st'.2, hne⟩, fun b hb => ?_⟩
      have hb' : b ≠ T := fun z => by
        subst z
        have e' : b = e ∨ b = it := by simpa using hb
        rcases e' with z | z
        · rw [z] at hT; exact absurd (Nat.lt_of_lt_of_le (Heap.lt_size he) hT) (Nat.lt_irrefl _)
        · obtain ⟨o, vs, ho, _⟩ := hit.live
          rw [z] at hT; exact absurd (Nat.lt_of_lt_of_le (Heap.lt_size ho) hT) (Nat.lt_irrefl _)
      rw [upd_ne hb']
      exact (hf b hb).1
  done := by
    intro X hP hw hK hc i pins s σ H E I hf st hg
    subst hP hw hK
    obtain ⟨⟨old, he⟩, hit, hne⟩ := st
    obtain ⟨xs, hq, hx⟩ := hg
    have fit := hf it (by simp)
    have fe := hf e (by simp)
    obtain ⟨fp, Pd, St, D, mem, st1, st2, hP, hold⟩ := draws_of X.A.in1 (by exact I.ok.hd hc) I r hq it fit
    have hef : e ∉ fp := fun z => (hold e z).elim hne fun q => q.ne I fe rfl
    subst hx
    refine (WalksT.enumFrom 0 D e hne hef mem).done s _ _ ⟨⟨old, he⟩, st1 _ hit⟩ fun h' tk hk => ⟨rfl, I.turnedL (ch := [e, it]) (fun b o hb z => hk b o hb z) hf⟩
  self := fun A i s Q E st h => let ⟨⟨_, he⟩, _⟩ := st; wpAny_pyIter_enum he h
/-! zip of two -/
def ItZ (K : PySem.W.Frag) (k k' : Sk) (v v' : V) : It :=
  ⟨fun i H => ∃ xs x ys y, SqV K H k v xs ∧ xs[i]? = some x ∧ SqV K H k' v' ys ∧ ys[i]? = some y,
   fun i H z H' => ∃ T x y, z = .ref T ∧ H T = none ∧ H' = upd H T (.tup [x, y]) ∧ (∀ xs, SqV K H k v xs → xs[i]? = some x) ∧ ∀ ys, SqV K H k' v' ys → ys[i]? = some y,
   fun i H => ∃ xs ys, SqV K H k v xs ∧ SqV K H k' v' ys ∧ min xs.length ys.length = i⟩
structure ZA (z TI TO i1 i2 : Addr) : Prop where
  TIz : TI ≠ z
  TOz : TO ≠ z
  TITO : TI ≠ TO
  TIi1 : TI ≠ i1
  TIi2 : TI ≠ i2
  z1 : z ≠ i1
  z2 : z ≠ i2
  T1 : TO ≠ i1
  T2 : TO ≠ i2
  i12 : i1 ≠ i2
theorem turn_zipV {P : Program} {w : World} {K : PySem.W.Frag} {elts : List Expr} {kk : Nat} {tpos : Pos} (k k' : Sk) (v v' : V) (u u' : Value) (r : RelV v u) (r' : RelV v' u') (z TI TO i1 i2 : Addr) (D : ZA z TI TO i1 i2) :
    Turn P w K (.Tuple elts kk tpos) (ItZ K k k' v v') [z, TI, TO, i1, i2] z (fun i h => IsZip h z TI TO .none ∧ IsTupOf2 h TI (.ref i1) (.ref i2) ∧ (∃ a1 a2, IsTupOf2 h TO a1 a2) ∧ Sit k u i1 i h ∧ Sit k' u' i2 i h) where
  mem := by simp
  obj := fun i h st c hc => by
    obtain ⟨hz, hTI, ⟨x, y, hTO⟩, h1, h2⟩ := st
    have e' : c = z ∨ c = TI ∨ c = TO ∨ c = i1 ∨ c = i2 := by simpa using hc
    rcases e' with q | q | q | q | q
    · rw [q]; exact ⟨_, hz, fun v q => nomatch q⟩
    · rw [q]; exact ⟨_, hTI, fun v q => nomatch q⟩
    · rw [q]; exact ⟨_, hTO, fun v q => nomatch q⟩
    · obtain ⟨o, vs, ho, hd⟩ := h1.live; rw [q]; exact ⟨o, ho, fun v q => by rw [hd] at q; cases q⟩
    · obtain ⟨o, vs, ho, hd⟩ := h2.live; rw [q]; exact ⟨o, ho, fun v q => by rw [hd] at q; cases q⟩
  keep := fun i h h' st kp => by
    obtain ⟨hz, hTI, ⟨x, y, hTO⟩, h1, h2⟩ := st
    exact ⟨kp z (by simp) _ hz, kp TI (by simp) _ hTI, ⟨x, y, kp TO (by simp) _ hTO⟩, h1.at fun o q => kp i1 (by simp) o q, h2.at fun o q => kp i2 (by simp) o q⟩
  item := by
    intro X hP hw hK hc i pins s σ H E I hf st hg
    subst hP hw hK
    obtain ⟨hz, hTI, ⟨x0, y0, hTO⟩, h1, h2⟩ := st
    obtain ⟨xs, x, ys, y, hq, hx, hq', hy⟩ := hg
    obtain ⟨fp, Pd, St, D1, mem, st1, st2, hP, hold⟩ := draws_of X.A.in1 (by exact I.ok.hd hc) I r hq i1 (hf i1 (by simp))
    obtain ⟨fp', Pd', St', D2, mem', st1', st2', hP', hold'⟩ := draws_of X.A.in1 (by exact I.ok.hd hc) I r' hq' i2 (hf i2 (by simp))
    have nin : ∀ c, c ∈ [z, TI, TO, i1, i2] → c ≠ i1 → c ∉ fp := fun c hc n q => (hold c q).elim n fun o => o.ne I (hf c hc) rfl
    have nin' : ∀ c, c ∈ [z, TI, TO, i1, i2] → c ≠ i2 → c ∉ fp' := fun c hc n q => (hold' c q).elim n fun o => o.ne I (hf c hc) rfl
    have S : ZipSep2 z TI TO i1 i2 fp fp' := ⟨D.TIz, D.TOz, D.TITO, D.TIi1, mem, nin z (by simp) D.z1, nin TO (by simp) D.T1, D.TIi2, mem', nin' z (by simp) D.z2, nin' TO (by simp) D.T2, nin' i1 (by simp) D.i12, nin i2 (by simp) (Ne.symm D.i12)⟩
    have hlt : i < xs.length := (List.getElem?_eq_some_iff.mp hx).1
    have hlt' : i < ys.length := (List.getElem?_eq_some_iff.mp hy).1
    refine wpAny_mono (tup_turn (ch := [z, TI, TO, i1, i2]) (vs := [x, y]) (WalksT.zipD2 S D1 D2) I (by omega) ⟨hz, hTI, ⟨x0, y0, hTO⟩, st1 i h1, st1' i h2⟩ (fun b hb => by
        have e' : b = z ∨ b = TO ∨ b = i1 ∨ b = i2 := by simpa using hb
        rcases e' with q | q | q | q <;> rw [q] <;> simp) hf (by show 2 ≤ sizeLine; decide) (fun vals ⟨a, b, g1, g2, g3⟩ => ?_)
      (R := fun x' H' s2 => Inv X pins σ H' s2 ∧ (ItZ X.K k k' v v').yld i H x' H' ∧ (IsZip s2.heap z TI TO .none ∧ IsTupOf2 s2.heap TI (.ref i1) (.ref i2) ∧ (∃ a1 a2, IsTupOf2 s2.heap TO a1 a2) ∧ Sit k u i1 (i + 1) s2.heap ∧ Sit k' u' i2 (i + 1) s2.heap) ∧ ∀ b ∈ [z, TI, TO, i1, i2], H' b = none) fun T s2 nT hT J st' => ?_)
      (fun r s1 ⟨u', e1, e2⟩ => ⟨u', e1, wpAny_mono e2 (fun _ s2 ⟨x', H', q1, q2, q3, q4, q5⟩ => ⟨x', H', q2, q1, q3, q4, q5⟩) fun _ _ z => z⟩) fun _ _ z => z
    · obtain ⟨x'', h3, h4⟩ := hP i a g1
      obtain ⟨y'', h5, h6⟩ := hP' i b g2
      rw [hx] at h3; cases h3
      rw [hy] at h5; cases h5
      rw [g3]
      exact .cons h4 (.cons h6 .nil)
    · refine ⟨J, ⟨T, x, y, rfl, nT, rfl, fun l hl => by rw [hl.inj I hq]; exact hx, fun l hl => by rw [hl.inj I hq']; exact hy⟩, ⟨st'.1, st'.2.1, st'.2.2.1, st2 _ _ st'.2.2.2.1, st2' _ _ st'.2.2.2.2⟩, fun b hb => ?_⟩
      have lv : ∃ o, s.heap.get? b = some o := by
        have e' : b = z ∨ b = TI ∨ b = TO ∨ b = i1 ∨ b = i2 := by simpa using hb
        rcases e' with q | q | q | q | q
        · rw [q]; exact ⟨_, hz⟩
        · rw [q]; exact ⟨_, hTI⟩
        · rw [q]; exact ⟨_, hTO⟩
        · obtain ⟨o, vs, ho, _⟩ := h1.live; rw [q]; exact ⟨o, ho⟩
        · obtain ⟨o, vs, ho, _⟩ := h2.live; rw [q]; exact ⟨o, ho⟩
      obtain ⟨o, ho⟩ := lv
      have hb' : b ≠ T := fun q => by
        subst q
        exact absurd (Nat.lt_of_lt_of_le (Heap.lt_size ho) hT) (Nat.lt_irrefl _)
      rw [upd_ne hb']
      exact (hf b hb).1
  done := by
    intro X hP hw hK hc i pins s σ H E I hf st hg
    subst hP hw hK
    obtain ⟨hz, hTI, ⟨x0, y0, hTO⟩, h1, h2⟩ := st
    obtain ⟨xs, ys, hq, hq', hn⟩ := hg
    obtain ⟨fp, Pd, St, D1, mem, st1, st2, hP, hold⟩ := draws_of X.A.in1 (by exact I.ok.hd hc) I r hq i1 (hf i1 (by simp))
    obtain ⟨fp', Pd', St', D2, mem', st1', st2', hP', hold'⟩ := draws_of X.A.in1 (by exact I.ok.hd hc) I r' hq' i2 (hf i2 (by simp))
    have nin : ∀ c, c ∈ [z, TI, TO, i1, i2] → c ≠ i1 → c ∉ fp := fun c hc n q => (hold c q).elim n fun o => o.ne I (hf c hc) rfl
    have nin' : ∀ c, c ∈ [z, TI, TO, i1, i2] → c ≠ i2 → c ∉ fp' := fun c hc n q => (hold' c q).elim n fun o => o.ne I (hf c hc) rfl
    have S : ZipSep2 z TI TO i1 i2 fp fp' := ⟨D.TIz, D.TOz, D.TITO, D.TIi1, mem, nin z (by simp) D.z1, nin TO (by simp) D.T1, D.TIi2, mem', nin' z (by simp) D.z2, nin' TO (by simp) D.T2, nin' i1 (by simp) D.i12, nin i2 (by simp) (Ne.symm D.i12)⟩
    subst hn
    refine (WalksT.zipD2 S D1 D2).done s _ _ ⟨hz, hTI, ⟨x0, y0, hTO⟩, st1 _ h1, st1' _ h2⟩ fun h' tk hk => ⟨rfl, I.turnedL (ch := [z, TI, TO, i1, i2]) (fun b o hb q => hk b o (fun m => hb (by
        have e' : b = z ∨ b = TO ∨ b = i1 ∨ b = i2 := by simpa using m
        rcases e' with q | q | q | q <;> rw [q] <;> simp)) q) hf⟩
  self := fun A i s Q E st h => wpAny_pyIter_zip st.1 h
theorem begins_of {X : Cx} {pins : List (Addr × Obj)} {σ : L2.St} {H : Hp} {s : Shared} {k : Sk} {v : V} {u : Value} {xs : List V} (I : Inv X pins σ H s) (r : RelV v u) (q : SqV X.K H k v xs) : ∃ Hd, Begins u (Sob k u) Hd ∧ Hd s.heap ∧ ∀ it h, h.get? it = some (Sob k u) → Sit k u it 0 h := by
  cases k <;> cases v <;> first | exact False.elim q | skip
  · rename_i a
    cases r
    obtain ⟨its, rv, p, hz⟩ := I.list q
    exact ⟨_, begins_list a its.toArray, p.isList, fun it h e => ⟨_, e, rfl, rfl⟩⟩
  · rename_i a
    cases r
    obtain ⟨its, rv, p, hz⟩ := I.tuple q
    exact ⟨_, begins_tuple a its.toArray, p, fun it h e => ⟨_, e, rfl, rfl⟩⟩
  · rename_i z
    obtain ⟨t, rfl⟩ := r
    exact ⟨_, begins_text z t, trivial, fun it h e => ⟨_, e, rfl, rfl⟩⟩
set_option maxHeartbeats 4000000 in
theorem meets_enum1 {v : Value} {o : Obj} {H : Heap → Prop} (B : Begins v o H) : Meets (Builtin.«enumerate.__new__» ⟨[.type "enumerate", v], []⟩) (fun _ R s => H s.heap ∧
      R (.ok (.ret (.ref (s.heap.push o).objs.size))) { s with heap := (s.heap.push o).push { cls := .type "enumerate", data := .fields #[.none, .bool false, .ref s.heap.objs.size, rawInt 0, .none, .none] } }) :=
  .of_wp fun prog w A R s0 hh => by
    obtain ⟨hp, g, d, tk, os⟩ := s0
    obtain ⟨h1, hfin⟩ := hh
    have hsub := sub_enumerate
    have go : ∀ {A' : Around} {E : Value → Shared → Prop} {Q : Value → Shared → Prop}, Q (.ref hp.objs.size) ⟨hp.push o, g, d, tk, os⟩ → wpAny (model prog w) A' (pyIter v) Q E ⟨hp, g, d, tk, os⟩ := fun q => B.iter prog w _ _ ⟨hp, g, d, tk, os⟩ _ h1 q
    wp_walk using go
    refine wpAny_stack_any fun _ => wpAny_pure ?_
    split
    · rename_i c' _ _ _ _ _
      cases (c' == Value.type "enumerate") <;> (wp_walk using go; exact ⟨_, rfl, hfin⟩)
    · wp_walk using go; exact ⟨_, rfl, hfin⟩
/-! how they begin -/
section
variable {X : Cx} {elts : List Expr} {kk : Nat} {tpos p pos : Pos} {e e2 : Expr} {ta : TA}
def iEnumV (K : PySem.W.Frag) (ta : TA) : TI := fun σ H R => ta σ H fun vs H1 => ∃ k v xs, vs = [v] ∧ SqV K H1 k v xs ∧ R (ItE K k v) H1
theorem pi_enumV (hg : Gl X "enumerate") (hm : X.mg "enumerate" = none) (ha : PA X [e] ta) (hs : starEach [e] X.env = [(false, eval e X.env)] := by rfl) :
    PI X (.Tuple elts kk tpos) (.Call (.Name "enumerate" p) [e] [] pos) (iEnumV X.K ta) := by
  refine ⟨fun pins s σ H R I h => ?_⟩
  refine Call_ (ld_blt I hg hm boot_enumerate (PyProof.Rows.callWith_type1 (thn (ha.run pos pins s σ H _ I h) fun us s1 ⟨vs, H1, I1, r1, q1⟩ => ?_) hs rfl))
  obtain ⟨k, v, xs, rfl, hq, q⟩ := q1
  obtain ⟨u, rfl, r⟩ := Vals.one r1
  obtain ⟨Hd, B, hB, h0⟩ := begins_of I1 r hq
  refine callType_new F.called_enumerate (by decide) (F.typeCall_enumerate_1 _) (F.newCall_enumerate_1 _) (fun obj => F.args_object_init_2 obj _) F.entry_enumerate_new (meets_enum1 B) ⟨hB, ?_⟩
  have hz : (s1.heap.push (Sob k u)).objs.size = s1.heap.objs.size + 1 := Heap.size_push ..
  show _ ∧ _
  rw [hz]
  generalize hE : ({ cls := .type "enumerate", data := .fields #[.none, .bool false, .ref s1.heap.objs.size, rawInt 0, .none, .none] } : Obj) = eo
  have he : ((s1.heap.push (Sob k u)).push eo).get? (s1.heap.objs.size + 1) = some eo := by
    rw [← hz]
    exact Heap.get?_push_size _ (by rw [← hE]; rfl)
  have hi : ((s1.heap.push (Sob k u)).push eo).get? s1.heap.objs.size = some (Sob k u) := Heap.get?_push_of_some _ (Heap.get?_push_size _ B.free)
  have hk : ∀ b o, s1.heap.get? b = some o → ((s1.heap.push (Sob k u)).push eo).get? b = some o := fun b o x => Heap.get?_push_of_some _ (Heap.get?_push_of_some _ x)
  have hen : IsEnum ((s1.heap.push (Sob k u)).push eo) (s1.heap.objs.size + 1) s1.heap.objs.size (0 + ((0 : Nat) : Int)) .none := by rw [← hE] at he ⊢; exact he
  refine ⟨⟨_, he, by rw [← hE]⟩, wpAny_pyIter_enum (by rw [← hE] at he ⊢; exact he) ?_⟩
  have I2 : Inv X pins σ H1 { s1 with heap := (s1.heap.push (Sob k u)).push eo } := I1.kept (t' := s1.toks) hk
  refine ⟨s1.heap.objs.size + 1, [s1.heap.objs.size + 1, s1.heap.objs.size], _, _, H1, rfl, I2, turn_enumV k v u r (s1.heap.objs.size + 1) s1.heap.objs.size, ⟨⟨.none, hen⟩, h0 _ _ hi, Nat.succ_ne_self _⟩, fun b hb => ?_, q⟩
  have hle : s1.heap.objs.size ≤ b := by
    have e' : b = s1.heap.objs.size + 1 ∨ b = s1.heap.objs.size := by simpa using hb
    rcases e' with z | z
    · rw [z]; exact Nat.le_succ _
    · rw [z]; exact Nat.le_refl _
  exact I1.fpOk hle (I1.hok.fresh hle)
def iZipV (K : PySem.W.Frag) (ta : TA) : TI := fun σ H R => ta σ H fun vs H1 => ∃ k v xs k' v' ys, vs = [v, v'] ∧ SqV K H1 k v xs ∧ SqV K H1 k' v' ys ∧ R (ItZ K k k' v v') H1
theorem pi_zipV (hg : Gl X "zip") (hm : X.mg "zip" = none) (ha : PA X [e, e2] ta)
    (hs : starEach [e, e2] X.env = (false, eval e X.env) :: starEach [e2] X.env := by rfl) (hpl : (backTo pos (starEach [e2] X.env)).any (·.1) = false := by rfl) :
    PI X (.Tuple elts kk tpos) (.Call (.Name "zip" p) [e, e2] [] pos) (iZipV X.K ta) := by
  refine ⟨fun pins s σ H R I h => ?_⟩
  refine Call_ (ld_blt I hg hm PyProof.Rows.boot_zip (PyProof.Rows.callWith_type1 (thn (ha.run pos pins s σ H _ I h) fun us s1 ⟨vs, H1, I1, r1, q1⟩ => ?_) hs hpl))
  obtain ⟨k, v, xs, k', v', ys, rfl, hq, hq', q⟩ := q1
  obtain ⟨u, u', rfl, r, r'⟩ := Vals.two r1
  obtain ⟨Hd, B, hB, h0⟩ := begins_of I1 r hq
  obtain ⟨Hd', B', hB', h0'⟩ := begins_of I1 r' hq'
  refine zip_begins2 B B' hB hB' fun h' g1 g2 g3 g4 g5 sz hk => wpAny_pyIter_zip g1 ?_
  have I2 : Inv X pins σ H1 { s1 with heap := h' } := I1.kept (t' := s1.toks) hk
  generalize hn : s1.heap.objs.size = n at *
  have ZA0 : ZA (n + 4) (n + 2) (n + 3) n (n + 1) := by
    constructor <;> (intro q; have q' : (_ : Nat) = _ := q; omega)
  refine ⟨n + 4, [n + 4, n + 2, n + 3, n, n + 1], _, _, H1, rfl, I2, turn_zipV k k' v v' u u' r r' (n + 4) (n + 2) (n + 3) n (n + 1) ZA0, ⟨g1, g2, ⟨_, _, g3⟩, h0 _ _ g4, h0' _ _ g5⟩, fun b hb => ?_, q⟩
  have hle : n ≤ b := by
    have e' : b = n + 4 ∨ b = n + 2 ∨ b = n + 3 ∨ b = n ∨ b = n + 1 := by simpa using hb
    rcases e' with q | q | q | q | q <;> rw [q] <;> first | exact Nat.le_add_right _ _ | exact Nat.le_refl _
  exact I1.fpOk (by rw [hn]; exact hle) (I1.hok.fresh (by rw [hn]; exact hle))
end
end Dl

namespace Dl
open PySem PySem.Spec PyProof.Rows L2

/-! ### what is walked, by data -/
def signsD (z : Str) : List PyData := z.cps.toList.map fun c => PyData.str ⟨#[c]⟩
def itemsD : PyData → Option (List PyData)
  | .list ds => some ds
  | .tuple ds => some ds
  | .str z => some (signsD z)
  | _ => none
theorem DqAll.signs {K : PySem.W.Frag} {F : Hp} (z : Str) : DqAll K F (signs z) (signsD z) := by
  unfold Dl.signs signsD
  generalize z.cps.toList = l
  induction l with
  | nil => exact .nil
  | cons c l ih => exact .cons (.str _) ih
theorem seq_of {K : PySem.W.Frag} {F : Hp} {v : V} {x : PyData} {ds : List PyData} (h : Dq K F v x) (e : itemsD x = some ds) : ∃ k vs, (∀ H, Sub F H → SqV K H k v vs) ∧ DqAll K F vs ds := by
  cases h <;> first | (cases e; done) | skip
  · cases e; exact ⟨.s, _, fun H s => rfl, DqAll.signs _⟩
  · cases e; rename_i a vs h1 h2; exact ⟨.l, vs, fun H s => SqL.of (s _ _ h1), h2⟩
  · cases e; rename_i a vs h1 h2; exact ⟨.t, vs, fun H s => s.seqT h1, h2⟩
def ItS (K : PySem.W.Frag) : Sk → V → It
  | .l, .ref a => Itl K a
  | .t, .ref a => Itt K a
  | .s, .str z => Its z
  | _, _ => Itr 0 0
theorem walk_S {K : PySem.W.Frag} {k : Sk} {v : V} {xs : List V} {F : Hp} (h : ∀ H, Sub F H → SqV K H k v xs) : Walk (ItS K k v) xs.length (fun H => SqV K H k v xs) (YAt xs) := by
  have h' := h F (Sub.refl F)
  cases k <;> cases v <;> first | exact False.elim h' | skip
  · exact walk_list
  · exact walk_tup
  · rename_i z
    have e : xs = signs z := h'
    subst e
    have w := walk_str (z := z)
    have e2 : z.cps.size = (signs z).length := by unfold signs; simp
    rw [e2] at w
    refine w.mono (fun _ _ => trivial) fun i H x H' _ _ ⟨q, c, q1, q2⟩ => ⟨q, ?_⟩
    unfold signs
    rw [List.getElem?_map]
    have : z.cps.toList[i]? = some c := by simpa using q1
    rw [this, q2]; rfl
theorem walk_E {K : PySem.W.Frag} {k : Sk} {v : V} {xs : List V} (inj : ∀ H ys, SqV K H k v xs → SqV K H k v ys → True) : Walk (ItE K k v) xs.length (fun H => SqV K H k v xs) (fun i H y H' => ∃ T x, y = .ref T ∧ H T = none ∧ H' = upd H T (.tup [.int (i : Nat), x]) ∧ xs[i]? = some x) where
  goes := fun i H hi h => ⟨xs, _, h, List.getElem?_eq_getElem hi⟩
  stops := fun H h => ⟨xs, h, rfl⟩
  yields := fun i H x H' hi h ⟨T, y, e1, e2, e3, e4⟩ => ⟨T, y, e1, e2, e3, e4 xs h⟩
theorem walk_Z {K : PySem.W.Frag} {k k' : Sk} {v v' : V} {xs ys : List V} : Walk (ItZ K k k' v v') (min xs.length ys.length) (fun H => SqV K H k v xs ∧ SqV K H k' v' ys) (fun i H z H' => ∃ T x y, z = .ref T ∧ H T = none ∧ H' = upd H T (.tup [x, y]) ∧ xs[i]? = some x ∧ ys[i]? = some y) where
  goes := fun i H hi h => ⟨xs, _, ys, _, h.1, List.getElem?_eq_getElem (by omega), h.2, List.getElem?_eq_getElem (by omega)⟩
  stops := fun H h => ⟨xs, ys, h.1, h.2, rfl⟩
  yields := fun i H x H' hi h ⟨T, x, y, e1, e2, e3, e4, e5⟩ => ⟨T, x, y, e1, e2, e3, e4 xs h.1, e5 ys h.2⟩
section
variable {X : Cx} {tg : Expr}
def iSeqV (K : PySem.W.Frag) (te : TE) : TI := fun σ H R => te σ H fun v H1 => ∃ k xs, SqV K H1 k v xs ∧ R (ItS K k v) H1
theorem pi_seqV {e : Expr} {te : TE} (he : PE X e te) : PI X tg e (iSeqV X.K te) := by
  refine ⟨fun pins s σ H R I h => ?_⟩
  refine thn (he.run pins s σ H _ I h) fun u s1 ⟨v, H1, I1, r1, k, xs, hq, q⟩ => ?_
  cases k <;> cases v <;> first | exact False.elim hq | skip
  · cases r1
    obtain ⟨its, rv, p, hz⟩ := I1.list hq
    exact wpAny_pyIter_list p.isList (pi_one (tk := s1.toks) I1 _ (turn_list _ _) ⟨_, Heap.get?_push_size _ rfl, rfl, rfl⟩ q)
  · rename_i a
    cases r1
    obtain ⟨its, rv, p, hz⟩ := I1.tuple hq
    exact wpAny_pyIter_tuple (show s1.heap.IsTuple a its.toArray from p) (pi_one (tk := s1.toks) I1 _ (turn_tuple _ _) ⟨_, Heap.get?_push_size _ rfl, rfl, rfl⟩ q)
  · rename_i x
    obtain ⟨t, rfl⟩ := r1
    cases ha : x.cps.all (· < 128)
    · exact wpAny_pyIter_wide ha (pi_one (tk := s1.toks) I1 _ (turn_str _ x t "str_iterator" (.inr rfl)) ⟨_, Heap.get?_push_size _ rfl, rfl, rfl⟩ q)
    · exact wpAny_pyIter_ascii ha (pi_one (tk := s1.toks) I1 _ (turn_str _ x t "str_ascii_iterator" (.inl rfl)) ⟨_, Heap.get?_push_size _ rfl, rfl, rfl⟩ q)
end
section
variable {G : DG} {W : WX} {X : Cx} {tg : Expr}
theorem itok_S {K : PySem.W.Frag} {k : Sk} {v : V} {xs : List V} {ds : List PyData} {F : Hp} (h : ∀ H, Sub F H → SqV K H k v xs) (d : DqAll K F xs ds) : ItOk K (ItS K k v) ds F := by
  refine ⟨fun H => SqV K H k v xs, YAt xs, by rw [← d.length]; exact walk_S h, h, fun i H y H' hi ⟨e1, e2⟩ => .inl ⟨e1, ?_⟩⟩
  obtain ⟨x, g, k⟩ := d.get e2
  exact ⟨x, g, k⟩
def zipInt (ds : List PyData) : List PyData := ds.mapIdx fun i x => .tuple [.int (i : Nat), x]
theorem itok_E {K : PySem.W.Frag} {k : Sk} {v : V} {xs : List V} {ds : List PyData} {F : Hp} (h : ∀ H, Sub F H → SqV K H k v xs) (d : DqAll K F xs ds) : ItOk K (ItE K k v) (zipInt ds) F := by
  have w := walk_E (K := K) (k := k) (v := v) (xs := xs) (fun _ _ _ _ => trivial)
  have e : xs.length = (zipInt ds).length := by unfold zipInt; rw [d.length, List.length_mapIdx]
  rw [e] at w
  refine ⟨_, _, w, h, fun i H y H' hi ⟨T, x, e1, e2, e3, e4⟩ => .inr ?_⟩
  obtain ⟨z, g, q⟩ := d.get e4
  refine ⟨T, _, [.int (i : Nat), z], e1, e2, e3, ?_, .cons (.int _) (.cons q .nil)⟩
  unfold zipInt
  rw [List.getElem?_mapIdx, g]; rfl
def zipD (ds es : List PyData) : List PyData := List.zipWith (fun x y => .tuple [x, y]) ds es
theorem itok_Z {K : PySem.W.Frag} {k k' : Sk} {v v' : V} {xs ys : List V} {ds es : List PyData} {F : Hp} (h : ∀ H, Sub F H → SqV K H k v xs) (d : DqAll K F xs ds) (h' : ∀ H, Sub F H → SqV K H k' v' ys) (d' : DqAll K F ys es) : ItOk K (ItZ K k k' v v') (zipD ds es) F := by
  have w := walk_Z (K := K) (k := k) (k' := k') (v := v) (v' := v') (xs := xs) (ys := ys)
  have e : min xs.length ys.length = (zipD ds es).length := by unfold zipD; rw [d.length, d'.length, List.length_zipWith]
  rw [e] at w
  refine ⟨_, _, w, fun H s => ⟨h H s, h' H s⟩, fun i H y H' hi ⟨T, x, y, e1, e2, e3, e4, e5⟩ => .inr ?_⟩
  obtain ⟨a, g, q⟩ := d.get e4
  obtain ⟨b, g', q'⟩ := d'.get e5
  refine ⟨T, _, [a, b], e1, e2, e3, ?_, .cons q (.cons q' .nil)⟩
  unfold zipD
  rw [List.getElem?_zipWith, g, g']
def rangeD (lo : Int) (n : Nat) : List PyData := (List.range n).map fun (i : Nat) => PyData.int (lo + (i : Int))
def downD (hi : Int) (n : Nat) : List PyData := (List.range n).map fun (i : Nat) => PyData.int (hi + (i : Int) * (-1))
theorem itok_R {K : PySem.W.Frag} {lo : Int} {n : Nat} {F : Hp} : ItOk K (Itr lo n) (rangeD lo n) F := by
  have w := walk_range (lo := lo) (n := n)
  have e : n = (rangeD lo n).length := by unfold rangeD; rw [List.length_map, List.length_range]
  have w' : Walk (Itr lo n) (rangeD lo n).length (fun _ => True) (YFn fun i => .int (lo + i)) := by rw [← e]; exact w
  refine ⟨_, _, w', fun _ _ => trivial, fun i H y H' hi ⟨e1, e2⟩ => .inl ⟨e1, .int (lo + i), ?_, by rw [e2]; exact .int _⟩⟩
  unfold rangeD
  rw [List.getElem?_map, List.getElem?_range (by omega)]; rfl
theorem itok_C {K : PySem.W.Frag} {hi : Int} {n : Nat} {F : Hp} : ItOk K (Itc hi (-1) n) (downD hi n) F := by
  have w := walk_rangeC (lo := hi) (c := -1) (n := n)
  have e : n = (downD hi n).length := by unfold downD; rw [List.length_map, List.length_range]
  have w' : Walk (Itc hi (-1) n) (downD hi n).length (fun _ => True) (YFn fun i => .int (hi + (i : Nat) * (-1))) := by rw [← e]; exact w
  refine ⟨_, _, w', fun _ _ => trivial, fun i H y H' hh ⟨e1, e2⟩ => .inl ⟨e1, .int (hi + i * (-1)), ?_, by rw [e2]; exact .int _⟩⟩
  unfold downD
  rw [List.getElem?_map, List.getElem?_range (by omega)]; rfl
/-- a value that is walked -/
def wiS (w : WE) : WI := fun env P Ex => w env (fun r e => match r.toD with
  | some x => (match itemsD x with
    | some ds => P ds (r.hold e)
    | none => False)
  | none => False) Ex
theorem evi_seq {e : Expr} {w : WE} (hK : X.K = G.K) (h : Ev G W X e w) : EvI G W X tg e (wiS w) := ⟨PI.imp (pi_seqV h.pe) fun σ H R q => by
  obtain ⟨C, dk, F, env, P, Ex, rfl, o, hw, f1, f2⟩ := q
  refine ⟨C, dk, F, env, _, Ex, rfl, o, hw, fun r e v H1 F1 p s1 l1 o1 k1 => ?_, f2⟩
  cases z : r.toD with
  | none => rw [z] at p; exact p.elim
  | some x =>
    rw [z] at p
    cases z2 : itemsD x with
    | none =>
      have p' : (match itemsD x with
        | some ds => P ds (r.hold e)
        | none => False) := p
      rw [z2] at p'; exact p'.elim
    | some ds =>
      have p' : (match itemsD x with
        | some ds => P ds (r.hold e)
        | none => False) := p
      rw [z2] at p'
      obtain ⟨F2, s2, o2, l2, k2⟩ := k1.held o1 z
      obtain ⟨k, vs, h1, h2⟩ := seq_of k2 z2
      rw [hK]
      exact ⟨k, vs, h1 _ o2.sub, f1 _ _ _ _ _ p' (s1.trans s2) (l1.trans l2) o2 (itok_S h1 h2)⟩⟩
def Small (i : Int) : Prop := -(2 ^ 62) ≤ i ∧ i < 2 ^ 62
/-- what is walked by a call: the arguments' data, a condition, the items -/
def wiC (c : List PyData → Prop) (op : List PyData → List PyData) (ws : List WE) : WI := fun env P Ex => wA ws env (fun rs e => match toDs rs with
  | some xs => c xs ∧ P (op xs) (holdAll rs e)
  | none => False) Ex
theorem L.iter {C : DC} {ws : List WE} {c : List PyData → Prop} {op : List PyData → List PyData} {dk : Dk} {σ : L2.St} {H F : Hp} {env : En} {P : List PyData → En → Prop} {Ex : Exn → En → Prop} {Q' : List V → Hp → Prop} (o : Ok C dk σ H F env) (h : wiC c op ws env P Ex)
    (f2 : ∀ x env' cls d H' F', Ex x env' → Sub F F' → EnLe env env' → Ok C dk σ H' F' env' → XOk C F' H' x cls d → W cls d σ H')
    (k : ∀ vs xs H2 F2 env2, DqAll C.g.K F2 vs xs → c xs → xs.length = ws.length → Ok C dk σ H2 F2 env2 → P (op xs) env2 → Sub F F2 → EnLe env env2 → Q' vs H2) : LA C.g W ws σ H Q' := by
  refine ⟨C, dk, F, env, _, Ex, rfl, o, h, fun rs e vs H1 F1 p n s1 l1 o1 k1 => ?_, f2⟩
  cases z : toDs rs with
  | none => rw [z] at p; exact p.elim
  | some xs =>
    rw [z] at p
    obtain ⟨F2, s2, o2, l2, k2⟩ := k1.held o1 z
    exact k vs xs H1 F2 _ k2 p.1 (by rw [← toDs_len z]; exact n) o2 p.2 (s1.trans s2) (l1.trans l2)
def cR1 : List PyData → Prop
  | [.int j] => Small j
  | _ => False
def oR1 : List PyData → List PyData
  | [.int j] => rangeD 0 j.toNat
  | _ => []
def cR2 : List PyData → Prop
  | [.int i, .int j] => Small i ∧ Small j
  | _ => False
def oR2 : List PyData → List PyData
  | [.int i, .int j] => rangeD i (j - i).toNat
  | _ => []
def cR3 : List PyData → Prop
  | [.int i, .int j, .int c] => c = -1 ∧ Small i ∧ Small j
  | _ => False
def oR3 : List PyData → List PyData
  | [.int i, .int j, .int _] => downD i (i - j).toNat
  | _ => []
variable {a b c : Expr} {w1 w2 w3 : WE} {p pos : Pos}
theorem evi_range1 (hm : X.mg "range" = none) (ha : EvA G W X [a] [w1]) (hg : Gl X "range" := by rfl) (hs : starEach [a] X.env = [(false, eval a X.env)] := by rfl) : EvI G W X tg (.Call (.Name "range" p) [a] [] pos) (wiC cR1 oR1 [w1]) := ⟨PI.imp (pi_range1 hg hm ha.pa hs) fun σ H R q => by
  obtain ⟨C, dk, F, env, P, Ex, rfl, o, hw, f1, f2⟩ := q
  refine L.iter o hw f2 fun vs xs H2 F2 env2 d e n o2 p2 s2 l2 => ?_
  match xs, e, d with
  | [.int j], e, d =>
    cases d with
    | cons d1 d2 =>
      cases d2; cases d1
      exact ⟨j, rfl, e.1, e.2, f1 _ _ _ _ _ p2 s2 l2 o2 itok_R⟩⟩
theorem evi_range2 (hm : X.mg "range" = none) (ha : EvA G W X [a, b] [w1, w2]) (hg : Gl X "range" := by rfl) (hs : starEach [a, b] X.env = [(false, eval a X.env), (false, eval b X.env)] := by rfl) (hs2 : starEach [b] X.env = [(false, eval b X.env)] := by rfl) :
    EvI G W X tg (.Call (.Name "range" p) [a, b] [] pos) (wiC cR2 oR2 [w1, w2]) := ⟨PI.imp (pi_range2 hg hm ha.pa hs hs2) fun σ H R q => by
  obtain ⟨C, dk, F, env, P, Ex, rfl, o, hw, f1, f2⟩ := q
  refine L.iter o hw f2 fun vs xs H2 F2 env2 d e n o2 p2 s2 l2 => ?_
  match xs, e, d with
  | [.int i, .int j], e, d =>
    cases d with
    | cons d1 d2 =>
      cases d2 with
      | cons d2 d3 =>
        cases d3; cases d2; cases d1
        exact ⟨i, j, rfl, ⟨e.1.1, e.1.2, e.2.1, e.2.2⟩, f1 _ _ _ _ _ p2 s2 l2 o2 itok_R⟩⟩
theorem evi_range3 (hm : X.mg "range" = none) (ha : EvA G W X [a, b, c] [w1, w2, w3]) (hg : Gl X "range" := by rfl)
    (hs : starEach [a, b, c] X.env = (false, eval a X.env) :: starEach [b, c] X.env := by rfl) (hs2 : (backTo pos (starEach [b, c] X.env)).any (·.1) = false := by rfl) :
    EvI G W X tg (.Call (.Name "range" p) [a, b, c] [] pos) (wiC cR3 oR3 [w1, w2, w3]) := ⟨PI.imp (pi_range3 hg hm ha.pa hs hs2) fun σ H R q => by
  obtain ⟨C, dk, F, env, P, Ex, rfl, o, hw, f1, f2⟩ := q
  refine L.iter o hw f2 fun vs xs H2 F2 env2 d e n o2 p2 s2 l2 => ?_
  match xs, e, d with
  | [.int i, .int j, .int k], e, d =>
    obtain ⟨rfl, e1, e2⟩ := e
    cases d with
    | cons d1 d2 =>
      cases d2 with
      | cons d2 d3 =>
        cases d3 with
        | cons d3 d4 =>
          cases d4; cases d3; cases d2; cases d1
          exact ⟨i, j, -1, _, rfl, RgC.neg e1.1 e1.2 e2.1 e2.2, f1 _ _ _ _ _ p2 s2 l2 o2 itok_C⟩⟩
def itemsL (x : PyData) : List PyData := (itemsD x).getD []
def cE : List PyData → Prop
  | [x] => (itemsD x).isSome = true
  | _ => False
def oE : List PyData → List PyData
  | [x] => zipInt (itemsL x)
  | _ => []
def cZ : List PyData → Prop
  | [x, y] => (itemsD x).isSome = true ∧ (itemsD y).isSome = true
  | _ => False
def oZ : List PyData → List PyData
  | [x, y] => zipD (itemsL x) (itemsL y)
  | _ => []
theorem items_some {x : PyData} (h : (itemsD x).isSome = true) : itemsD x = some (itemsL x) := by
  unfold itemsL
  cases e : itemsD x with
  | none => rw [e] at h; cases h
  | some y => rfl
variable {elts : List Expr} {kk : Nat} {tpos : Pos}
theorem evi_enum (hK : X.K = G.K) (hm : X.mg "enumerate" = none) (ha : EvA G W X [a] [w1]) (hg : Gl X "enumerate" := by rfl) (hs : starEach [a] X.env = [(false, eval a X.env)] := by rfl) : EvI G W X (.Tuple elts kk tpos) (.Call (.Name "enumerate" p) [a] [] pos) (wiC cE oE [w1]) := ⟨PI.imp (pi_enumV hg hm ha.pa hs) fun σ H R q => by
  obtain ⟨C, dk, F, env, P, Ex, rfl, o, hw, f1, f2⟩ := q
  refine L.iter o hw f2 fun vs xs H2 F2 env2 d e n o2 p2 s2 l2 => ?_
  match xs, e, d with
  | [x], e, d =>
    cases d with
    | cons d1 d2 =>
      cases d2
      obtain ⟨k, ws, h1, h2⟩ := seq_of d1 (items_some e)
      rw [hK]
      exact ⟨k, _, ws, rfl, h1 _ o2.sub, f1 _ _ _ _ _ p2 s2 l2 o2 (itok_E h1 h2)⟩⟩
theorem evi_zip (hK : X.K = G.K) (hm : X.mg "zip" = none) (ha : EvA G W X [a, b] [w1, w2]) (hg : Gl X "zip" := by rfl) (hs : starEach [a, b] X.env = (false, eval a X.env) :: starEach [b] X.env := by rfl) (hpl : (backTo pos (starEach [b] X.env)).any (·.1) = false := by rfl) :
    EvI G W X (.Tuple elts kk tpos) (.Call (.Name "zip" p) [a, b] [] pos) (wiC cZ oZ [w1, w2]) := ⟨PI.imp (pi_zipV hg hm ha.pa hs hpl) fun σ H R q => by
  obtain ⟨C, dk, F, env, P, Ex, rfl, o, hw, f1, f2⟩ := q
  refine L.iter o hw f2 fun vs xs H2 F2 env2 d e n o2 p2 s2 l2 => ?_
  match xs, e, d with
  | [x, y], e, d =>
    cases d with
    | cons d1 d2 =>
      cases d2 with
      | cons d2 d3 =>
        cases d3
        obtain ⟨k, ws, h1, h2⟩ := seq_of d1 (items_some e.1)
        obtain ⟨k', ws', h1', h2'⟩ := seq_of d2 (items_some e.2)
        rw [hK]
        exact ⟨k, _, ws, k', _, ws', rfl, h1 _ o2.sub, h1' _ o2.sub, f1 _ _ _ _ _ p2 s2 l2 o2 (itok_Z h1 h2 h1' h2')⟩⟩
end
end Dl

namespace Dl
open PySem PySem.Spec PyProof.Rows L2

/-! ### comprehensions -/
abbrev W0 : WX := fun _ _ _ _ => False
def wipeE : List Nat → En → En
  | [], e => e
  | v :: vs, e => (wipeE vs e).set v .no
def restE : List Nat → En → En → En
  | [], _, e3 => e3
  | v :: vs, e, e3 => (restE vs e e3).set v ((e[v]?).getD .no)
def frzAll : List Nat → En → En
  | [], e => e
  | v :: vs, e => frzAll vs (frz e v)
def wLcL (vs : List Nat) (t : WG) (c : WT) (w : WE) : List PyData → List PyData → En → (List PyData → En → Prop) → Prop
  | [], acc, env, K => K acc env
  | x :: xs, acc, env, K => t x (wipeE vs env) fun e1 => c e1 (fun b e2 => if b = true then w e2 (fun r e3 => match r.toD with
      | some y => wLcL vs t c w xs (acc ++ [y]) (restE vs env (r.hold e3)) K
      | none => False) (fun _ _ => False) else wLcL vs t c w xs acc (restE vs env e2) K) fun _ _ => False
def wLc (vs : List Nat) (i : WI) (t : WG) (c : WT) (w : WE) : WE := fun env P Ex => i env (fun xs e => xs.length ≤ sizeLine ∧ wLcL vs t c w xs [] (frzAll vs e) fun acc e' => P (.nw (.lst acc)) e') Ex
section
variable {C : DC} {dk : Dk} {σ : L2.St} {H F : Hp} {env : En}
theorem Ok.clear (o : Ok C dk σ H F env) (i : Nat) : Ok C dk (σ.set i none) H F (env.set i .no) where
  sub := o.sub
  len := by rw [List.length_set, List.length_set]; exact o.len
  slot := fun j s e => by
    rw [List.getElem?_set] at e
    by_cases h : i = j
    · subst h
      rw [if_pos rfl] at e
      by_cases hl : i < env.length
      · rw [if_pos hl] at e; cases e; trivial
      · rw [if_neg hl] at e; cases e
    · rw [if_neg h] at e
      have : gt (σ.set i none) j = gt σ j := by unfold gt; rw [List.getElem?_set_ne h]
      rw [this]; exact o.slot j s e
  sep := fun a b c c' p e1 e2 e3 e4 => by
    have n : ∀ {m : Nat} {c}, (env.set i .no)[m]? = some (Sl.own c) → m ≠ i ∧ env[m]? = some (.own c) := fun {m c} y => by
      rw [List.getElem?_set] at y
      by_cases h : i = m
      · subst h
        rw [if_pos rfl] at y
        split at y <;> cases y
      · rw [if_neg h] at y; exact ⟨Ne.symm h, y⟩
    have g : ∀ {m : Nat}, m ≠ i → gt (σ.set i none) m = gt σ m := fun {m} h => by unfold gt; rw [List.getElem?_set_ne (Ne.symm h)]
    rw [g (n e1).1] at e3
    rw [g (n e2).1] at e4
    exact o.sep a b c c' p (n e1).2 (n e2).2 e3 e4
  deck := o.deck
  base := o.base
  fnew := o.fnew
  f0 := o.f0
  dkr := o.dkr
theorem Ok.wipe (o : Ok C dk σ H F env) : ∀ vs : List Nat, Ok C dk (L2.wipe σ vs) H F (wipeE vs env)
  | [] => o
  | v :: vs => (Ok.wipe o vs).clear v
def NoOwn (vs : List Nat) (env : En) : Prop := ∀ j ∈ vs, ∀ c, env[j]? ≠ some (Sl.own c)
theorem NoOwn.le {vs : List Nat} {env env' : En} (n : NoOwn vs env) (l : ∀ (j : Nat) c, env'[j]? = some (Sl.own c) → env[j]? = some (.own c)) : NoOwn vs env' := fun j hj c e => n j hj c (l j c e)
theorem own_frz {env : En} {i j : Nat} {c : Cell} (h : (frz env i)[j]? = some (Sl.own c)) : env[j]? = some (.own c) ∧ j ≠ i := by
  rw [frz_get] at h
  by_cases e : j = i
  · rw [if_pos e] at h
    cases q : env[j]? with
    | none => rw [q] at h; cases h
    | some s =>
      rw [q] at h
      cases s <;> first | (cases h; done) | (rename_i c'; cases c' <;> cases h)
  · rw [if_neg e] at h; exact ⟨h, e⟩
theorem frzAll_no : ∀ (vs : List Nat) (env : En), NoOwn vs (frzAll vs env) ∧ ∀ (j : Nat) c, (frzAll vs env)[j]? = some (Sl.own c) → env[j]? = some (.own c)
  | [], env => ⟨fun j hj => absurd hj (by simp), fun _ _ h => h⟩
  | v :: vs, env => by
    obtain ⟨a, b⟩ := frzAll_no vs (frz env v)
    refine ⟨fun j hj c e => ?_, fun j c e => (own_frz (b j c e)).1⟩
    rcases List.mem_cons.mp hj with rfl | hj
    · exact (own_frz (b _ c e)).2 rfl
    · exact a j hj c e
theorem Ok.frzs : ∀ (vs : List Nat) {F : Hp} {env : En}, Ok C dk σ H F env → ∃ F', Sub F F' ∧ Ok C dk σ H F' (frzAll vs env) ∧ EnLe env (frzAll vs env)
  | [], F, env, o => ⟨F, Sub.refl F, o, EnLe.refl _⟩
  | v :: vs, F, env, o => by
    obtain ⟨F1, s1, o1, l1⟩ := o.freeze v
    obtain ⟨F2, s2, o2, l2⟩ := Ok.frzs vs o1
    exact ⟨F2, s1.trans s2, o2, l1.trans l2⟩
theorem restE_get {vs : List Nat} {e e3 : En} {j : Nat} : (restE vs e e3)[j]? = if j ∈ vs then (if j < e3.length then some ((e[j]?).getD .no) else none) else e3[j]? := by
  have hl : ∀ vs : List Nat, (restE vs e e3).length = e3.length := fun vs => by
    induction vs with
    | nil => rfl
    | cons v vs ih => show ((restE vs e e3).set v _).length = _; rw [List.length_set, ih]
  induction vs with
  | nil => rw [if_neg (by simp)]; rfl
  | cons v vs ih =>
    show ((restE vs e e3).set v _)[j]? = _
    rw [List.getElem?_set, hl]
    by_cases h : v = j
    · subst h; rw [if_pos rfl, if_pos (List.mem_cons_self)]
    · rw [if_neg h, ih]
      by_cases h2 : j ∈ vs
      · rw [if_pos h2, if_pos (List.mem_cons_of_mem _ h2)]
      · rw [if_neg h2, if_neg (by simp [h2, Ne.symm h])]
theorem wipeE_get {vs : List Nat} {e : En} {j : Nat} (h : j ∉ vs) : (wipeE vs e)[j]? = e[j]? := by
  induction vs with
  | nil => rfl
  | cons v vs ih =>
    show ((wipeE vs e).set v _)[j]? = _
    rw [List.getElem?_set_ne (by rintro rfl; exact h (by simp))]
    exact ih fun z => h (List.mem_cons_of_mem _ z)
theorem wipe_get {vs : List Nat} {τ : L2.St} {j : Nat} : (L2.wipe τ vs)[j]? = if j ∈ vs then (if j < τ.length then some none else none) else τ[j]? := by
  induction vs with
  | nil => rw [if_neg (by simp)]; rfl
  | cons v vs ih =>
    show ((L2.wipe τ vs).set v none)[j]? = _
    rw [List.getElem?_set, wipe_length]
    by_cases h : v = j
    · subst h; rw [if_pos rfl, if_pos (List.mem_cons_self)]
    · rw [if_neg h, ih]
      by_cases h2 : j ∈ vs
      · rw [if_pos h2, if_pos (List.mem_cons_of_mem _ h2)]
      · rw [if_neg h2, if_neg (by simp [h2, Ne.symm h])]
theorem chg_wipe {vs sl : List Nat} {σ σ' : L2.St} (c : Chg sl (L2.wipe σ vs) σ') (hs : ∀ j ∈ sl, j ∈ vs) : L2.wipe σ' vs = L2.wipe σ vs := by
  have hl : σ'.length = σ.length := by rw [c.1, wipe_length]
  apply List.ext_getElem?
  intro j
  rw [wipe_get, wipe_get, hl]
  by_cases h : j ∈ vs
  · rw [if_pos h, if_pos h]
  · rw [if_neg h, if_neg h]
    have := c.2 j fun z => h (hs j z)
    rw [wipe_get, if_neg h] at this
    exact this
theorem gt_eq {σ σ' : L2.St} {j : Nat} (h : σ'[j]? = σ[j]?) : gt σ' j = gt σ j := by unfold gt; rw [h]
/-- behind a turn: the block's own names are forgotten, the def's stand as they stood -/
theorem Ok.rest {vs : List Nat} {σ' : L2.St} {H' F' : Hp} {env' : En} (o : Ok C dk σ H F env) (o3 : Ok C dk σ' H' F' env') (s : Sub F F') (no : NoOwn vs env) (hw : L2.wipe σ' vs = L2.wipe σ vs) : Ok C dk σ H' F' (restE vs env env') := by
  have hl : σ'.length = σ.length := by have := congrArg List.length hw; rw [wipe_length, wipe_length] at this; exact this
  have hle : env'.length = env.length := by rw [← o3.len, hl, o.len]
  have hg : ∀ j, j ∉ vs → σ'[j]? = σ[j]? := fun j h => by
    have := congrArg (fun l => l[j]?) hw
    simp only [wipe_get, if_neg h] at this
    exact this
  have out : ∀ {j : Nat} {c}, (restE vs env env')[j]? = some (Sl.own c) → j ∉ vs ∧ env'[j]? = some (.own c) := fun {j c} e => by
    rw [restE_get] at e
    by_cases h : j ∈ vs
    · rw [if_pos h] at e
      split at e <;> first | (cases e; done) | skip
      cases q : env[j]? with
      | none => rw [q] at e; cases e
      | some z => rw [q] at e; cases e; exact absurd q (no j h c)
    · rw [if_neg h] at e; exact ⟨h, e⟩
  refine ⟨o3.sub, ?_, fun j z e => ?_, fun a b c c' p e1 e2 e3 e4 => ?_, o3.deck, o3.base, o3.fnew, o3.f0, o3.dkr⟩
  · have : (restE vs env env').length = env'.length := by
      clear out hg hw hl no s
      induction vs with
      | nil => rfl
      | cons v vs ih => show ((restE vs env env').set v _).length = _; rw [List.length_set, ih]
    rw [this, hle, o.len]
  · rw [restE_get] at e
    by_cases h : j ∈ vs
    · rw [if_pos h] at e
      split at e <;> first | (cases e; done) | skip
      cases e
      cases q : env[j]? with
      | none => trivial
      | some z =>
        have k := o.slot j z q
        show SlOk C dk H' F' z (gt σ j)
        cases z with
        | no => trivial
        | d x => obtain ⟨v, e1, k1⟩ := k; exact ⟨v, e1, k1.mono s⟩
        | own c => exact absurd q (no j h c)
        | deck => exact k
        | opq y => exact k
    · rw [if_neg h] at e
      have k := o3.slot j z e
      rw [gt_eq (hg j h)] at k
      exact k
  · obtain ⟨n1, g1⟩ := out e1
    obtain ⟨n2, g2⟩ := out e2
    rw [← gt_eq (hg a n1)] at e3
    rw [← gt_eq (hg b n2)] at e4
    exact o3.sep a b c c' p g1 g2 e3 e4
/-- an object is guarded: all that runs leaves it as it is -/
abbrev DC.guard (C : DC) (D : Addr) (u : HO) : DC := { C with B := upd C.B D u }
theorem Ok.guard {D : Addr} {u : HO} (o : Ok C dk σ H F env) (hu : H D = some u) (off : Off dk D) (no : ∀ (i : Nat) c', env[i]? = some (.own c') → gt σ i ≠ some (.ref D)) (nf : F D = none) : Ok (C.guard D u) dk σ H F env where
  sub := o.sub
  len := o.len
  slot := fun j z e => by
    have k := o.slot j z e
    cases z with
    | own c =>
      obtain ⟨p, e1, k⟩ := k
      have np : p ≠ D := fun q => no j c e (by rw [← q]; exact e1)
      exact ⟨p, e1, k.nf, by show upd C.B D u p = none; rw [upd_ne np]; exact k.nb, k.off, k.at_⟩
    | _ => exact k
  sep := o.sep
  deck := o.deck
  base := fun a w e f => by
    by_cases q : a = D
    · subst q
      have e' : upd C.B a u a = some w := e
      rw [upd_same] at e'; rw [← e']; exact hu
    · have e' : upd C.B D u a = some w := e
      rw [upd_ne q] at e'; exact o.base a w e' f
  fnew := fun a w e f => by
    have na : a ≠ D := fun q => by rw [q, nf] at e; cases e
    show upd C.B D u a = none
    rw [upd_ne na]; exact o.fnew a w e f
  f0 := o.f0
  dkr := by
    rcases o.dkr with w | ⟨w1, w2⟩
    · exact .inl w
    · refine .inr ⟨w1, fun da dl e => ?_⟩
      obtain ⟨n1, n2⟩ := off da dl e
      obtain ⟨b1, b2⟩ := w2 da dl e
      exact ⟨by show upd C.B D u da = none; rw [upd_ne (Ne.symm n1)]; exact b1, by show upd C.B D u dl = none; rw [upd_ne (Ne.symm n2)]; exact b2⟩
theorem Ok.unguard {D : Addr} {u : HO} {σ' : L2.St} {H' F' : Hp} {env' : En} (o : Ok (C.guard D u) dk σ' H' F' env') (nb : C.B D = none) (off : Off dk D) (nf0 : C.F0 D = none) :
    Ok C dk σ' H' F' env' ∧ H' D = some u ∧ F' D = none ∧ ∀ (i : Nat) c', env'[i]? = some (.own c') → gt σ' i ≠ some (.ref D) := by
  have offk : Off C.dk0 D := by
    rcases o.dkr with w | ⟨w, _⟩
    · intro da dl e; exact off da dl (w.trans e)
    · intro da dl e
      have w' : C.dk0 = none := w
      rw [w'] at e; cases e
  have nF : F' D = none := by
    cases q : F' D with
    | none => rfl
    | some w =>
      have z : upd C.B D u D = none := o.fnew D w q nf0
      rw [upd_same] at z; cases z
  have low : ∀ {a}, upd C.B D u a = none → C.B a = none := fun {a} e => by
    by_cases q : a = D
    · rw [q]; exact nb
    · rw [upd_ne q] at e; exact e
  refine ⟨⟨o.sub, o.len, fun j z e => ?_, o.sep, o.deck, fun a w e f => ?_, fun a w e f => low (o.fnew a w e f), o.f0, ?_⟩, o.base D u upd_same offk, nF, fun i c' e q => ?_⟩
  · have k := o.slot j z e
    cases z with
    | own c => obtain ⟨p, e1, k⟩ := k; exact ⟨p, e1, k.nf, low k.nb, k.off, k.at_⟩
    | _ => exact k
  · have na : a ≠ D := fun q => by rw [q, nb] at e; cases e
    exact o.base a w (by show upd C.B D u a = some w; rw [upd_ne na]; exact e) f
  · rcases o.dkr with w | ⟨w1, w2⟩
    · exact .inl w
    · exact .inr ⟨w1, fun da dl e => ⟨low (w2 da dl e).1, low (w2 da dl e).2⟩⟩
  · obtain ⟨p, e1, k⟩ := o.slot i _ e
    rw [q] at e1; cases e1
    have z : upd C.B D u D = none := k.nb
    rw [upd_same] at z; cases z
/-- a cell that no name has is written -/
theorem Ok.write {D : Addr} {u : HO} (o : Ok C dk σ H F env) (nf : F D = none) (nb : C.B D = none) (off : Off dk D) (no : ∀ (i : Nat) c', env[i]? = some (.own c') → gt σ i ≠ some (.ref D)) : Ok C dk σ (upd H D u) F env where
  sub := fun a w e => by
    have na : a ≠ D := fun q => by rw [q, nf] at e; cases e
    rw [upd_ne na]; exact o.sub a w e
  len := o.len
  slot := fun j z e => by
    have k := o.slot j z e
    cases z with
    | own c =>
      obtain ⟨p, e1, k⟩ := k
      have np : p ≠ D := fun q => no j c e (by rw [← q]; exact e1)
      obtain ⟨ho, w, k2⟩ := k.at_
      exact ⟨p, e1, k.nf, k.nb, k.off, ho, by rw [upd_ne np]; exact w, k2⟩
    | _ => exact k
  sep := o.sep
  deck := by
    have d := o.deck
    cases dk with
    | none => trivial
    | some kk =>
      obtain ⟨da, dl⟩ := kk
      obtain ⟨a1, a2, a3, o1, o2, h1, h2, a4⟩ := d
      obtain ⟨n1, n2⟩ := off da dl rfl
      exact ⟨a1, a2, a3, o1, o2, by rw [upd_ne (Ne.symm n1)]; exact h1, by rw [upd_ne (Ne.symm n2)]; exact h2, a4⟩
  base := fun a w e f => by
    have na : a ≠ D := fun q => by rw [q, nb] at e; cases e
    rw [upd_ne na]; exact o.base a w e f
  fnew := o.fnew
  f0 := o.f0
  dkr := o.dkr
end
structure EvTs (G : DG) (W : WX) (X : Cx) (ifs : List Expr) (w : WT) : Prop where
  pt : PTs X ifs (LT G W w)
def tYesW : WT := fun env P _ => P true env
section
variable {G : DG} {W : WX} {X : Cx}
theorem evts_nil : EvTs G W X [] tYesW := ⟨⟨fun pins s σ H Q I q => by
  obtain ⟨C, dk, F, env, P, Ex, rfl, o, h1, f1, f2⟩ := q
  exact pts_nil.run pins s σ H Q I (f1 _ _ _ _ h1 (Sub.refl F) (EnLe.refl _) o)⟩⟩
theorem evts_one {c : Expr} {w : WT} (h : EvT G W X c w) : EvTs G W X [c] w := ⟨pts_one h.pt⟩
theorem L.lc {C : DC} {wi : WI} {sl vs : List Nat} {t : WG} {c : WT} {we : WE} {dk : Dk} {σ : L2.St} {H F : Hp} {env : En} {P : R → En → Prop} {Ex : Exn → En → Prop} {Q : VK} (hsl : ∀ j ∈ sl, j ∈ vs) (o : Ok C dk σ H F env) (hw : wLc vs wi t c we env P Ex) (f : Fin C W dk σ F env P Ex Q) :
    tLc (LI C.g W wi) (LG C.g sl t) (LT C.g W0 c) (L C.g W0 we) vs σ H Q := by
  refine ⟨C, dk, F, env, _, Ex, rfl, o, hw, fun xs env1 H1 F1 J p s1 l1 o1 it => ?_, fun x e c d H' F' p s l o' q => f.2 x e c d H' F' p s l o' q trivial⟩
  intro D hD
  obtain ⟨hz, p⟩ := p
  obtain ⟨Gd, Y, wk, hG, hY⟩ := it
  obtain ⟨F2, s2, o2, l2⟩ := Ok.frzs vs o1
  have off := o2.offNew hD
  have nb := o2.nb hD
  have nf2 := o2.sub.free0 hD
  have o3 := Ok.up o2 (o2.newCell (.lst []) hD) (Sub.refl F2)
  refine lc_it wk (fun i H => ∃ F env acc vsD, Ok (C.at F2) dk σ H F env ∧ EnLe (frzAll vs env1) env ∧ i ≤ xs.length ∧ acc.length ≤ i ∧ H D = some (.lst vsD) ∧ DqAll C.g.K F vsD acc ∧ F D = none ∧ (∀ (i : Nat) c', env[i]? = some (.own c') → gt σ i ≠ some (.ref D)) ∧ wLcL vs t c we (xs.drop i) acc env (fun acc e' => P (.nw (.lst acc)) e'))
    ⟨F2, _, [], [], o3, EnLe.refl _, Nat.zero_le _, Nat.le_refl _, upd_same, .nil, nf2, o2.ownNe hD, p⟩ (fun i H _ ⟨F, env, _, _, o, _⟩ => hG H ((s2.trans o.f0).trans o.sub)) ?_ ?_
  · rintro i v H4 H5 hlt ⟨F4, env4, acc, vsD, o4, l4, hle, hla, hD4, dq4, nf4, no4, w4⟩ y
    have og := o4.guard hD4 off no4 nf4
    obtain ⟨d, F5, e5, s5, o5, k5⟩ := It.step (C := (C.at F2).guard D (.lst vsD)) (J := J) (F1 := F1) og (s2.trans o4.f0) hlt y hY
    rw [drop_cons e5] at w4
    have nO : NoOwn vs env4 := (frzAll_no vs env1).1.le fun j c e => by
      cases q : (frzAll vs env1)[j]? with
      | none =>
        have h1 : (frzAll vs env1).length ≤ j := List.getElem?_eq_none_iff.mp q
        have h2 : j < env4.length := (List.getElem?_eq_some_iff.mp e).1
        have h3 : env4.length = (frzAll vs env1).length := by rw [← o4.len, ← o2.len]
        omega
      | some z =>
        rcases l4 j z q with k | ⟨c', x, _, _, k⟩
        · rw [e] at k; cases k; rfl
        · rw [e] at k; cases k
    have next : ∀ (H8 F9 : Hp) (σ6 : L2.St) (e9 : En) , Ok ((C.at F2).guard D (.lst vsD)) dk σ6 H8 F9 e9 → Sub F5 F9 → L2.wipe σ6 vs = L2.wipe σ vs → EnLe (wipeE vs env4) e9 ∨ (∃ e6, Chg sl (wipeE vs env4) e6 ∧ EnLe e6 e9) →
        ∃ o : Ok (C.at F2) dk σ H8 F9 (restE vs env4 e9), EnLe (frzAll vs env1) (restE vs env4 e9) ∧ H8 D = some (.lst vsD) ∧ DqAll C.g.K F9 vsD acc ∧ F9 D = none ∧ (∀ (i : Nat) c', (restE vs env4 e9)[i]? = some (.own c') → gt σ i ≠ some (.ref D)) := fun H8 F9 σ6 e9 o9 s9 hw9 le9 => by
      have o10 := Ok.rest o5 o9 s9 nO hw9
      obtain ⟨o11, hD8, nf9, no11⟩ := o10.unguard nb off nf2
      refine ⟨o11, l4.trans fun j z e => ?_, hD8, dq4.mono (s5.trans s9), nf9, no11⟩
      have hlen : j < e9.length := by
        have h1 : j < env4.length := (List.getElem?_eq_some_iff.mp e).1
        have h2 := congrArg List.length hw9
        rw [wipe_length, wipe_length] at h2
        rw [← o9.len, h2, o4.len]; exact h1
      rw [restE_get]
      by_cases hj : j ∈ vs
      · rw [if_pos hj, if_pos hlen, e]; exact .inl rfl
      · rw [if_neg hj]
        rcases le9 with le | ⟨e6, c6, le⟩
        · exact le j z (by rw [wipeE_get hj]; exact e)
        · exact le j z (by rw [c6.2 j fun q => hj (hsl j q), wipeE_get hj]; exact e)
    refine ⟨(C.at F2).guard D (.lst vsD), dk, F5, wipeE vs env4, d, _, rfl, o5.wipe vs, k5, w4, fun env6 σ6 p6 c6 ce6 o6 => ?_⟩
    have hw6 := chg_wipe c6 hsl
    refine ⟨hw6, (C.at F2).guard D (.lst vsD), dk, F5, env6, _, _, rfl, o6, p6, fun b e7 H7 F7 p7 s7 l7 o7 => ?_, fun _ _ _ _ _ _ z => z.elim⟩
    cases b with
    | false =>
      obtain ⟨o8, h1, h2, h3, h4, h5⟩ := next H7 F7 σ6 e7 o7 s7 hw6 (.inr ⟨env6, ce6, l7⟩)
      exact ⟨F7, _, acc, vsD, o8, h1, hlt, by omega, h2, h3, h4, h5, p7⟩
    | true =>
      refine ⟨(C.at F2).guard D (.lst vsD), dk, F7, e7, _, _, rfl, o7, p7, fun r e8 v8 H8 F8 p8 s8 l8 o8 k8 => ?_, fun _ _ _ _ _ _ z => z.elim⟩
      cases z : r.toD with
      | none => rw [z] at p8; exact p8.elim
      | some x =>
        rw [z] at p8
        obtain ⟨F9, s9, o9, l9, k9⟩ := k8.held o8 z
        obtain ⟨o10, h1, h2, h3, h4, h5⟩ := next H8 F9 σ6 (r.hold e8) o9 ((s7.trans s8).trans s9) hw6 (.inr ⟨env6, ce6, (l7.trans l8).trans l9⟩)
        refine ⟨vsD, h2, by rw [h3.length]; omega, F9, _, acc ++ [x], vsD ++ [v8], o10.write h4 nb off h5, h1, hlt, by rw [List.length_append]; simp; omega, upd_same, h3.snoc k9, h4, h5, p8⟩
  · rintro H4 ⟨F4, env4, acc, vsD, o4, l4, hle, hla, hD4, dq4, nf4, no4, w4⟩
    rw [List.drop_length] at w4
    have o4' := Ok.down o2 o4
    exact f.1 _ _ _ _ _ w4 ((s1.trans s2).trans o4.f0) ((l1.trans l2).trans l4) o4' ⟨D, rfl, ⟨nf4, nb, off, _, hD4, dq4⟩, no4⟩
theorem ev_lc {elt tg iter : Expr} {ifs : List Expr} {scope : Scope} {own : List (Str × Nat)} {pos : Pos} {wi : WI} {sl : List Nat} {t : WG} {c : WT} {we : WE} (hN : X.N.Nodup) (hi : EvI G W X tg iter wi) (ok : BlkOk X.N X.env.scope scope own)
    (hg : ∀ (s : Shared) (H : Hp) (C : Addr) (cl : List (Str × Addr)) (fp : List Addr), EvG G (X.blk s H scope (compEnvC scope cl C X.env) fp) tg sl t)
    (ht : ∀ (s : Shared) (H : Hp) (C : Addr) (cl : List (Str × Addr)) (fp : List Addr), EvTs G W0 (X.blk s H scope (compEnvC scope cl C X.env) fp) ifs c)
    (he : ∀ (s : Shared) (H : Hp) (C : Addr) (cl : List (Str × Addr)) (fp : List Addr), Ev G W0 (X.blk s H scope (compEnvC scope cl C X.env) fp) elt we) (hc : X.calm = true := by rfl) (hsl : ∀ j ∈ sl, j ∈ own.map (·.2) := by decide)
    (hs : ∀ x, foldedSetIterable iter X.env x = pure x := by intro _; rfl) : Ev G W X (.ListComp elt [⟨tg, iter, ifs, 0⟩] scope pos) (wLc (own.map (·.2)) wi t c we) :=
  Ev.of (pe_lc hc hN hi.pi ok (fun s H C cl fp => (hg s H C cl fp).pg) (fun s H C cl fp => (ht s H C cl fp).pt) (fun s H C cl fp => (he s H C cl fp).pe) hs) fun C hC dk σ H F env P Ex Q o hw f => by
    subst hC
    exact L.lc hsl o hw f
/-- name = [..] on one line, the name a local -/
theorem evs_setLc {i : Nat} {y : Str} {py : Pos} {elt tg iter : Expr} {ifs : List Expr} {scope : Scope} {own : List (Str × Nat)} {pos spos : Pos} {wi : WI} {sl : List Nat} {t : WG} {c : WT} {we : WE} (hN : X.N.Nodup)
    (hi : EvI G W X tg iter wi) (ok : BlkOk X.N X.env.scope scope own)
    (hg : ∀ (s : Shared) (H : Hp) (C : Addr) (cl : List (Str × Addr)) (fp : List Addr), EvG G (X.blk s H scope (compEnvC scope cl C X.env) fp) tg sl t)
    (ht : ∀ (s : Shared) (H : Hp) (C : Addr) (cl : List (Str × Addr)) (fp : List Addr), EvTs G W0 (X.blk s H scope (compEnvC scope cl C X.env) fp) ifs c)
    (he : ∀ (s : Shared) (H : Hp) (C : Addr) (cl : List (Str × Addr)) (fp : List Addr), Ev G W0 (X.blk s H scope (compEnvC scope cl C X.env) fp) elt we) (hc : X.calm = true := by rfl) (hsl : ∀ j ∈ sl, j ∈ own.map (·.2) := by decide)
    (hy : X.N[i]? = some y := by rfl) (hyl : X.env.scope.names.lookup y = some .local := by rfl) (hsw : swapsWith (.ListComp elt [⟨tg, iter, ifs, 0⟩] scope pos) (some (.Name y py)) spos.line X.env = pure true := by exact sw_true rfl rfl rfl (by decide +kernel))
    (hs : ∀ x, foldedSetIterable iter X.env x = pure x := by intro _; rfl) : EvS G W X (.Assign [.Name y py] (.ListComp elt [⟨tg, iter, ifs, 0⟩] scope pos) spos) (wSet i (wLc (own.map (·.2)) wi t c we)) :=
  ⟨PS.imp (ps_setLc hc hN hy hyl hsw hi.pi ok (fun s H C cl fp => (hg s H C cl fp).pg) (fun s H C cl fp => (ht s H C cl fp).pt) (fun s H C cl fp => (he s H C cl fp).pe) hs) fun D σ H q => by
    obtain ⟨C, dk, F, env, P, rfl, o, hw, f⟩ := q
    exact L.lc hsl o hw ⟨fun r e v H' F' p s l o' k => by
      obtain ⟨F2, o2⟩ := k.store i o'
      exact f.nx _ _ _ _ _ p o2, fun x e c d H' F' p _ _ o' q _ => f.ex x e c d σ H' F' dk p o' q⟩⟩
end
end Dl

namespace Dl
open PySem PySem.Spec PyProof.Rows L2
/-! ### calls by names -/
structure EvK (G : DG) (W : WX) (X : Cx) (kws : List Keyword) (ws : List WE) : Prop where
  pk : PK X kws (LA G W ws)
theorem PK.imp {X : Cx} {es : List Keyword} {t u : TA} (h : PK X es t) (i : ∀ σ H Q, u σ H Q → t σ H Q) : PK X es u := ⟨fun pos pins s σ H Q I q => h.run pos pins s σ H Q I (i σ H Q q)⟩
section
variable {G : DG} {W : WX} {X : Cx}
theorem evk_nil : EvK G W X [] [] := ⟨PK.imp pk_nil fun σ H Q h => by
  obtain ⟨C, dk, F, env, P, Ex, e, o, h1, f1, f2⟩ := h
  exact f1 _ _ _ _ _ h1 rfl (Sub.refl F) (EnLe.refl _) o trivial⟩
theorem evk_cons {e : Expr} {nm : Option Str} {kpos : Pos} {es : List Keyword} {w : WE} {ws : List WE} (h : Ev G W X e w) (hr : EvK G W X es ws) : EvK G W X (⟨nm, e, kpos⟩ :: es) (w :: ws) := by
  refine ⟨PK.imp (pk_cons h.pe hr.pk) fun σ H Q q => ?_⟩
  obtain ⟨C, dk, F, env, P, Ex, rfl, o, h1, f1, f2⟩ := q
  refine ⟨C, dk, F, env, fun r e => wA ws e (fun rs e' => P (r.calm :: rs) e') Ex, Ex, rfl, o, h1, fun r env1 v H1 F1 p s1 l1 o1 k1 => ?_, f2⟩
  obtain ⟨F2, s2, o2, k2, st⟩ := k1.calmed o1
  have s12 := s1.trans s2
  refine ⟨C, dk, F2, env1, fun rs e' => P (r.calm :: rs) e', Ex, rfl, o2, p, fun rs env3 vs H3 F3 p3 n3 s3 l3 o3 k3 => ?_, fun x env' cls d H' F' p' s' l' o' k' => f2 x env' cls d H' F' p' (s12.trans s') (l1.trans l') o' k'⟩
  exact f1 _ _ _ _ _ p3 (congrArg Nat.succ n3) (s12.trans s3) (l1.trans l3) o3 ⟨⟨st, k2.keep st s3 l3⟩, k3⟩
/-- by the places idx -/
def prm {α : Type} (idx : List Nat) (l : List α) : List α := idx.filterMap fun i => l[i]?
theorem ROks.at {C : DC} {dk : Dk} {σ : L2.St} {H F : Hp} {env : En} : ∀ {rs : List R} {vs : List V} (i : Nat), ROks C dk σ H F env rs vs → (rs[i]? = none ∧ vs[i]? = none) ∨ ∃ r v, rs[i]? = some r ∧ vs[i]? = some v ∧ r.still ∧ ROk C dk σ H F env r v
  | [], [], _, _ => .inl ⟨rfl, rfl⟩
  | r :: rs, v :: vs, 0, h => .inr ⟨r, v, rfl, rfl, h.1.1, h.1.2⟩
  | r :: rs, v :: vs, i + 1, h => by
    rcases ROks.at i h.2 with ⟨a, b⟩ | ⟨r', v', a, b, c⟩
    · exact .inl ⟨by simpa using a, by simpa using b⟩
    · exact .inr ⟨r', v', by simpa using a, by simpa using b, c⟩
  | [], _ :: _, _, h => h.elim
  | _ :: _, [], _, h => h.elim
theorem ROks.prm {C : DC} {dk : Dk} {σ : L2.St} {H F : Hp} {env : En} {rs : List R} {vs : List V} (h : ROks C dk σ H F env rs vs) : ∀ idx : List Nat, ROks C dk σ H F env (prm idx rs) (prm idx vs)
  | [] => trivial
  | i :: idx => by
    unfold Dl.prm
    rcases ROks.at i h with ⟨a, b⟩ | ⟨r, v, a, b, c⟩
    · rw [List.filterMap_cons, List.filterMap_cons, a, b]; exact ROks.prm h idx
    · rw [List.filterMap_cons, List.filterMap_cons, a, b]; exact ⟨c, ROks.prm h idx⟩
theorem vals_at : ∀ {vs : List V} {us : List Value} (i : Nat), Vals vs us → (vs[i]? = none ∧ us[i]? = none) ∨ ∃ v u, vs[i]? = some v ∧ us[i]? = some u ∧ RelV v u
  | [], [], _, _ => .inl ⟨rfl, rfl⟩
  | v :: vs, u :: us, 0, .cons r _ => .inr ⟨v, u, rfl, rfl, r⟩
  | v :: vs, u :: us, i + 1, .cons _ t => by
    rcases vals_at i t with ⟨a, b⟩ | ⟨r', v', a, b, c⟩
    · exact .inl ⟨by simpa using a, by simpa using b⟩
    · exact .inr ⟨r', v', by simpa using a, by simpa using b, c⟩
theorem Vals.prm {vs : List V} {us : List Value} (h : Vals vs us) : ∀ idx : List Nat, Vals (prm idx vs) (prm idx us)
  | [] => .nil
  | i :: idx => by
    unfold Dl.prm
    rcases vals_at i h with ⟨a, b⟩ | ⟨r, v, a, b, c⟩
    · rw [List.filterMap_cons, List.filterMap_cons, a, b]; exact Vals.prm h idx
    · rw [List.filterMap_cons, List.filterMap_cons, a, b]; exact .cons c (Vals.prm h idx)
theorem prm_len {α : Type} {l : List α} : ∀ {idx : List Nat}, (∀ i ∈ idx, i < l.length) → (prm idx l).length = idx.length
  | [], _ => rfl
  | i :: idx, h => by
    unfold prm
    have hi := h i List.mem_cons_self
    rw [List.filterMap_cons, List.getElem?_eq_getElem hi]
    exact congrArg Nat.succ (prm_len fun j hj => h j (List.mem_cons_of_mem _ hj))
def wCallK (f : FSem) (idx : List Nat) (ws : List WE) : WE := fun env P Ex => wA ws env (fun rs e => f ((prm idx rs).map argOf) (fun t => match t with
  | .deck => False
  | t => P t (if t.flat = true then e else holdAll (prm idx rs) e)) fun x => Ex x (holdAll (prm idx rs) e)) Ex
variable {x : Str} {p pos : Pos} {kws : List Keyword} {ws : List WE} {st : Stmt} {k : Nat} {ps ks : List Str} {f : FSem} {idx : List Nat}
/-- f(k = e, ..) -/
theorem ev_callK (D : Fg X.prog X.w G X.base x st k ps f) (c : Ctx0 G X) (tk : Takes X W) (hr : Room k X.A) (ha : EvK G W X kws ws)
    (hb : ∀ (kV doc pm : Value) (an : Option Addr) (cdv ct : Value) (us : List Value), us.length = ks.length → bindArgs (PySem.W.fnOf x x (defArgs st) (defBody st) (defScope st) .none kV doc pm an cdv ct) ⟨[], ks.zip us⟩ = pure (ps.zip (prm idx us)))
    (hlen : ws.length = ks.length := by rfl) (hidx : ∀ i ∈ idx, i < ks.length := by decide) (hps : idx.length = ps.length := by rfl) (hg : Gl X x := by rfl) (hd : (x == ("__debug__" : Str)) = false := by decide)
    (hall : (backToKw pos (keywordEach kws X.env)).all (·.1.isSome) = true := by rfl) (hks : (backToKw pos (keywordEach kws X.env)).filterMap (·.1) = ks := by rfl)
    (hpl : ((backTo pos (starEach [] X.env)).any (·.1) || (backToKw pos (keywordEach kws X.env)).any (·.1.isNone)) = false := by rfl) : Ev G W X (.Call (.Name x p) [] kws pos) (wCallK f idx ws) := by
  obtain ⟨a, fd, hm, Fn, run⟩ := D.ex
  refine ⟨⟨fun pins s σ H Q I q => ?_⟩⟩
  obtain ⟨C, dk, F, env, P, Ex, hC, o, hw, fin⟩ := q.fin
  subst hC
  have hk : PySem.W.keepIn X.K (.ref a) = true := by rw [c.K]; exact Fn.kp
  refine wpAny_Call_Name_kw (ld_glob I hg (by rw [c.mg]; exact hm) ?_ hd)
  have q2 : LA C.g W ws σ H fun vs H1 => vs.length = ks.length ∧ spOf C.g f (prm idx vs) H1 Q (L2.WE W σ) :=
    L.args (Q := Q) (P := P) (Ex := Ex) (g := fun rs e P Ex => f ((prm idx rs).map argOf) (fun t => match t with
      | .deck => False
      | t => P t (if t.flat = true then e else holdAll (prm idx rs) e)) fun x => Ex x (holdAll (prm idx rs) e)) o hw fin fun rs vs H1 F1 env1 n1 o1 k1 h1 f1 =>
        ⟨by rw [← k1.len, n1]; exact hlen, L.call (W := W) o1 (k1.prm idx) h1 f1 fun _ _ _ z => z⟩
  refine PySem.W.callWith_KW0 (h₀ := X.base) I.ok.mod.kin hk hall (thn (ha.pk.run pos pins s σ H _ I q2) fun us s1 ⟨vs, H1, I1, rv, hl, hsp⟩ => ⟨I1.kIn, ?_⟩) hpl
  rw [hks]
  have e1 : us.length = ks.length := by rw [← rv.length]; exact hl
  obtain ⟨oc, od, kV, doc, pm, an, cdv, ct, osl, efd, lk, hcd⟩ := Fn.ex
  have bind : BindsTo s1 fd ⟨[], ks.zip us⟩ (ps.zip (prm idx us)) := by rw [efd]; exact BindsTo.of_eq (hb kV doc pm an cdv ct us e1)
  have hl2 : (prm idx vs).length = ps.length := by rw [prm_len fun i hi => by rw [hl]; exact hidx i hi]; exact hps
  exact run_fg (args := ⟨[], ks.zip us⟩) ⟨c.mg, c.K⟩ tk hr ⟨c.g, c.sys⟩ run I1 (Vals.prm rv idx) hl2 bind hsp
/-! ### f() -/
def wCall0 (f : FSem) : WE := wCall f []
theorem ev_call0 (D : Fg X.prog X.w G X.base x st k [] f) (c : Ctx0 G X) (tk : Takes X W) (hr : Room k X.A)
    (hb : ∀ (kV doc pm : Value) (an : Option Addr) (cdv ct : Value), bindArgs (PySem.W.fnOf x x (defArgs st) (defBody st) (defScope st) .none kV doc pm an cdv ct) ⟨[], []⟩ = pure [])
    (hg : Gl X x := by rfl) (hd : (x == ("__debug__" : Str)) = false := by decide) : Ev G W X (.Call (.Name x p) [] [] pos) (wCall f []) := by
  obtain ⟨a, fd, hm, Fn, run⟩ := D.ex
  refine ⟨⟨fun pins s σ H Q I q => ?_⟩⟩
  obtain ⟨C, dk, F, env, P, Ex, hC, o, hw, fin⟩ := q.fin
  subst hC
  have hk : PySem.W.keepIn X.K (.ref a) = true := by rw [c.K]; exact Fn.kp
  refine wpAny_Call_Name_kw (ld_glob I hg (by rw [c.mg]; exact hm) ?_ hd)
  refine PySem.W.callWith_K0 I.kIn hk ?_
  obtain ⟨oc, od, kV, doc, pm, an, cdv, ct, osl, efd, lk, hcd⟩ := Fn.ex
  have hw' : f ([] : List R) (fun t => match t with
      | .deck => False
      | t => P t (if t.flat = true then env else holdAll [] env)) fun x => Ex x (holdAll [] env) := hw
  exact run_fg (args := ⟨[], []⟩) (us := []) (vs := []) ⟨c.mg, c.K⟩ tk hr ⟨c.g, c.sys⟩ run I .nil rfl (by rw [efd]; exact BindsTo.of_eq (hb kV doc pm an cdv ct)) (L.call (W := W) (rs := []) o trivial hw' fin fun _ _ _ z => z)

/-! ### repr -/
/-- keys of dicts that are told as they are (None as the first key tells an instance) -/
def okK : PyData → Bool
  | .none => false
  | _ => true
mutual
def okD : PyData → Bool
  | .list xs => okA xs
  | .tuple xs => okA xs
  | .dict kvs => okV kvs
  | _ => true
def okA : List PyData → Bool
  | [] => true
  | x :: xs => okD x && okA xs
def okV : List (PyData × PyData) → Bool
  | [] => true
  | (k, v) :: r => okK k && (okD v && okV r)
end
theorem okV_zip : ∀ {ks xs : List PyData}, ks.length = xs.length → okV (ks.zip xs) = true → okA xs = true
  | [], [], _, _ => rfl
  | k :: ks, x :: xs, hl, h => by
    rw [List.zip_cons_cons, okV, Bool.and_eq_true_iff, Bool.and_eq_true_iff] at h
    rw [okA, Bool.and_eq_true_iff]
    exact ⟨h.2.1, okV_zip (by simpa using hl) h.2.2⟩
  | [], _ :: _, hl, _ => by simp at hl
  | _ :: _, [], hl, _ => by simp at hl
theorem readsNo : ∀ {as bs : List Addr}, sysModules ∉ as → sysModules ∉ bs → sysModules ∉ as ++ bs := fun h k z => (List.mem_append.mp z).elim h k
theorem readsNo1 : ∀ {a : Addr} {as : List Addr}, a ≠ sysModules → sysModules ∉ as → sysModules ∉ a :: as := fun h k z => by
  rcases List.mem_cons.mp z with q | q
  · exact h q.symm
  · exact k q
theorem offSys {pins : List (Addr × Obj)} {σ : L2.St} {H : Hp} {s : Shared} (I : Inv X pins σ H s) (sys : SysB X.base) {a : Addr} {u : HO} (h : H a = some u) : a ≠ sysModules := fun z => by
  obtain ⟨o, e⟩ := sys
  have := (I.env0.bs _ _ e).2
  rw [← z, h] at this
  cases this
/-- a dict's entries are read -/
theorem readsMix {P : Program} {w : World} {h : Heap} : ∀ {kvs : List (Key × V)} {vs : List (Key × Value)} {es : List DictEntry}, KV kvs vs → PySem.Pairs (mixKind P w) es vs →
    ReadsAll h (es.map (·.key)) (kvs.map fun p => kD p.1) [] ∧ Vals (kvs.map (·.2)) (es.map (·.val))
  | [], [], [], .nil, .nil => ⟨.nil, .nil⟩
  | (k, v) :: kvs, (k', u) :: vs, e :: es, .cons ⟨e1, r⟩ hk, .cons h1 h2 h3 => by
    obtain ⟨q1, q2⟩ := readsMix hk h3
    have e1' : k = k' := e1
    subst e1'
    have h2' : e.val = u := h2
    refine ⟨?_, .cons (show RelV v e.val by rw [h2']; exact r) q2⟩
    rcases keyIs_shape (show keyIs k e.key = true from h1) with ⟨i, t, rfl, ek⟩ | ⟨x, t, rfl, ek⟩
    · have := ReadsAll.cons (ek ▸ Reads.int i t) q1
      exact this
    · have := ReadsAll.cons (ek ▸ Reads.str x t) q1
      exact this
theorem readsKeys {P : Program} {w : World} {h : Heap} {pins : List (Addr × Obj)} {σ : L2.St} {H : Hp} {s : Shared} (I : Inv X pins σ H s) (sys : SysB X.base) : ∀ (ks : List Key) (us : List Value), Vals (ks.map kV) us → ReadsAll s.heap us (ks.map kD) []
  | [], [], .nil => .nil
  | .inl i :: ks, _ :: us, .cons r rr => by
    obtain ⟨t, rfl⟩ := r
    exact ReadsAll.cons (Reads.int i t) (readsKeys (P := P) (w := w) (h := h) I sys ks us rr)
  | .inr x :: ks, _ :: us, .cons r rr => by
    obtain ⟨t, rfl⟩ := r
    exact ReadsAll.cons (Reads.str x t) (readsKeys (P := P) (w := w) (h := h) I sys ks us rr)
theorem readsTup {pins : List (Addr × Obj)} {σ : L2.St} {H : Hp} {s : Shared} (I : Inv X pins σ H s) (sys : SysB X.base) : ∀ {kvs : List (List Key × V)} {xs : List (List Key × Addr × Value)},
    Paired (fun (p : List Key × V) (q : List Key × Addr × Value) => p.1 = q.1 ∧ H q.2.1 = some (.tup (p.1.map kV)) ∧ RelV p.2 q.2.2) kvs xs →
    ReadsAll s.heap ((xs.map (entryOfKey (tupleKind (mixKind X.prog X.w)))).map (·.key)) (kvs.map fun p => tD p.1) [] ∧ Vals (kvs.map (·.2)) ((xs.map (entryOfKey (tupleKind (mixKind X.prog X.w)))).map (·.val))
  | [], [], .nil => ⟨.nil, .nil⟩
  | (k, v) :: kvs, (k', a, u) :: xs, .cons ⟨e1, e2, r⟩ hk => by
    obtain ⟨q1, q2⟩ := readsTup I sys hk
    obtain ⟨its, rv, ⟨o, ho, hc, n, hd⟩, _⟩ := I.tuple (.inl (.inl e2) : SqT X.K H a (k.map kV))
    exact ⟨ReadsAll.cons (Reads.tuple ho hc hd (readsKeys (P := X.prog) (w := X.w) (h := s.heap) I sys k its rv)) q1, .cons r q2⟩
mutual
theorem Dq.reads {pins : List (Addr × Obj)} {σ : L2.St} {H : Hp} {s : Shared} (I : Inv X pins σ H s) (sys : SysB X.base) : ∀ (d : PyData) (v : V) (u : Value), okD d = true → Dq X.K H v d → RelV v u → ∃ as, Reads s.heap u d as ∧ sysModules ∉ as
  | .none, _, _, _, h, r => by cases h; cases r; exact ⟨_, Reads.none, fun z => nomatch z⟩
  | .bool b, _, _, _, h, r => by cases h; cases r; exact ⟨_, Reads.bool b, fun z => nomatch z⟩
  | .int i, _, _, _, h, r => by cases h; obtain ⟨t, rfl⟩ := r; exact ⟨_, Reads.int i t, fun z => nomatch z⟩
  | .str x, _, _, _, h, r => by cases h; obtain ⟨t, rfl⟩ := r; exact ⟨_, Reads.str x t, fun z => nomatch z⟩
  | .list ds, _, _, ok, h, r => by
    cases h with
    | lst hs ha =>
      cases r
      obtain ⟨its, rv, ⟨o, n, ho, hc, _, hd⟩, _⟩ := I.list (SqL.of hs)
      obtain ⟨as, hr, no⟩ := Dq.readsAll I sys ds _ its (by rw [okD] at ok; exact ok) ha rv
      exact ⟨_, Reads.list ho hc hd hr, readsNo1 (offSys I sys hs) no⟩
  | .tuple ds, _, _, ok, h, r => by
    cases h with
    | tup hs ha =>
      cases r
      obtain ⟨its, rv, ⟨o, ho, hc, n, hd⟩, _⟩ := I.tuple hs
      obtain ⟨as, hr, no⟩ := Dq.readsAll I sys ds _ its (by rw [okD] at ok; exact ok) ha rv
      exact ⟨_, Reads.tuple ho hc hd hr, no⟩
  | .dict kvs, _, _, ok, h, r => by
    rw [okD] at ok
    cases h with
    | dic h1 h2 h3 =>
      rename_i a kv xs
      cases r
      have e1 : (kv.map fun p => kD p.1).length = xs.length := by rw [← h2.length]; simp
      obtain ⟨_, hz, vs, q1, o, es, ep, q2, q3, q4, _, q5, _⟩ := (show ObjOk X.prog X.w H s.heap a (.dK kv) from I.hok a _ h1)
      obtain ⟨r1, r2⟩ := readsMix (h := s.heap) q1 q5
      subst h3
      have m1 : (((kv.map fun p => kD p.1).zip xs).map (·.1)) = kv.map fun p => kD p.1 := List.map_fst_zip (by omega)
      have m2 : (((kv.map fun p => kD p.1).zip xs).map (·.2)) = xs := List.map_snd_zip (by omega)
      obtain ⟨as, hr, no⟩ := Dq.readsVals I sys ((kv.map fun p => kD p.1).zip xs) _ _ ok (by rw [m2]; exact h2) r2
      exact ⟨_, Reads.dict q2 q3.1 q4 (by rw [m1]; exact r1) hr, readsNo (readsNo1 (as := []) (offSys I sys h1) List.not_mem_nil) no⟩
    | dct h0 h1 h2 h3 =>
      rename_i a kv xs
      cases r
      have e1 : (kv.map fun p => tD p.1).length = xs.length := by rw [← h2.length]; simp
      obtain ⟨_, hz, ys, q1, o, es, ep, q2, q3, q4, q5, _⟩ := (show ObjOk X.prog X.w H s.heap a (.dT kv) from I.hok a _ h1)
      obtain ⟨r1, r2⟩ := readsTup I sys q1
      subst h3
      have m1 : (((kv.map fun p => tD p.1).zip xs).map (·.1)) = kv.map fun p => tD p.1 := List.map_fst_zip (by omega)
      have m2 : (((kv.map fun p => tD p.1).zip xs).map (·.2)) = xs := List.map_snd_zip (by omega)
      rw [← q5] at r1 r2
      obtain ⟨as, hr, no⟩ := Dq.readsVals I sys ((kv.map fun p => tD p.1).zip xs) _ _ ok (by rw [m2]; exact h2) r2
      exact ⟨_, Reads.dict q2 q3.1 q4 (by rw [m1]; exact r1) hr, readsNo (readsNo1 (as := []) (offSys I sys h1) List.not_mem_nil) no⟩
    | ins h0 h1 h2 h3 => subst h3; cases ok
    | exc h1 h2 h3 => subst h3; cases ok
theorem Dq.readsAll {pins : List (Addr × Obj)} {σ : L2.St} {H : Hp} {s : Shared} (I : Inv X pins σ H s) (sys : SysB X.base) : ∀ (ds : List PyData) (vs : List V) (us : List Value), okA ds = true → DqAll X.K H vs ds → Vals vs us → ∃ as, ReadsAll s.heap us ds as ∧ sysModules ∉ as
  | [], _, _, _, h, r => by cases h; cases r; exact ⟨[], ReadsAll.nil, fun z => nomatch z⟩
  | d :: ds, _, _, ok, h, r => by
    rw [okA, Bool.and_eq_true_iff] at ok
    cases h with
    | cons h1 h2 =>
      cases r with
      | cons r1 r2 =>
        obtain ⟨as, q1, n1⟩ := Dq.reads I sys d _ _ ok.1 h1 r1
        obtain ⟨bs, q2, n2⟩ := Dq.readsAll I sys ds _ _ ok.2 h2 r2
        exact ⟨_, ReadsAll.cons q1 q2, readsNo n1 n2⟩
theorem Dq.readsVals {pins : List (Addr × Obj)} {σ : L2.St} {H : Hp} {s : Shared} (I : Inv X pins σ H s) (sys : SysB X.base) : ∀ (kvs : List (PyData × PyData)) (vs : List V) (us : List Value), okV kvs = true → DqAll X.K H vs (kvs.map (·.2)) → Vals vs us → ∃ as, ReadsAll s.heap us (kvs.map (·.2)) as ∧ sysModules ∉ as
  | [], _, _, _, h, r => by cases h; cases r; exact ⟨[], ReadsAll.nil, fun z => nomatch z⟩
  | (k, d) :: kvs, _, _, ok, h, r => by
    rw [okV, Bool.and_eq_true_iff, Bool.and_eq_true_iff] at ok
    cases h with
    | cons h1 h2 =>
      cases r with
      | cons r1 r2 =>
        obtain ⟨as, q1, n1⟩ := Dq.reads I sys d _ _ ok.2.1 h1 r1
        obtain ⟨bs, q2, n2⟩ := Dq.readsVals I sys kvs _ _ ok.2.2 h2 r2
        exact ⟨_, ReadsAll.cons q1 q2, readsNo n1 n2⟩
end
def dRepr : OpN := fun xs P => match xs with
  | [d] => d.showable = true ∧ okD d = true ∧ d.depth ≤ 60 ∧ d.shown.length ≤ sizeLine ∧ P (.d (.str d.shown))
  | _ => False
def rReprD (K : PySem.W.Frag) : List V → Hp → VK → Prop := fun xs H Q => ∃ x d, xs = [x] ∧ Dq K H x d ∧ d.showable = true ∧ okD d = true ∧ d.depth ≤ 60 ∧ d.shown.length ≤ sizeLine ∧ Q (.str d.shown) H
theorem call_reprD (hg : X.A.guards = some []) (sys : SysB X.base) (hu : X.A.units + 65 < cLine) : CallR X (.builtin "repr") (rReprD X.K) := by
  intro pins s σ H xs us Q I r h
  obtain ⟨x, d, rfl, hd, hs, hn, hdp, hz, q⟩ := h
  obtain ⟨u, rfl, rx⟩ := vals1 r
  obtain ⟨as, rd, no⟩ := Dq.reads I sys d x u hn hd rx
  cases u with
  | ref a =>
    exact repr_of_reads' rd hs (fun _ => no) hg (by omega) (fun _ _ e => e) (fun h' u' tk kk => ⟨.str d.shown, H, I.kept (t' := tk) kk, ⟨_, rfl⟩, q⟩) hz
  | none => cases rd; exact PySem.P.repr_of_none ⟨.str _, H, I.tok _, ⟨_, rfl⟩, q⟩
  | bool b => cases rd; exact PySem.P.repr_of_bool ⟨.str _, H, I.tok _, ⟨_, rfl⟩, q⟩
  | int i t =>
    cases rd
    have hs' : decide (i.natAbs.log2 < 1920) = true := hs
    exact PySem.P.repr_of_int (of_decide_eq_true hs') ⟨.str _, H, I.tok _, ⟨_, rfl⟩, q⟩
  | str z t => cases rd; exact PySem.P.repr_of_str ⟨.str _, H, I.tok _, ⟨_, rfl⟩, q⟩ hz
  | _ => cases rd
theorem snd_repr : SndN G (rReprD G.K) dRepr := by
  intro C hC dk σ H F env rs vs xs Q P o k e h q
  subst hC
  match xs, h with
  | [d], h =>
    obtain ⟨r, v, rfl, rfl, k1, e1⟩ := k.one e
    exact ⟨v, d, rfl, k1.dp o e1, h.1, h.2.1, h.2.2.1, h.2.2.2.1, q _ _ _ _ h.2.2.2.2 (Sub.refl F) o (Dq.str _)⟩
variable {e : Expr} {es : List Expr}
theorem ev_repr (c : Ctx0 G X) (hm : X.mg "repr" = none) (ha : EvA G W X (e :: es) ws) (hg : Gl X "repr" := by rfl)
    (he : starEach (e :: es) X.env = (false, eval e X.env) :: starEach es X.env := by rfl) (hpl : (backTo pos (starEach es X.env)).any (·.1) = false := by rfl) : Ev G W X (.Call (.Name "repr" p) (e :: es) [] pos) (wB dRepr ws) :=
  ev_callB (by have := call_reprD c.g c.sys c.un; rw [c.K] at this; exact this) snd_repr hm (by decide +kernel) ha hg (by decide) (by decide) he hpl
end
end Dl

namespace Dl
open PySem PySem.Spec PyProof.Rows L2
/-! ### a def by its data -/
def slOf : R → Sl
  | .d x => .d x
  | .deck => .deck
  | .opq v => .opq v
  | _ => .no
def startE (N : List Str) (us : List R) : En := us.map slOf ++ List.replicate (N.length - us.length) .no
theorem ArgsOk.at {g : DG} {dk : Dk} {F : Hp} : ∀ {us : List R} {vs : List V} {i : Nat} {r : R}, ArgsOk g dk F us vs → us[i]? = some r → ∃ v, vs[i]? = some v ∧ (match r with
    | .d x => Dq g.K F v x
    | .deck => ∃ da dl, dk = some (da, dl) ∧ v = .ref da
    | .opq y => v = y
    | _ => False)
  | r :: us, v :: vs, 0, _, h, e => ⟨v, rfl, by cases e; exact h.1⟩
  | r :: us, v :: vs, i + 1, r', h, e => by
    obtain ⟨v', e1, k⟩ := ArgsOk.at (i := i) h.2 (by simpa using e)
    exact ⟨v', by simpa using e1, k⟩
  | [], _, _, _, _, e => by simp at e
  | _ :: _, [], _, _, h, _ => h.elim
/-- the ends of a def's body -/
def rtP (P : R → Prop) : R → Prop
  | .deck => False
  | r => P r
def bodyP (P : R → Prop) (Ex : Exn → Prop) : Pd := ⟨fun _ => P (.d .none), rtP P, fun _ => False, fun _ => False, fun x _ => Ex x⟩
theorem start_at {N : List Str} {vs : List V} {i : Nat} (hi : i < vs.length) : gt (L2.start N vs) i = vs[i]? := by
  unfold gt L2.start
  rw [List.getElem?_append_left (by rw [List.length_map]; exact hi), List.getElem?_map, List.getElem?_eq_getElem hi]
  rfl
theorem body_run {g : DG} {N : List Str} {f : FSem} {vs : List V} {H : Hp} {Q : VK} {E : XK} {wb : WS} (hN : vs.length ≤ N.length) (hf : ∀ us P Ex, f us P Ex → wb (startE N us) (bodyP P Ex)) (h : spOf g f vs H Q E) :
    LS g (fun cls d _ H => E cls d H) wb { nx := fun _ H' => Q .non H', rt := Q } (L2.start N vs) H := by
  obtain ⟨F, dk, us, sF, dO, aO, P, Ex, hfu, hP, hE⟩ := h
  have lu : us.length = vs.length := ArgsOk.len aO
  have aft : ∀ {dk1 : Dk} {σ1 : L2.St} {H1 F1 : Hp} {env1 : En}, Ok ⟨g, H, F, dk⟩ dk1 σ1 H1 F1 env1 → Aft g dk H F H1 F1 := fun {dk1 σ1 H1 F1 env1} o => by
    refine ⟨o.f0, o.sub, fun a u e z => o.fnew a u e z, fun a u e z => o.base a u e z, ?_⟩
    rcases o.dkr with q | ⟨q, _⟩
    · have := o.deck
      rw [q] at this
      exact this
    · have q' : dk = none := q
      rw [q']
      trivial
  refine ⟨⟨g, H, F, dk⟩, dk, F, startE N us, bodyP P Ex, rfl, ⟨sF, ?_, fun i s e => ?_, fun i j c c' p e _ _ _ => ?_, dO, fun a u e _ => e, fun a u e z => ?_, Sub.refl F, .inl rfl⟩, hf us P Ex hfu, ⟨fun env σ H1 F1 dk1 p o => ?_, fun _ _ _ _ _ p _ => p.elim, fun _ _ _ _ _ p _ => p.elim, fun r v env σ H1 F1 dk1 p o k => ?_, fun x env cls d σ H1 F1 dk1 p o k => ?_⟩⟩
  · unfold L2.start startE
    simp [lu]
  · unfold startE at e
    by_cases hi : i < us.length
    · rw [List.getElem?_append_left (by rw [List.length_map]; exact hi), List.getElem?_map] at e
      cases er : us[i]? with
      | none => rw [er] at e; cases e
      | some r =>
        rw [er] at e
        have es : slOf r = s := Option.some.inj e
        obtain ⟨v, ev, k⟩ := ArgsOk.at aO er
        have hg : gt (L2.start N vs) i = some v := by rw [start_at (by omega)]; exact ev
        rw [← es, hg]
        cases r with
        | d x => exact ⟨v, rfl, k⟩
        | deck => obtain ⟨da, dl, e1, e2⟩ := k; exact ⟨da, dl, e1, by rw [e2]⟩
        | opq y => have k' : v = y := k; exact congrArg some k'
        | nw c => exact k.elim
        | bw j c => exact k.elim
    · rw [List.getElem?_append_right (by rw [List.length_map]; omega), List.getElem?_replicate] at e
      by_cases hz : i - (us.map slOf).length < N.length - us.length
      · rw [if_pos hz] at e
        cases e
        trivial
      · rw [if_neg hz] at e; cases e
  · unfold startE at e
    by_cases hi : i < us.length
    · rw [List.getElem?_append_left (by rw [List.length_map]; exact hi), List.getElem?_map] at e
      cases er : us[i]? with
      | none => rw [er] at e; cases e
      | some r =>
        rw [er] at e
        have es : slOf r = .own c := Option.some.inj e
        cases r <;> cases es
    · rw [List.getElem?_append_right (by rw [List.length_map]; omega), List.getElem?_replicate] at e
      by_cases hz : i - (us.map slOf).length < N.length - us.length
      · rw [if_pos hz] at e; cases e
      · rw [if_neg hz] at e; cases e
  · have z' : F a = none := z
    rw [z'] at e; cases e
  · exact hP (.d .none) .non H1 F1 p (aft o) Dq.non
  · cases r with
    | d x => exact hP (.d x) v H1 F1 p (aft o) k
    | nw c =>
      obtain ⟨a, rfl, k1⟩ := k
      refine hP (.nw c) _ H1 F1 p (aft o) ⟨a, rfl, k1.nf, k1.nb, ?_, k1.at_⟩
      rcases o.dkr with q | ⟨q, _⟩
      · have := k1.off
        rw [q] at this
        exact this
      · have q' : dk = none := q
        rw [q']
        exact fun _ _ z => by cases z
    | bw i c => exact k.elim
    | deck => exact False.elim p
    | opq y => exact hP (.opq y) v H1 F1 p (aft o) k
  · exact hE x cls d H1 F1 p (aft o) k
section
variable {P : Program} {w : World} {g : DG} {base : Heap} {x : Str} {st : Stmt} {k : Nat} {ps N : List Str} {f : FSem} {a : Addr} {fd : FuncData} {wb : WS}
/-- what is known where a def's body runs -/
structure Bc (P : Program) (w : World) (g : DG) (base : Heap) (k : Nat) (W : WX) (X : Cx) : Prop where
  c : Ctx0 g X
  r : Room k X.A
  t : Takes X W
  p : PassesOwn (model X.prog X.w) X.A X.env X.xe
  pr : X.prog = P
  w : X.w = w
  b : X.base = base
theorem fg_dl (hm : g.mg x = some (.ref a)) (F : L2.Fun g.K x x st a fd) (S : FnScope N ps (defScope st))
    (hb : ∀ (cdv : Value) (A : Around) (outer : List Env) (s : Shared) (H : Hp) (E : XK), Bc P w g base k (fun cls d _ H => E cls d H) (cxOf (L2.CX P w) P w g.K g.mg base N x (defScope st) a cdv A outer s H E) → EvB g (fun cls d _ H => E cls d H) (cxOf (L2.CX P w) P w g.K g.mg base N x (defScope st) a cdv A outer s H E) (defBody st) wb)
    (hf : ∀ us P Ex, f us P Ex → wb (startE N us) (bodyP P Ex)) : Fg P w g base x st (k + 1) ps f := by
  refine fg_of hm F S fun cdv A outer s H vs Q E hr hg hl hsp => ?_
  refine ⟨_, (hb cdv A outer s H E ⟨⟨rfl, rfl, ?_, hg.1, hg.2⟩, hr, takes_of rfl rfl rfl rfl, passes_of rfl, rfl, rfl, rfl⟩).ps, body_run ?_ hf hsp⟩
  · have := hr.un
    show (A.deeper _).units + 65 < cLine
    omega
  · have := congrArg List.length S.pre
    rw [List.length_take] at this
    omega
end
/-! contexts of blocks, of a try's body -/
section
variable {G : DG} {X : Cx} {P : Program} {w : World} {base : Heap} {k : Nat} {W : WX}
theorem Ctx0.blk (c : Ctx0 G X) {s : Shared} {H : Hp} {sc : Scope} {ce : Env} {fp : List Addr} : Ctx0 G (X.blk s H sc ce fp) := ⟨c.K, c.mg, c.un, c.g, c.sys⟩
theorem Ctx0.tr (c : Ctx0 G X) {pn : List (Addr × Obj)} {xe : Value → Shared → Prop} : Ctx0 G (X.tr pn xe) := ⟨c.K, c.mg, c.un, c.g, c.sys⟩
/-- .. of an expression -/
structure Bx (P : Program) (w : World) (g : DG) (base : Heap) (k : Nat) (W : WX) (X : Cx) : Prop where
  c : Ctx0 g X
  r : Room k X.A
  t : Takes X W
  pr : X.prog = P
  w : X.w = w
  b : X.base = base
theorem Bc.bx (c : Bc P w G base k W X) : Bx P w G base k W X := ⟨c.c, c.r, c.t, c.pr, c.w, c.b⟩
theorem Bx.blk (c : Bx P w G base k W X) {s : Shared} {H : Hp} {sc : Scope} {ce : Env} {fp : List Addr} : Bx P w G base k W0 (X.blk s H sc ce fp) := ⟨c.c.blk, c.r, takes0, c.pr, c.w, c.b⟩
theorem Bc.tr (c : Bc P w G base k W X) {W' : WX} {pn : List (Addr × Obj)} {xe : Value → Shared → Prop} (t : Takes (X.tr pn xe) W') (p : PassesOwn (model X.prog X.w) X.A X.env xe) : Bc P w G base k W' (X.tr pn xe) := ⟨c.c.tr, c.r, t, p, c.pr, c.w, c.b⟩
/-- a, b, c = x, y, z with plain local names -/
def wPar3 (i j l : Nat) (wa wb wc : WE) : WS := fun env P => wA [wa, wb, wc] env (fun rs e => match toDs rs with
  | some [x, y, z] => P.nx ((((holdAll rs e).set i (.d x)).set j (.d y)).set l (.d z))
  | _ => False) P.ex
theorem evs_par3 {i j l : Nat} {x y z : Str} {a b c : Expr} {wa wb wc : WE} {px py pz pt pos : Pos} {kt k2 pt2} (hN : X.N.Nodup) (h : EvA G W X [a, b, c] [wa, wb, wc]) (hc : X.calm = true := by rfl) (hi : X.N[i]? = some x := by rfl) (hj : X.N[j]? = some y := by rfl) (hl : X.N[l]? = some z := by rfl)
    (hij : i ≠ j := by decide) (hil : i ≠ l := by decide) (hjl : j ≠ l := by decide) (hx : X.env.scope.names.lookup x = some .local := by rfl) (hy : X.env.scope.names.lookup y = some .local := by rfl) (hz : X.env.scope.names.lookup z = some .local := by rfl)
    (hw : swappedStores [.Tuple [.Name x px, .Name y py, .Name z pz] kt pt] (.Tuple [a, b, c] k2 pt2) X.env = pure (some [x, y, z]) := by rfl)
    (hs : swapsWithSole [.Tuple [.Name x px, .Name y py, .Name z pz] kt pt] (.Tuple [a, b, c] k2 pt2) pos.line X.env = pure false := by rfl) :
    EvS G W X (.Assign [.Tuple [.Name x px, .Name y py, .Name z pz] kt pt] (.Tuple [a, b, c] k2 pt2) pos) (wPar3 i j l wa wb wc) := ⟨PS.imp (ps_par3 hc hN hi hj hl hij hil hjl hx hy hz h.pa hw hs) fun D σ H q => by
  obtain ⟨C, dk, F, env, P, rfl, o, hw, f⟩ := q
  refine ⟨C, dk, F, env, _, P.ex, rfl, o, hw, fun rs e vs H' F' p n s l' o' k => ?_, fun x e c d H' F' p _ _ o' q => f.ex x e c d σ H' F' dk p o' q⟩
  cases zz : toDs rs with
  | none => rw [zz] at p; exact p.elim
  | some xs =>
    rw [zz] at p
    match xs, p with
    | [x, y, z], p =>
      obtain ⟨F2, s2, o2, l2, k2⟩ := k.held o' zz
      match vs, k2 with
      | [v1, v2, v3], .cons q1 (.cons q2 (.cons q3 .nil)) =>
        have o3 := o2.store (i := i) (s := .d x) ⟨_, rfl, q1⟩ fun c e => by cases e
        have o4 := o3.store (i := j) (s := .d y) ⟨_, rfl, q2⟩ fun c e => by cases e
        have o5 := o4.store (i := l) (s := .d z) ⟨_, rfl, q3⟩ fun c e => by cases e
        exact ⟨v1, v2, v3, rfl, f.nx _ _ _ _ _ p o5⟩⟩
end
end Dl

namespace Dl
open PySem PySem.Spec PyProof.Rows L2
/-! ### slices -/
abbrev WO := En → (Option Int → En → Prop) → (Exn → En → Prop) → Prop
def LO (G : DG) (W : WX) (w : WO) : TO := fun σ H Q => ∃ (C : DC) (dk : Dk) (F : Hp) (env : En) (P : Option Int → En → Prop) (Ex : Exn → En → Prop), C.g = G ∧ Ok C dk σ H F env ∧ w env P Ex ∧
  (∀ b env' H' F', P b env' → Sub F F' → EnLe env env' → Ok C dk σ H' F' env' → Q b H') ∧
  (∀ x env' cls d H' F', Ex x env' → Sub F F' → EnLe env env' → Ok C dk σ H' F' env' → XOk C F' H' x cls d → W cls d σ H')
structure EvO (G : DG) (W : WX) (X : Cx) (e : Option Expr) (w : WO) : Prop where
  po : PO X e (LO G W w)
theorem PO.imp {X : Cx} {e : Option Expr} {t u : TO} (h : PO X e t) (i : ∀ σ H Q, u σ H Q → t σ H Q) : PO X e u := ⟨fun pins s σ H Q I q => h.run pins s σ H Q I (i σ H Q q)⟩
section
variable {G : DG} {W : WX} {X : Cx}
def oNone : WO := fun env P _ => P none env
def oSome (w : WE) : WO := fun env P Ex => w env (fun r e => match r.toD with
  | some (.int i) => P (some i) e
  | _ => False) Ex
theorem evo_none : EvO G W X none oNone := ⟨PO.imp po_none fun σ H Q q => by
  obtain ⟨C, dk, F, env, P, Ex, rfl, o, h, f1, f2⟩ := q
  exact f1 none env H F h (Sub.refl F) (EnLe.refl _) o⟩
theorem evo_some {e : Expr} {w : WE} (h : Ev G W X e w) : EvO G W X (some e) (oSome w) := ⟨PO.imp (po_some h.pe) fun σ H Q q => by
  obtain ⟨C, dk, F, env, P, Ex, rfl, o, h, f1, f2⟩ := q
  refine ⟨C, dk, F, env, _, Ex, rfl, o, h, fun r e v H' F' p s l o' k => ?_, f2⟩
  cases z : r.toD with
  | none => rw [z] at p; exact p.elim
  | some x =>
    rw [z] at p
    cases x <;> first | exact p.elim | skip
    exact ⟨_, k.int o' z, f1 _ e H' F' p s l o'⟩⟩
/-- a part cut out -/
def cutA {α : Type} (xs : List α) (lo hi : Option Int) : List α := (xs.drop (HT.sIx xs.length 0 lo)).take (HT.sIx xs.length xs.length hi - HT.sIx xs.length 0 lo)
theorem cutA_whole {α : Type} {xs : List α} {lo hi : Option Int} (h : HT.sIx xs.length 0 lo = 0 ∧ HT.sIx xs.length xs.length hi = xs.length) : cutA xs lo hi = xs := by
  unfold cutA
  rw [h.1, h.2, List.drop_zero, Nat.sub_zero, List.take_length]
theorem DqAll.cut {K : PySem.W.Frag} {F : Hp} {vs : List V} {ds : List PyData} (h : DqAll K F vs ds) (lo hi : Option Int) : DqAll K F (cutV vs lo hi) (cutA ds lo hi) := by
  unfold cutV cutA
  rw [h.length]
  exact (h.drop _).take _
def dSl (x : PyData) (lo hi : Option Int) (P : R → Prop) : Prop := match x with
  | .list xs => P (.nw (.lst (cutA xs lo hi)))
  | .tuple xs => P (.d (.tuple (cutA xs lo hi)))
  | .str z => z.length ≤ sizeLine ∧ P (.d (.str (cutS z lo hi)))
  | _ => False
def wSl (we : WE) (wl wh : WO) : WE := fun env P Ex => we env (fun r e1 => wl e1 (fun l e2 => wh e2 (fun h e3 => match r.calm.toD with
  | some x => dSl x l h fun t => P t e3
  | none => False) Ex) Ex) Ex
abbrev rSlAll (K : PySem.W.Frag) : V → Option Int → Option Int → Hp → VK → Prop := fun x lo hi H Q => rSlL K x lo hi H Q ∨ rSlA K x lo hi H Q ∨ rSlS x lo hi H Q
theorem snd_sl {C : DC} {dk : Dk} {σ : L2.St} {H F : Hp} {env : En} {r : R} {v : V} {x : PyData} {lo hi : Option Int} {Q : VK} {P : R → Prop} (o : Ok C dk σ H F env) (k : ROk C dk σ H F env r v) (e : r.toD = some x) (h : dSl x lo hi P)
    (q : ∀ t w H' F', P t → Sub F F' → Ok C dk σ H' F' env → ROk C dk σ H' F' env t w → Q w H') (kd : ∀ ds, x = .tuple ds → Dq C.g.K F v x) : rSlAll C.g.K v lo hi H Q := by
  cases x <;> first | exact h.elim | skip
  · rename_i z
    exact .inr (.inr ⟨z, k.str o e, h.1, q _ _ _ _ h.2 (Sub.refl F) o (Dq.str _)⟩)
  · obtain ⟨p1, vs1, rfl, a1, b1⟩ := k.lst o e
    exact .inl ⟨p1, vs1, rfl, SqL.of a1, fun p hp => q _ _ _ _ h (Sub.refl F) (o.newCell _ hp) (o.newPriv hp (show DqAll C.g.K F (cutV vs1 lo hi) _ from b1.cut lo hi))⟩
  · rename_i ds
    obtain ⟨p1, vs1, rfl, a1, b1⟩ := k.tup o e
    refine .inr (.inl ⟨p1, vs1, rfl, a1, fun hw => ?_, fun _ p hp => ?_⟩)
    · have h' : P (.d (.tuple (cutA ds lo hi))) := h
      rw [b1.length] at hw
      rw [cutA_whole hw] at h'
      exact q _ _ _ _ h' (Sub.refl F) o (kd _ rfl)
    · obtain ⟨F', s', o', k'⟩ := o.newTup hp (b1.cut lo hi)
      exact q _ _ _ _ h s' o' k'
theorem ROk.tupD {C : DC} {dk : Dk} {σ : L2.St} {H F : Hp} {env : En} {r : R} {v : V} {ds : List PyData} (k : ROk C dk σ H F env r v) (e : r.toD = some (.tuple ds)) : Dq C.g.K F v (.tuple ds) := by
  cases r with
  | d y => cases e; exact k
  | nw c => cases c <;> cases e
  | bw i c => cases c <;> cases e
  | deck => cases e
  | opq z => cases e
variable {e : Expr} {lo hi : Option Expr} {we : WE} {wl wh : WO} {pos p2 : Pos}
theorem ev_slice (c : Ctx0 G X) (he : Ev G W X e we) (hl : EvO G W X lo wl) (hh : EvO G W X hi wh) : Ev G W X (.Subscript e (.Slice lo hi none p2) pos) (wSl we wl wh) := by
  have hs : SlR X (rSlAll G.K) := by
    have := SlR.or (sl_list (X := X)) (SlR.or (sl_tupA (X := X)) sl_str)
    rw [c.K] at this
    exact this
  refine Ev.of (pe_slice hs he.pe hl.po hh.po) fun C hC dk σ H F env P Ex Q o h f => ?_
  subst hC
  refine L.stepC (g := fun r e1 P Ex => wl e1 (fun l e2 => wh e2 (fun h e3 => match r.toD with
    | some x => dSl x l h fun t => P t e3
    | none => False) Ex) Ex) o h f fun r v H1 F1 env1 o1 k1 st s1 l1 h1 f1 => ?_
  refine ⟨C, dk, F1, env1, _, Ex, rfl, o1, h1, fun l e2 H2 F2 p2' s2 l2 o2 => ?_, fun x e' cls d H' F' p s l o' k => f1.2 x e' cls d H' F' p s l o' k trivial⟩
  refine ⟨C, dk, F2, e2, _, Ex, rfl, o2, p2', fun h3 e3 H3 F3 p3 s3 l3 o3 => ?_, fun x e' cls d H' F' p s l o' k => f1.2 x e' cls d H' F' p (s2.trans s) (l2.trans l) o' k trivial⟩
  have k3 := k1.keep (H' := H3) st (s2.trans s3) (l2.trans l3)
  cases z : r.toD with
  | none => rw [z] at p3; exact p3.elim
  | some x =>
    rw [z] at p3
    exact snd_sl o3 k3 z p3 (fun t w H' F' pt s' o' k' => f1.1 _ _ _ _ _ pt ((s2.trans s3).trans s') (l2.trans l3) o' k') fun ds ex => by rw [ex]; exact k3.tupD (by rw [z, ex])
/-! ### sums, greatest, least of whole numbers -/
def intsD : List PyData → Option (List Int)
  | [] => some []
  | .int i :: xs => match intsD xs with
    | some is => some (i :: is)
    | none => none
  | _ :: _ => none
theorem intsD_eq : ∀ {xs : List PyData} {is : List Int}, intsD xs = some is → xs = is.map PyData.int
  | [], is, h => by cases h; rfl
  | .int i :: xs, is, h => by
    have h' : (match intsD xs with
      | some is => some (i :: is)
      | none => none) = some is := h
    cases z : intsD xs with
    | none => rw [z] at h'; cases h'
    | some js => rw [z] at h'; cases h'; rw [intsD_eq z]; rfl
  | .none :: _, _, h => by cases h
  | .bool _ :: _, _, h => by cases h
  | .str _ :: _, _, h => by cases h
  | .list _ :: _, _, h => by cases h
  | .tuple _ :: _, _, h => by cases h
  | .dict _ :: _, _, h => by cases h
theorem intsD_map : ∀ is : List Int, intsD (is.map PyData.int) = some is
  | [] => rfl
  | i :: is => by
    show (match intsD (is.map PyData.int) with
      | some is => some (i :: is)
      | none => none) = _
    rw [intsD_map is]
theorem cr_sumT (hc : X.calm = true) : CallR X (.builtin "sum") (fun vs H Q => ∃ (a : Addr) (ns : List Int), vs = [V.ref a] ∧ SqT X.K H a (ns.map V.int) ∧ Q (.int ns.sum) H) := by
  intro pins s σ H vs us Q I r h
  obtain ⟨a, ns, rfl, hs, q⟩ := h
  obtain ⟨its, rv, hl, _⟩ := I.tuple hs
  rw [Vals.ref1 r]
  obtain ⟨xs, e⟩ := rv.ints.allInts.items
  have hn : numsOf (intItems xs).toList = ns := by rw [← e]; exact rv.ints.numsOf
  rw [nums_intItems] at hn
  rw [e] at hl
  refine PySem.W.ktm_sumG (I.ok.hd hc) hl fun h' tk t' hk => ?_
  rw [preSum_eq, List.take_of_length_le (by simp), hn]
  exact ⟨.int _, H, I.kept hk, ⟨_, rfl⟩, q⟩
def dSum : OpN := fun xs P => match xs with
  | [.list ds] => ∃ is, intsD ds = some is ∧ P (.d (.int is.sum))
  | [.tuple ds] => ∃ is, intsD ds = some is ∧ P (.d (.int is.sum))
  | _ => False
theorem snd_sum : SndN G (fun vs H Q => rSum G.K vs H Q ∨ (∃ (a : Addr) (ns : List Int), vs = [V.ref a] ∧ SqT G.K H a (ns.map V.int) ∧ Q (.int ns.sum) H)) dSum := by
  intro C hC dk σ H F env rs vs xs Q P o k e h q
  subst hC
  match xs, h with
  | [.list ds], h =>
    obtain ⟨is, hi, h⟩ := h
    obtain ⟨r, v, rfl, rfl, k1, e1⟩ := k.one e
    obtain ⟨p, vs, rfl, a1, b1⟩ := k1.lst o e1
    rw [intsD_eq hi] at b1
    exact .inl ⟨p, is, rfl, by rw [← b1.ints]; exact SqL.of a1, q _ _ _ _ h (Sub.refl F) o (Dq.int _)⟩
  | [.tuple ds], h =>
    obtain ⟨is, hi, h⟩ := h
    obtain ⟨r, v, rfl, rfl, k1, e1⟩ := k.one e
    obtain ⟨p, vs, rfl, a1, b1⟩ := k1.tup o e1
    rw [intsD_eq hi] at b1
    exact .inr ⟨p, is, rfl, by rw [← b1.ints]; exact a1, q _ _ _ _ h (Sub.refl F) o (Dq.int _)⟩
variable {a : Expr} {es : List Expr} {ws : List WE} {p : Pos}
theorem ev_sum (c : Ctx0 G X) (hm : X.mg "sum" = none) (ha : EvA G W X (a :: es) ws) (hc : X.calm = true := by rfl) (hg : Gl X "sum" := by rfl)
    (he : starEach (a :: es) X.env = (false, eval a X.env) :: starEach es X.env := by rfl) (hpl : (backTo pos (starEach es X.env)).any (·.1) = false := by rfl) : Ev G W X (.Call (.Name "sum" p) (a :: es) [] pos) (wB dSum ws) :=
  ev_callB (by have := CallR.or (cr_sum hc) (cr_sumT hc); rw [c.K] at this; exact this) snd_sum hm (by decide +kernel) ha hg (by decide) (by decide) he hpl
def dMax : OpN := fun xs P => match xs with
  | [.list ds] => ∃ is, intsD ds = some is ∧ 0 < is.length ∧ ∀ m, m ∈ is → (∀ y, y ∈ is → y ≤ m) → P (.d (.int m))
  | [.int i, .int j] => P (.d (.int (if j > i then j else i)))
  | _ => False
theorem snd_max : SndN G (fun vs H Q => rMax G.K vs H Q ∨ (∃ i j, vs = [.int i, .int j] ∧ Q (.int (if j > i then j else i)) H)) dMax := by
  intro C hC dk σ H F env rs vs xs Q P o k e h q
  subst hC
  match xs, h with
  | [.list ds], h =>
    obtain ⟨is, hi, hl, h⟩ := h
    obtain ⟨r, v, rfl, rfl, k1, e1⟩ := k.one e
    obtain ⟨p, vs, rfl, a1, b1⟩ := k1.lst o e1
    rw [intsD_eq hi] at b1
    exact .inl ⟨p, is, rfl, by rw [← b1.ints]; exact SqL.of a1, hl, fun m h1 h2 => q _ _ _ _ (h m h1 h2) (Sub.refl F) o (Dq.int _)⟩
  | [.int i, .int j], h =>
    obtain ⟨r, s, v, u, rfl, rfl, k1, e1, k2, e2⟩ := k.two e
    exact .inr ⟨i, j, by rw [k1.int o e1, k2.int o e2], q _ _ _ _ h (Sub.refl F) o (Dq.int _)⟩
theorem ev_max (c : Ctx0 G X) (hm : X.mg "max" = none) (ha : EvA G W X (a :: es) ws) (hc : X.calm = true := by rfl) (hg : Gl X "max" := by rfl)
    (he : starEach (a :: es) X.env = (false, eval a X.env) :: starEach es X.env := by rfl) (hpl : (backTo pos (starEach es X.env)).any (·.1) = false := by rfl) : Ev G W X (.Call (.Name "max" p) (a :: es) [] pos) (wB dMax ws) :=
  ev_callB (by have := CallR.or (cr_max hc) (call_max2 hc); rw [c.K] at this; exact this) snd_max hm (by decide +kernel) ha hg (by decide) (by decide) he hpl
/-! ### a < b < c -/
def wChain (o1 o2 : Op2) (wa wb wc : WE) : WE := fun env P Ex => wa env (fun r e1 => wb e1 (fun s e2 => match r.calm.toD, s.calm.toD with
  | some x, some y => o1 x y fun t => match t with
    | .d (.bool k) => if k = true then wc e2 (fun u e3 => match u.toD with
        | some z => o2 y z fun t => P t e3
        | none => False) Ex else P (.d (.bool false)) e2
    | _ => False
  | _, _ => False) Ex) Ex
variable {b d : Expr} {wa wb wd : WE} {op op' : CmpOp} {o1 o2 : Op2}
theorem L.chain {C : DC} {rr rr' : R2} (hs1 : Snd2 C.g rr o1) (hs2 : Snd2 C.g rr' o2) {dk : Dk} {σ : L2.St} {H F : Hp} {env : En} {P : R → En → Prop} {Ex : Exn → En → Prop} {Q : VK} (o : Ok C dk σ H F env) (h : wChain o1 o2 wa wb wd env P Ex) (f : Fin C W dk σ F env P Ex Q) :
    tChain rr rr' (L C.g W wa) (L C.g W wb) (L C.g W wd) σ H Q := by
  refine L.stepC (g := fun r e1 P Ex => wb e1 (fun s e2 => match r.toD, s.calm.toD with
    | some x, some y => o1 x y fun t => match t with
      | .d (.bool k) => if k = true then wd e2 (fun u e3 => match u.toD with
          | some z => o2 y z fun t => P t e3
          | none => False) Ex else P (.d (.bool false)) e2
      | _ => False
    | _, _ => False) Ex) o h f fun r v H1 F1 env1 p1 k1 st s1 l1 h1 f1 => ?_
  refine L.stepC (g := fun s e2 P Ex => match r.toD, s.toD with
    | some x, some y => o1 x y fun t => match t with
      | .d (.bool k) => if k = true then wd e2 (fun u e3 => match u.toD with
          | some z => o2 y z fun t => P t e3
          | none => False) Ex else P (.d (.bool false)) e2
      | _ => False
    | _, _ => False) p1 h1 f1 fun s u H2 F2 env2 p2 k2 st2 s2 l2 h2 f2 => ?_
  cases er : r.toD with
  | none => rw [er] at h2; exact h2.elim
  | some x =>
    cases es : s.toD with
    | none => rw [er, es] at h2; exact h2.elim
    | some y =>
      rw [er, es] at h2
      refine hs1 _ rfl _ _ _ _ _ _ _ _ _ _ _ _ _ p2 (k1.keep st s2 l2) k2 er es h2 fun t w H' F' pt s' o' k' => ?_
      cases t with
      | d z =>
        cases z <;> first | exact pt.elim | skip
        rename_i k
        cases (show Dq _ _ w (.bool k) from k')
        refine ⟨k, rfl, ?_⟩
        cases k with
        | false => exact f2.1 _ _ _ _ _ pt s' (EnLe.refl _) o' k'
        | true =>
          refine L.step (g := fun u e3 P Ex => match u.toD with
            | some z => o2 y z fun t => P t e3
            | none => False) o' pt (f2.le s' (EnLe.refl _)) fun u3 v3 H3 F3 env3 o3 k3 s3 l3 h3 f3 => ?_
          cases e3 : u3.toD with
          | none => rw [e3] at h3; exact h3.elim
          | some z =>
            rw [e3] at h3
            exact hs2 _ rfl _ _ _ _ _ _ _ _ _ _ _ _ _ o3 (k2.keep st2 (s'.trans s3) l3) k3 es e3 h3 fun t w H4 F4 p4 s4 o4 k4 => f3.1 _ _ _ _ _ p4 s4 (EnLe.refl _) o4 k4
      | _ => exact pt.elim
theorem ev_chain (h1 : CmpOk G X op o1) (h2 : CmpOk G X op' o2) (ha : Ev G W X a wa) (hb : Ev G W X b wb) (hd : Ev G W X d wd) (hm : lastMarks [op, op'] [b, d] = false := by with_unfolding_all rfl) : Ev G W X (.Compare a [op, op'] [b, d] pos) (wChain o1 o2 wa wb wd) := by
  obtain ⟨r1, x1, y1⟩ := h1.ex
  obtain ⟨r2, x2, y2⟩ := h2.ex
  exact Ev.of (pe_chain x1 x2 ha.pe hb.pe hd.pe hm) fun _ e _ _ _ _ _ _ _ _ o h f => by subst e; exact L.chain y1 y2 o h f
theorem evt_chain (h1 : CmpOk G X op o1) (h2 : CmpOk G X op' o2) (ha : Ev G W X a wa) (hb : Ev G W X b wb) (hd : Ev G W X d wd) (hm : lastMarks [op, op'] [b, d] = false := by with_unfolding_all rfl) : EvT G W X (.Compare a [op, op'] [b, d] pos) (tOf (wChain o1 o2 wa wb wd)) := by
  obtain ⟨r1, x1, y1⟩ := h1.ex
  obtain ⟨r2, x2, y2⟩ := h2.ex
  refine ⟨PT.imp (pt_chain x1 x2 ha.pe hb.pe hd.pe hm) fun σ H Q q => ?_⟩
  obtain ⟨C, dk, F, env, P, Ex, hC, o, hw, fin⟩ := L.fin (L.test q)
  subst hC
  exact L.chain y1 y2 o hw fin
end
end Dl

namespace Dl
open PySem PySem.Spec PyProof.Rows L2
/-! ### a name's own list changes -/
theorem Ok.wown {C : DC} {dk : Dk} {σ : L2.St} {H F : Hp} {env : En} {i : Nat} {c c' : Cell} {p : Addr} {u : HO} (o : Ok C dk σ H F env) (hi : env[i]? = some (.own c)) (hg : gt σ i = some (.ref p)) (k : CellOk C.g.K F c' u) : Ok C dk σ (upd H p u) F (env.set i (.own c')) := by
  obtain ⟨p', e1, pr⟩ := o.slot i _ hi
  rw [hg] at e1
  cases e1
  have back : ∀ {a : Nat} {c1 : Cell}, (env.set i (.own c'))[a]? = some (.own c1) → ∃ c0, env[a]? = some (.own c0) := fun {a c1} e => by
    rw [List.getElem?_set] at e
    by_cases h : i = a
    · subst h; exact ⟨c, hi⟩
    · rw [if_neg h] at e; exact ⟨c1, e⟩
  refine ⟨fun a w e => ?_, by rw [List.length_set]; exact o.len, fun j z e => ?_, fun a b c1 c2 q e1 e2 e3 e4 => ?_, ?_, fun a w e f => ?_, o.fnew, o.f0, o.dkr⟩
  · rw [upd_ne (fun z => by rw [z, pr.nf] at e; cases e)]
    exact o.sub a w e
  · rw [List.getElem?_set] at e
    by_cases h : i = j
    · subst h
      rw [if_pos rfl] at e
      by_cases hl : i < env.length
      · rw [if_pos hl] at e
        cases e
        exact ⟨p, hg, pr.nf, pr.nb, pr.off, u, upd_same, k⟩
      · rw [if_neg hl] at e; cases e
    · rw [if_neg h] at e
      have s := o.slot j z e
      cases z with
      | own c1 =>
        obtain ⟨q, e1, k1⟩ := s
        have nq : q ≠ p := fun z => h (o.sep i j c c1 p hi e hg (by rw [e1, z]))
        obtain ⟨ho, w, k2⟩ := k1.at_
        exact ⟨q, e1, k1.nf, k1.nb, k1.off, ho, by rw [upd_ne nq]; exact w, k2⟩
      | no => exact s
      | d x => exact s
      | deck => exact s
      | opq v => exact s
  · obtain ⟨d1, f1⟩ := back e1
    obtain ⟨d2, f2⟩ := back e2
    exact o.sep a b d1 d2 q f1 f2 e3 e4
  · have D := o.deck
    cases dk with
    | none => trivial
    | some kk =>
      obtain ⟨da, dl⟩ := kk
      obtain ⟨n1, n2⟩ := pr.off da dl rfl
      obtain ⟨d1, d2, d3, o1, o2, d4, d5, d6⟩ := D
      exact ⟨d1, d2, d3, o1, o2, by rw [upd_ne (Ne.symm n1)]; exact d4, by rw [upd_ne (Ne.symm n2)]; exact d5, d6⟩
  · rw [upd_ne (fun z => by have := pr.nb; rw [← z, e] at this; cases this)]
    exact o.base a w e f
theorem Ok.ownAt {C : DC} {dk : Dk} {σ : L2.St} {H F : Hp} {env : En} {i : Nat} {xs : List PyData} (o : Ok C dk σ H F env) (hi : env[i]? = some (.own (.lst xs))) : ∃ p vs, gt σ i = some (.ref p) ∧ H p = some (.lst vs) ∧ DqAll C.g.K F vs xs := by
  obtain ⟨p, e1, pr⟩ := o.slot i _ hi
  obtain ⟨ho, w, k⟩ := pr.at_
  cases ho <;> first | exact ⟨p, _, e1, w, k⟩ | exact False.elim k
section
variable {G : DG} {W : WX} {X : Cx} {i j : Nat} {x y : Str} {a b : Expr} {w wi wv : WE} {p1 apos cpos pos p2 apos2 cpos2 : Pos}
def wApp (i : Nat) (w : WE) : WS := fun env P => (∃ xs, env[i]? = some (.own (.lst xs))) ∧ wA [w] env (fun rs e => ∃ xs x, (holdAll rs e)[i]? = some (.own (.lst xs)) ∧ toDs rs = some [x] ∧ xs.length < sizeLine ∧ P.nx ((holdAll rs e).set i (.own (.lst (xs ++ [x]))))) P.ex
/-- x.append(a) -/
theorem evs_append (i : Nat) (c : Ctx0 G X) (ha : EvA G W X [a] [w]) (hN : X.N[i]? = some x := by rfl) (hv : Vis X.env.scope x := by first | exact Or.inl rfl | exact Or.inr (Or.inl rfl) | exact Or.inr (Or.inr rfl)) (hd : (x == ("__debug__" : Str)) = false := by decide) (hcd : (x == ("__classdict__" : Str)) = false := by decide)
    (hbase : attributeBase (.Name x p1) "append" X.env (eval (.Name x p1) X.env) = eval (.Name x p1) X.env := by rfl)
    (hfew : ((backTo cpos (starEach [a] X.env)).all (fun x => !x.1) && (backToKw cpos (keywordEach [] X.env)).all (fun x => x.1.isSome) && decide ([a].length + ([] : List Keyword).length + (if ([] : List Keyword).isEmpty then 0 else 1) < 30)) = true := by rfl)
    (hline : (apos.endLine == cpos.line) = true := by rfl) (hs : starEach [a] X.env = (false, eval a X.env) :: starEach [] X.env := by rfl) (hplain : (backTo cpos (starEach [] X.env)).any (·.1) = false := by rfl)
    (hsw : swapsWith (.Call (.Attribute (.Name x p1) "append" apos) [a] [] cpos) none pos.line X.env = pure false := by rfl) : EvS G W X (.Expr (.Call (.Attribute (.Name x p1) "append" apos) [a] [] cpos) pos) (wApp i w) :=
  ⟨PS.imp (ps_expr (pe_bm PySem.F.plainAttrs_list PySem.F.slot_list_append PySem.F.type_list_append mt_append (pv i hN hv hd hcd) ha.pa hbase hfew hline hs hplain) hsw) fun D σ H q => by
    obtain ⟨C, dk, F, env, P, rfl, o, ⟨⟨xs0, h0⟩, hw⟩, f⟩ := q
    obtain ⟨p, vs0, g0, e0, _⟩ := o.ownAt h0
    refine ⟨.ref p, gt_of g0, .inl ⟨rfl, vs0, SqL.of e0⟩, C, dk, F, env, _, P.ex, rfl, o, hw, fun rs e vs H' F' ⟨xs, x, h1, h2, h3, h4⟩ n s l o' k => ?_, fun x e cls d H' F' pp _ _ o' q => f.ex x e cls d σ H' F' dk pp o' q⟩
    obtain ⟨F2, s2, o2, l2, k2⟩ := k.held o' h2
    obtain ⟨p', vs1, g1, e1, d1⟩ := o2.ownAt h1
    rw [g0] at g1
    cases g1
    match vs, k2 with
    | [y], .cons q1 .nil =>
      refine ⟨p, vs1, y, rfl, rfl, e1, by rw [d1.length]; exact h3, ?_⟩
      exact f.nx _ _ _ _ _ h4 (o2.wown h1 g0 (show DqAll C.g.K F2 (vs1 ++ [y]) (xs ++ [x]) from d1.snoc q1))⟩
def wSto (i : Nat) (wi wv : WE) : WS := fun env P => wv env (fun r e => (∃ xs, e[i]? = some (.own (.lst xs))) ∧ wi e (fun s e2 => ∃ xs x k j, (r.calm.hold e2)[i]? = some (.own (.lst xs)) ∧ r.calm.toD = some x ∧ s.toD = some (.int k) ∧ ixN xs.length k = some j ∧
  P.nx ((r.calm.hold e2).set i (.own (.lst (xs.set j x))))) P.ex) P.ex
/-- x[b] = a -/
theorem evs_store (i : Nat) (c : Ctx0 G X) (ha : Ev G W X a wv) (hb : Ev G W X b wi) (hN : X.N[i]? = some x := by rfl) (hv : Vis X.env.scope x := by first | exact Or.inl rfl | exact Or.inr (Or.inl rfl) | exact Or.inr (Or.inr rfl)) (hd : (x == ("__debug__" : Str)) = false := by decide) (hcd : (x == ("__classdict__" : Str)) = false := by decide)
    (hs : swapsWithSole [.Subscript (.Name x p1) b p2] a pos.line X.env = pure false := by rfl) (hw : swappedStores [.Subscript (.Name x p1) b p2] a X.env = pure none := by rfl)
    (h1 : (assignEach [.Subscript (.Name x p1) b p2] X.env).map (·.2) = [assign (.Subscript (.Name x p1) b p2) X.env] := by rfl)
    (hg : ∀ v, assign (.Subscript (.Name x p1) b p2) X.env v = (do
      let ov ← holding [v] (eval (.Name x p1) X.env)
      let iv ← holding [v, ov] (eval b X.env)
      standAt p2
      holding [v, ov, iv] (setItem ov iv v)
      release [v, ov, iv] []) := by intro _; rfl) : EvS G W X (.Assign [.Subscript (.Name x p1) b p2] a pos) (wSto i wi wv) :=
  ⟨PS.imp (ps_asg ha.pe (pg_sub (pv i hN hv hd hcd) hb.pe set_list hg) hs hw h1) fun D σ H q => by
    obtain ⟨C, dk, F, env, P, rfl, o, hw, f⟩ := q
    refine L.stmt (g := fun r e P => (∃ xs, e[i]? = some (.own (.lst xs))) ∧ wi e (fun s e2 => ∃ xs x k j, (r.calm.hold e2)[i]? = some (.own (.lst xs)) ∧ r.calm.toD = some x ∧ s.toD = some (.int k) ∧ ixN xs.length k = some j ∧
      P.nx ((r.calm.hold e2).set i (.own (.lst (xs.set j x))))) P.ex) o hw f fun r v H1 F1 env1 o1 k1 ⟨⟨xs0, h0⟩, hw1⟩ => ?_
    obtain ⟨F2, s2, o2, k2, st⟩ := k1.calmed o1
    obtain ⟨p, vs0, g0, e0, _⟩ := o2.ownAt h0
    refine ⟨.ref p, gt_of g0, C, dk, F2, env1, _, P.ex, rfl, o2, hw1, fun s e2 u H3 F3 ⟨xs, x, k, j, b1, b2, b3, b4, b5⟩ s3 l3 o3 k3 => ?_, fun x e cls d H' F' pp _ _ o' q => f.ex x e cls d σ H' F' dk pp o' q⟩
    have k4 := k2.keep (H' := H3) st s3 l3
    obtain ⟨F4, s4, o4, l4, k5⟩ := ROk.held o3 k4 b2
    obtain ⟨p', vs1, g1, e1, d1⟩ := o4.ownAt b1
    rw [g0] at g1
    cases g1
    refine ⟨p, vs1, k, j, rfl, k3.int o3 b3, e1, by rw [d1.length]; exact b4, ?_⟩
    exact f.nx _ _ _ _ _ b5 (o4.wown b1 g0 (show DqAll C.g.K F4 (vs1.set j v) (xs.set j x) from DqAll.set k5 j d1))⟩
def wAppPop (i j : Nat) (w : WE) : WS := fun env P => (∃ xs, env[i]? = some (.own (.lst xs))) ∧ (∃ ys, env[j]? = some (.own (.lst ys))) ∧ wA [w] env (fun rs e => ∃ xs ys k x, e[i]? = some (.own (.lst xs)) ∧ e[j]? = some (.own (.lst ys)) ∧ toDs rs = some [.int k] ∧ 0 ≤ k ∧ k < 2 ^ 62 ∧
  ys[k.toNat]? = some x ∧ xs.length < sizeLine ∧ P.nx ((e.set j (.own (.lst (ys.eraseIdx k.toNat)))).set i (.own (.lst (xs ++ [x]))))) P.ex
/-- x.append(y.pop(a)) -/
theorem evs_appPop (i j : Nat) (c : Ctx0 G X) (ha : EvA G W X [a] [w]) (hij : i ≠ j := by decide) (hN : X.N[i]? = some x := by rfl) (hv : Vis X.env.scope x := by first | exact Or.inl rfl | exact Or.inr (Or.inl rfl) | exact Or.inr (Or.inr rfl)) (hd : (x == ("__debug__" : Str)) = false := by decide) (hcd : (x == ("__classdict__" : Str)) = false := by decide)
    (hN2 : X.N[j]? = some y := by rfl) (hv2 : Vis X.env.scope y := by first | exact Or.inl rfl | exact Or.inr (Or.inl rfl) | exact Or.inr (Or.inr rfl)) (hd2 : (y == ("__debug__" : Str)) = false := by decide) (hcd2 : (y == ("__classdict__" : Str)) = false := by decide)
    (hbase2 : attributeBase (.Name y p2) "pop" X.env (eval (.Name y p2) X.env) = eval (.Name y p2) X.env := by rfl)
    (hfew2 : ((backTo cpos2 (starEach [a] X.env)).all (fun x => !x.1) && (backToKw cpos2 (keywordEach [] X.env)).all (fun x => x.1.isSome) && decide ([a].length + ([] : List Keyword).length + (if ([] : List Keyword).isEmpty then 0 else 1) < 30)) = true := by rfl)
    (hline2 : (apos2.endLine == cpos2.line) = true := by rfl) (hs2 : starEach [a] X.env = (false, eval a X.env) :: starEach [] X.env := by rfl) (hplain2 : (backTo cpos2 (starEach [] X.env)).any (·.1) = false := by rfl)
    (hbase : attributeBase (.Name x p1) "append" X.env (eval (.Name x p1) X.env) = eval (.Name x p1) X.env := by rfl)
    (hfew : ((backTo cpos (starEach [.Call (.Attribute (.Name y p2) "pop" apos2) [a] [] cpos2] X.env)).all (fun x => !x.1) && (backToKw cpos (keywordEach [] X.env)).all (fun x => x.1.isSome) && decide ([Expr.Call (.Attribute (.Name y p2) "pop" apos2) [a] [] cpos2].length + ([] : List Keyword).length + (if ([] : List Keyword).isEmpty then 0 else 1) < 30)) = true := by rfl)
    (hline : (apos.endLine == cpos.line) = true := by rfl) (hs : starEach [.Call (.Attribute (.Name y p2) "pop" apos2) [a] [] cpos2] X.env = (false, eval (.Call (.Attribute (.Name y p2) "pop" apos2) [a] [] cpos2) X.env) :: starEach [] X.env := by rfl) (hplain : (backTo cpos (starEach [] X.env)).any (·.1) = false := by rfl)
    (hsw : swapsWith (.Call (.Attribute (.Name x p1) "append" apos) [.Call (.Attribute (.Name y p2) "pop" apos2) [a] [] cpos2] [] cpos) none pos.line X.env = pure false := by rfl) :
    EvS G W X (.Expr (.Call (.Attribute (.Name x p1) "append" apos) [.Call (.Attribute (.Name y p2) "pop" apos2) [a] [] cpos2] [] cpos) pos) (wAppPop i j w) :=
  ⟨PS.imp (ps_expr (pe_bm PySem.F.plainAttrs_list PySem.F.slot_list_append PySem.F.type_list_append mt_append (pv i hN hv hd hcd) (pa_cons (pe_bm PySem.F.plainAttrs_list PySem.F.slot_list_pop PySem.F.type_list_pop mt_popAt (pv j hN2 hv2 hd2 hcd2) ha.pa hbase2 hfew2 hline2 hs2 hplain2) pa_nil hs) hbase hfew hline hs hplain) hsw) fun D σ H q => by
    obtain ⟨C, dk, F, env, P, rfl, o, ⟨⟨xs0, h0⟩, ⟨ys0, y0⟩, hw⟩, f⟩ := q
    obtain ⟨p, vs0, g0, e0, _⟩ := o.ownAt h0
    obtain ⟨r, us0, u0, w0, _⟩ := o.ownAt y0
    refine ⟨.ref p, gt_of g0, .inl ⟨rfl, vs0, SqL.of e0⟩, .ref r, gt_of u0, .inl ⟨rfl, us0, SqL.of w0⟩, C, dk, F, env, _, P.ex, rfl, o, hw, fun rs e vs H' F' ⟨xs, ys, k, x, h1, h2, h3, h4, h5, h6, h7, h8⟩ n s l o' kk => ?_, fun x e cls d H' F' pp _ _ o' q => f.ex x e cls d σ H' F' dk pp o' q⟩
    obtain ⟨r1, v1, rfl, rfl, k1, t1⟩ := kk.one h3
    obtain ⟨p', vs1, g1, e1, d1⟩ := o'.ownAt h1
    obtain ⟨r', us1, u1, w1, d2⟩ := o'.ownAt h2
    rw [g0] at g1
    cases g1
    rw [u0] at u1
    cases u1
    obtain ⟨y, yv, yd⟩ := d2.getD h6
    have hk : k.toNat < ys.length := (List.getElem?_eq_some_iff.mp h6).1
    have ix : ixN us1.length k = some k.toNat := by
      unfold ixN
      rw [if_pos h4, if_pos (by rw [d2.length]; omega)]
    refine ⟨r, us1, k, k.toNat, y, rfl, by rw [k1.int o' t1], w1, by omega, by omega, (ixN_seq ix).1, yv, ?_⟩
    have o3 := o'.wown h2 u0 (c' := .lst (ys.eraseIdx k.toNat)) (u := .lst (us1.eraseIdx k.toNat)) (show DqAll C.g.K F' _ _ from d2.eraseIdx k.toNat)
    have h1' : (e.set j (.own (.lst (ys.eraseIdx k.toNat))))[i]? = some (.own (.lst xs)) := by rw [List.getElem?_set_ne (Ne.symm hij)]; exact h1
    obtain ⟨p', vs2, g2, e2, d3⟩ := o3.ownAt h1'
    rw [g0] at g2
    cases g2
    refine ⟨p, vs2, y, rfl, rfl, e2, by rw [d3.length]; exact h7, ?_⟩
    exact f.nx _ _ _ _ _ h8 (o3.wown h1' g0 (show DqAll C.g.K F' (vs2 ++ [y]) (xs ++ [x]) from d3.snoc yd))⟩
end
end Dl

namespace Dl
open PySem PySem.Spec PyProof.Rows L2
section
variable {G : DG} {W : WX} {X : Cx} {a : Expr} {es : List Expr} {ws : List WE} {p pos : Pos} {x : Str}
/-! ### lcm -/
def LcmC (i : Int) : Prop := i.natAbs < 2 ^ 13000
theorem cr_lcm : CallR X (.builtin "math.lcm") (fun vs H Q => ∃ a b : Int, vs = [.int a, .int b] ∧ LcmC a ∧ LcmC b ∧ Q (.int ((Nat.lcm a.natAbs b.natAbs : Nat) : Int)) H) := by
  intro pins s σ H vs us Q I r h
  obtain ⟨a, b, rfl, ha, hb, q⟩ := h
  obtain ⟨t, u, rfl⟩ := Vals.int2 r
  have lg : ∀ {n m : Nat}, n < 2 ^ m → 0 < m → n.log2 < m := fun {n m} h hm => by
    by_cases z : n = 0
    · rw [z]; simpa using hm
    · exact (Nat.log2_lt z).mpr h
  have h1 : (max 1 a.natAbs).log2 < 13000 := lg (Nat.max_lt.mpr ⟨Nat.one_lt_two_pow (by omega), ha⟩) (by omega)
  have h2 : (max a.natAbs b.natAbs).log2 < 13000 := lg (Nat.max_lt.mpr ⟨ha, hb⟩) (by omega)
  have e : (Nat.lcm 1 a.natAbs).lcm b.natAbs = Nat.lcm a.natAbs b.natAbs := by rw [Nat.lcm_one_left]
  have h3 : Nat.lcm a.natAbs b.natAbs < 2 ^ 26000 := by
    have l1 : Nat.lcm a.natAbs b.natAbs ≤ a.natAbs * b.natAbs := by
      unfold Nat.lcm
      exact Nat.div_le_self _ _
    have l2 : a.natAbs * b.natAbs < 2 ^ 13000 * 2 ^ 13000 := Nat.mul_lt_mul_of_lt_of_le ha (Nat.le_of_lt hb) (Nat.two_pow_pos _)
    rw [← Nat.pow_add] at l2
    exact Nat.lt_of_le_of_lt l1 l2
  have g := PySem.W.mg_run_lcm a t b u (by omega) (by omega) (by
    rw [e, Int.natAbs_natCast]
    have := lg h3 (by omega)
    have hb : bitsLine = 134217728 := by decide
    omega)
  rw [e] at g
  exact call_function_meets PySem.W.MGF.kind_lcm PySem.W.MGF.plain_lcm PySem.W.MGF.entry_lcm (PySem.W.MGF.args_lcm _ _) g.meets ⟨.int _, H, I.tok _, ⟨_, rfl⟩, q⟩
def dLcm : OpN := fun xs P => match xs with
  | [.int i, .int j] => LcmC i ∧ LcmC j ∧ P (.d (.int ((Nat.lcm i.natAbs j.natAbs : Nat) : Int)))
  | _ => False
theorem snd_lcm : SndN G (fun vs H Q => ∃ a b : Int, vs = [.int a, .int b] ∧ LcmC a ∧ LcmC b ∧ Q (.int ((Nat.lcm a.natAbs b.natAbs : Nat) : Int)) H) dLcm := by
  intro C hC dk σ H F env rs vs xs Q P o k e h q
  subst hC
  match xs, h with
  | [.int i, .int j], h =>
    obtain ⟨r, s, v, u, rfl, rfl, k1, e1, k2, e2⟩ := k.two e
    exact ⟨i, j, by rw [k1.int o e1, k2.int o e2], h.1, h.2.1, q _ _ _ _ h.2.2 (Sub.refl F) o (Dq.int _)⟩
theorem ev_lcm (hm : X.mg x = some (.builtin "math.lcm")) (ha : EvA G W X (a :: es) ws) (hg : Gl X x := by rfl) (hdb : (x == ("__debug__" : Str)) = false := by decide)
    (he : starEach (a :: es) X.env = (false, eval a X.env) :: starEach es X.env := by rfl) (hpl : (backTo pos (starEach es X.env)).any (·.1) = false := by rfl) : Ev G W X (.Call (.Name x p) (a :: es) [] pos) (wB dLcm ws) :=
  ev_callM cr_lcm snd_lcm hm ha hg hdb he hpl
/-! ### all, any, min, sorted -/
def boolsD : List PyData → Option (List Bool)
  | [] => some []
  | .bool i :: xs => match boolsD xs with
    | some is => some (i :: is)
    | none => none
  | _ :: _ => none
theorem boolsD_eq : ∀ {xs : List PyData} {is : List Bool}, boolsD xs = some is → xs = is.map PyData.bool
  | [], is, h => by cases h; rfl
  | .bool i :: xs, is, h => by
    have h' : (match boolsD xs with
      | some is => some (i :: is)
      | none => none) = some is := h
    cases z : boolsD xs with
    | none => rw [z] at h'; cases h'
    | some js => rw [z] at h'; cases h'; rw [boolsD_eq z]; rfl
  | .none :: _, _, h => by cases h
  | .int _ :: _, _, h => by cases h
  | .str _ :: _, _, h => by cases h
  | .list _ :: _, _, h => by cases h
  | .tuple _ :: _, _, h => by cases h
  | .dict _ :: _, _, h => by cases h
theorem boolsD_map : ∀ is : List Bool, boolsD (is.map PyData.bool) = some is
  | [] => rfl
  | i :: is => by
    show (match boolsD (is.map PyData.bool) with
      | some is => some (i :: is)
      | none => none) = _
    rw [boolsD_map is]
theorem DqAll.bools {K : PySem.W.Frag} {F : Hp} : ∀ {vs : List V} {ns : List Bool}, DqAll K F vs (ns.map PyData.bool) → vs = ns.map V.bl
  | _, [], h => by cases h; rfl
  | _, n :: ns, h => by
    cases h with
    | cons a b => cases a; rw [DqAll.bools b]; rfl
def dAllAny (f : List Bool → Bool) : OpN := fun xs P => match xs with
  | [.list ds] => ∃ is, boolsD ds = some is ∧ P (.d (.bool (f is)))
  | _ => False
theorem snd_allany {f : List Bool → Bool} : SndN G (fun vs H Q => ∃ (a : Addr) (bs : List Bool), vs = [V.ref a] ∧ SqL G.K H a (bs.map V.bl) ∧ Q (.bl (f bs)) H) (dAllAny f) := by
  intro C hC dk σ H F env rs vs xs Q P o k e h q
  subst hC
  match xs, h with
  | [.list ds], h =>
    obtain ⟨is, hi, h⟩ := h
    obtain ⟨r, v, rfl, rfl, k1, e1⟩ := k.one e
    obtain ⟨p, vs, rfl, a1, b1⟩ := k1.lst o e1
    rw [boolsD_eq hi] at b1
    exact ⟨p, is, rfl, by rw [← b1.bools]; exact SqL.of a1, q _ _ _ _ h (Sub.refl F) o (Dq.bl _)⟩
theorem ev_all (c : Ctx0 G X) (hm : X.mg "all" = none) (ha : EvA G W X (a :: es) ws) (hc : X.calm = true := by rfl) (hg : Gl X "all" := by rfl)
    (he : starEach (a :: es) X.env = (false, eval a X.env) :: starEach es X.env := by rfl) (hpl : (backTo pos (starEach es X.env)).any (·.1) = false := by rfl) : Ev G W X (.Call (.Name "all" p) (a :: es) [] pos) (wB (dAllAny fun bs => bs.all id) ws) :=
  ev_callB (by have := cr_all hc; rw [c.K] at this; exact this) snd_allany hm (by decide +kernel) ha hg (by decide) (by decide) he hpl
theorem ev_any (c : Ctx0 G X) (hm : X.mg "any" = none) (ha : EvA G W X (a :: es) ws) (hc : X.calm = true := by rfl) (hg : Gl X "any" := by rfl)
    (he : starEach (a :: es) X.env = (false, eval a X.env) :: starEach es X.env := by rfl) (hpl : (backTo pos (starEach es X.env)).any (·.1) = false := by rfl) : Ev G W X (.Call (.Name "any" p) (a :: es) [] pos) (wB (dAllAny fun bs => bs.any id) ws) :=
  ev_callB (by have := cr_any hc; rw [c.K] at this; exact this) snd_allany hm (by decide +kernel) ha hg (by decide) (by decide) he hpl
def dMin : OpN := fun xs P => match xs with
  | [.list ds] => ∃ is, intsD ds = some is ∧ 0 < is.length ∧ ∀ m, m ∈ is → (∀ y, y ∈ is → m ≤ y) → P (.d (.int m))
  | [.int i, .int j] => P (.d (.int (if j < i then j else i)))
  | _ => False
theorem snd_min : SndN G (fun vs H Q => rMin G.K vs H Q ∨ (∃ i j, vs = [.int i, .int j] ∧ Q (.int (if j < i then j else i)) H)) dMin := by
  intro C hC dk σ H F env rs vs xs Q P o k e h q
  subst hC
  match xs, h with
  | [.list ds], h =>
    obtain ⟨is, hi, hl, h⟩ := h
    obtain ⟨r, v, rfl, rfl, k1, e1⟩ := k.one e
    obtain ⟨p, vs, rfl, a1, b1⟩ := k1.lst o e1
    rw [intsD_eq hi] at b1
    exact .inl ⟨p, is, rfl, by rw [← b1.ints]; exact SqL.of a1, hl, fun m h1 h2 => q _ _ _ _ (h m h1 h2) (Sub.refl F) o (Dq.int _)⟩
  | [.int i, .int j], h =>
    obtain ⟨r, s, v, u, rfl, rfl, k1, e1, k2, e2⟩ := k.two e
    exact .inr ⟨i, j, by rw [k1.int o e1, k2.int o e2], q _ _ _ _ h (Sub.refl F) o (Dq.int _)⟩
theorem ev_min (c : Ctx0 G X) (hm : X.mg "min" = none) (ha : EvA G W X (a :: es) ws) (hc : X.calm = true := by rfl) (hg : Gl X "min" := by rfl)
    (he : starEach (a :: es) X.env = (false, eval a X.env) :: starEach es X.env := by rfl) (hpl : (backTo pos (starEach es X.env)).any (·.1) = false := by rfl) : Ev G W X (.Call (.Name "min" p) (a :: es) [] pos) (wB dMin ws) :=
  ev_callB (by have := CallR.or (cr_min hc) (call_min2 hc); rw [c.K] at this; exact this) snd_min hm (by decide +kernel) ha hg (by decide) (by decide) he hpl
def strsD : List PyData → Option (List Str)
  | [] => some []
  | .str i :: xs => match strsD xs with
    | some is => some (i :: is)
    | none => none
  | _ :: _ => none
theorem strsD_eq : ∀ {xs : List PyData} {is : List Str}, strsD xs = some is → xs = is.map PyData.str
  | [], is, h => by cases h; rfl
  | .str i :: xs, is, h => by
    have h' : (match strsD xs with
      | some is => some (i :: is)
      | none => none) = some is := h
    cases z : strsD xs with
    | none => rw [z] at h'; cases h'
    | some js => rw [z] at h'; cases h'; rw [strsD_eq z]; rfl
  | .none :: _, _, h => by cases h
  | .int _ :: _, _, h => by cases h
  | .bool _ :: _, _, h => by cases h
  | .list _ :: _, _, h => by cases h
  | .tuple _ :: _, _, h => by cases h
  | .dict _ :: _, _, h => by cases h
theorem strsD_map : ∀ is : List Str, strsD (is.map PyData.str) = some is
  | [] => rfl
  | i :: is => by
    show (match strsD (is.map PyData.str) with
      | some is => some (i :: is)
      | none => none) = _
    rw [strsD_map is]
def dSorted : OpN := fun xs P => match xs with
  | [.list ds] => (∃ is, intsD ds = some is ∧ ∀ js : List Int, js.Perm is → js.Pairwise (· ≤ ·) → P (.nw (.lst (js.map PyData.int)))) ∨
    (∃ is, strsD ds = some is ∧ is.length < 64 ∧ ∀ js : List Str, js.Perm is → sortedS js = true → P (.nw (.lst (js.map PyData.str))))
  | _ => False
theorem snd_sorted : SndN G (fun vs H Q => rSortedI G.K vs H Q ∨ rSortedS G.K vs H Q) dSorted := by
  intro C hC dk σ H F env rs vs xs Q P o k e h q
  subst hC
  match xs, h with
  | [.list ds], h =>
    obtain ⟨r, v, rfl, rfl, k1, e1⟩ := k.one e
    obtain ⟨p, vs, rfl, a1, b1⟩ := k1.lst o e1
    rcases h with ⟨is, hi, h⟩ | ⟨is, hi, h6, h⟩
    · rw [intsD_eq hi] at b1
      refine .inl ⟨p, is, rfl, by rw [← b1.ints]; exact SqL.of a1, fun js p' h1 h2 hp => ?_⟩
      exact q _ _ _ _ (h js h1 h2) (Sub.refl F) (o.newCell _ hp) (o.newPriv hp (show DqAll C.g.K F (js.map V.int) _ from DqAll.ofInts js))
    · rw [strsD_eq hi] at b1
      refine .inr ⟨p, is, rfl, by rw [← b1.strs]; exact SqL.of a1, h6, fun js p' h1 h2 hp => ?_⟩
      exact q _ _ _ _ (h js h1 h2) (Sub.refl F) (o.newCell _ hp) (o.newPriv hp (show DqAll C.g.K F (js.map V.str) _ from DqAll.ofStrs js))
theorem ev_sorted (c : Ctx0 G X) (hm : X.mg "sorted" = none) (ha : EvA G W X (a :: es) ws) (hg : Gl X "sorted" := by rfl)
    (he : starEach (a :: es) X.env = (false, eval a X.env) :: starEach es X.env := by rfl) (hpl : (backTo pos (starEach es X.env)).any (·.1) = false := by rfl) : Ev G W X (.Call (.Name "sorted" p) (a :: es) [] pos) (wB dSorted ws) :=
  ev_callB (by have := CallR.or (cr_sortedI (X := X)) cr_sortedS; rw [c.K] at this; exact this) snd_sorted hm (by decide +kernel) ha hg (by decide) (by decide) he hpl
/-! ### methods of texts -/
abbrev OpM := Str → List PyData → (R → Prop) → Prop
def SndM (G : DG) (r : V → List V → Hp → VK → Prop) (op : OpM) : Prop := ∀ (C : DC), C.g = G → ∀ dk σ H F env z rs vs xs Q (P : R → Prop), Ok C dk σ H F env → ROks C dk σ H F env rs vs → toDs rs = some xs → op z xs P →
  (∀ t w H' F', P t → Sub F F' → Ok C dk σ H' F' env → ROk C dk σ H' F' env t w → Q w H') → r (.str z) vs H Q
def wM (op : OpM) (we : WE) (ws : List WE) : WE := fun env P Ex => we env (fun r e1 => match r.toD with
  | some (.str z) => wA ws e1 (fun rs e2 => match toDs rs with
    | some xs => op z xs fun t => P t e2
    | none => False) Ex
  | _ => False) Ex
variable {o : Expr} {we : WE} {name : Str} {id : String} {r : V → List V → Hp → VK → Prop} {op : OpM} {apos cpos : Pos}
theorem ev_mstr (slot : Slot "str" name id) (hty : typeOf (.builtin id) = pure (.type "method_descriptor")) (hm : MtR X id r) (hs : SndM G r op) (ho : Ev G W X o we) (ha : EvA G W X (a :: es) ws)
    (hbase : attributeBase o name X.env (eval o X.env) = eval o X.env := by rfl)
    (hfew : ((backTo cpos (starEach (a :: es) X.env)).all (fun x => !x.1) && (backToKw cpos (keywordEach [] X.env)).all (fun x => x.1.isSome) && decide ((a :: es).length + ([] : List Keyword).length + (if ([] : List Keyword).isEmpty then 0 else 1) < 30)) = true := by rfl)
    (hline : (apos.endLine == cpos.line) = true := by rfl) (hst : starEach (a :: es) X.env = (false, eval a X.env) :: starEach es X.env := by rfl) (hplain : (backTo cpos (starEach es X.env)).any (·.1) = false := by rfl) :
    Ev G W X (.Call (.Attribute o name apos) (a :: es) [] cpos) (wM op we ws) := by
  refine Ev.of (pe_bm PySem.F.plainAttrs_str slot hty hm ho.pe ha.pa hbase hfew hline hst hplain) fun C hC dk σ H F env P Ex Q o h f => ?_
  subst hC
  refine L.step (g := fun r e1 P Ex => match r.toD with
    | some (.str z) => wA ws e1 (fun rs e2 => match toDs rs with
      | some xs => op z xs fun t => P t e2
      | none => False) Ex
    | _ => False) o h f fun r v H1 F1 env1 o1 k1 s1 l1 h1 f1 => ?_
  cases z : r.toD with
  | none => rw [z] at h1; exact h1.elim
  | some x =>
    rw [z] at h1
    cases x <;> first | exact h1.elim | skip
    rename_i zz
    have ev := k1.str o1 z
    subst ev
    refine ⟨rfl, ?_⟩
    refine L.args (Q := Q) (P := P) (Ex := Ex) (g := fun rs e2 P Ex => match toDs rs with
      | some xs => op zz xs fun t => P t e2
      | none => False) o1 h1 f1 fun rs vs H2 F2 env2 n2 o2 k2 h2 f2 => ?_
    cases y : toDs rs with
    | none => rw [y] at h2; exact h2.elim
    | some xs =>
      rw [y] at h2
      exact hs _ rfl _ _ _ _ _ _ _ _ _ _ _ o2 k2 y h2 fun t w H' F' p s o' k' => f2.1 _ _ _ _ _ p s (EnLe.refl _) o' k'
def dJoin : OpM := fun z xs P => match xs with
  | [.list ds] => ∃ ys, strsD ds = some ys ∧ (ys.map (·.length)).sum + ys.length * z.length ≤ 16777216 ∧ P (.d (.str (Txt.join z ys)))
  | [.tuple ds] => ∃ ys, strsD ds = some ys ∧ (ys.map (·.length)).sum + ys.length * z.length ≤ 16777216 ∧ P (.d (.str (Txt.join z ys)))
  | _ => False
theorem snd_join : SndM G (fun x xs H Q => ∃ a p, ∃ ys : List Str, x = .str a ∧ xs = [.ref p] ∧ (SqL G.K H p (ys.map V.str) ∨ SqT G.K H p (ys.map V.str)) ∧ (ys.map (·.length)).sum + ys.length * a.length ≤ 16777216 ∧ Q (.str (Txt.join a ys)) H) dJoin := by
  intro C hC dk σ H F env z rs vs xs Q P o k e h q
  subst hC
  match xs, h with
  | [.list ds], h =>
    obtain ⟨ys, hi, hz, h⟩ := h
    obtain ⟨r, v, rfl, rfl, k1, e1⟩ := k.one e
    obtain ⟨p, vs, rfl, a1, b1⟩ := k1.lst o e1
    rw [strsD_eq hi] at b1
    exact ⟨z, p, ys, rfl, rfl, .inl (by rw [← b1.strs]; exact SqL.of a1), hz, q _ _ _ _ h (Sub.refl F) o (Dq.str _)⟩
  | [.tuple ds], h =>
    obtain ⟨ys, hi, hz, h⟩ := h
    obtain ⟨r, v, rfl, rfl, k1, e1⟩ := k.one e
    obtain ⟨p, vs, rfl, a1, b1⟩ := k1.tup o e1
    rw [strsD_eq hi] at b1
    exact ⟨z, p, ys, rfl, rfl, .inr (by rw [← b1.strs]; exact a1), hz, q _ _ _ _ h (Sub.refl F) o (Dq.str _)⟩
def dSIndex : OpM := fun z xs P => match xs with
  | [.str b] => ∃ i rest, Builtin.Str.occurrences z b 0 z.length 1 = i :: rest ∧ P (.d (.int (i : Nat)))
  | _ => False
theorem snd_sindex : SndM G (fun x xs H Q => ∃ a b i rest, x = .str a ∧ xs = [.str b] ∧ Builtin.Str.occurrences a b 0 a.length 1 = i :: rest ∧ Q (.int (i : Nat)) H) dSIndex := by
  intro C hC dk σ H F env z rs vs xs Q P o k e h q
  subst hC
  match xs, h with
  | [.str b], h =>
    obtain ⟨i, rest, hi, h⟩ := h
    obtain ⟨r, v, rfl, rfl, k1, e1⟩ := k.one e
    exact ⟨z, b, i, rest, rfl, by rw [k1.str o e1], hi, q _ _ _ _ h (Sub.refl F) o (Dq.int _)⟩
end
end Dl

namespace Dl
open PySem PySem.Spec PyProof.Rows L2
/-! ### isinstance(e, T), T a built-in type -/
def tyD : PyData → String
  | .none => "NoneType"
  | .bool _ => "bool"
  | .int _ => "int"
  | .str _ => "str"
  | .list _ => "list"
  | .tuple _ => "tuple"
  | .dict _ => "dict"
def isiB (x : PyData) (T : String) : Bool := match x with
  | .bool _ => T == "bool" || T == "int"
  | x => tyD x == T
def Tys (T : String) : Prop := T = "int" ∨ T = "bool" ∨ T = "str" ∨ T = "tuple" ∨ T = "list"
theorem isi_kit {x : PyData} {T : String} (h : Tys T) : kitB (tyD x) T = some (isiB x T) := by
  rcases h with rfl | rfl | rfl | rfl | rfl <;> cases x <;> (dsimp only [tyD, isiB]; decide +kernel)
theorem sqT_ty {K : PySem.W.Frag} {H : Hp} {a : Addr} {xs : List V} (h : SqT K H a xs) : TyX K H (.ref a) (.type "tuple") := by
  rcases h with (h | ⟨o, h⟩) | ⟨o, _, _, h, c, _⟩
  · exact .base (.tup h)
  · exact .fTuple h
  · exact .kTuple h c
/-- an instance, as data -/
def isIns : PyData → Bool
  | .dict ((.none, _) :: _) => true
  | _ => false
theorem dq_ty {K : PySem.W.Frag} {H : Hp} {v : V} {x : PyData} (h : Dq K H v x) (ni : isIns x = false) : TyX K H v (.type (tyD x)) := by
  cases h with
  | non => exact .base .non
  | bl b => exact .base (.bl b)
  | int i => exact .base (.int i)
  | str z => exact .base (.str z)
  | lst a b => exact .base (.lst a)
  | tup a b => exact sqT_ty a
  | dic a b e => exact .base (.dK a)
  | dct n a b e => exact .base (.dT a)
  | ins a c b e => rw [e] at ni; cases ni
  | exc a b e => rw [e] at ni; cases ni
def dIsi (T : String) : OpN := fun xs P => match xs with
  | [x] => isIns x = false ∧ P (.d (.bool (isiB x T)))
  | _ => False
section
variable {G : DG} {W : WX} {X : Cx} {e : Expr} {we : WE} {p p2 pos : Pos} {x : Str} {T : String}
theorem ev_isi (c : Ctx0 G X) (hm : G.mg "isinstance" = none) (ht : G.mg x = none) (hT : Tys T) (he : Ev G W X e we) (hv : bootBuiltins x = some (.type T) := by decide +kernel) (hg : Gl X "isinstance" := by rfl) (hgt : Gl X x := by rfl)
    (hn : x ≠ "__name__" := by decide) (hd : (x == ("__debug__" : Str)) = false := by decide)
    (hs1 : starEach [e, .Name x p2] X.env = (false, eval e X.env) :: starEach [.Name x p2] X.env := by rfl) (hs2 : starEach [.Name x p2] X.env = (false, eval (.Name x p2) X.env) :: starEach [] X.env := by rfl)
    (hpl : (backTo pos (starEach [.Name x p2] X.env)).any (·.1) = false := by rfl) : Ev G W X (.Call (.Name "isinstance" p) [e, .Name x p2] [] pos) (wB (dIsi T) [we]) := by
  refine Ev.of (pe_callB call_isi hg (by rw [c.mg]; exact hm) (by decide +kernel) (pa_cons he.pe (pa_cons (pe_bltn (v := .ty T) hgt (by rw [c.mg]; exact ht) hv rfl hn hd) pa_nil hs2) hs1) (by decide) (by decide) hs1 hpl) fun C hC dk σ H F env P Ex Q o h f => ?_
  subst hC
  refine L.step (g := fun r e P _ => match toDs [r.calm] with
    | some xs => dIsi T xs fun t => P t e
    | none => False) o h f fun r v H1 F1 env1 o1 k1 s1 l1 h1 f1 => ?_
  unfold toDs at h1
  rw [R.calm_toD] at h1
  cases z : r.toD with
  | none => rw [z] at h1; exact h1.elim
  | some y =>
    rw [z] at h1
    have h2 : isIns y = false ∧ P (.d (.bool (isiB y T))) env1 := h1
    exact ⟨v, .ty T, _, _, isiB y T, rfl, .ty T, by rw [c.K]; exact dq_ty (k1.dp o1 z) h2.1, kit_ty (isi_kit hT), f1.1 _ _ _ _ _ h2.2 (Sub.refl _) (EnLe.refl _) o1 (Dq.bl _)⟩
/-- a constant of the module -/
theorem ev_conI (c : Ctx0 G X) {i : Int} (h : ∃ t, G.mg x = some (.int i t)) (hg : Gl X x := by rfl) (hd : (x == ("__debug__" : Str)) = false := by decide) : Ev G W X (.Name x pos) (wC (.int i)) :=
  let ⟨t, e⟩ := h; ev_glob (v := .int i) (by rw [c.mg]; exact e) ⟨t, rfl⟩ (fun _ => .int i) hg hd
theorem ev_conS (c : Ctx0 G X) {i : Str} (h : ∃ t, G.mg x = some (.str i t)) (hg : Gl X x := by rfl) (hd : (x == ("__debug__" : Str)) = false := by decide) : Ev G W X (.Name x pos) (wC (.str i)) :=
  let ⟨t, e⟩ := h; ev_glob (v := .str i) (by rw [c.mg]; exact e) ⟨t, rfl⟩ (fun _ => .str i) hg hd
end
end Dl

namespace Dl
open PySem PySem.Spec PyProof.Rows L2
/-! ### {k: e, ..}, the keys constants -/
def dispT (G : DG) (W : WX) : List Key → List WE → List (TE × TE)
  | k :: ks, w :: ws => (tC (kV k), L G W w) :: dispT G W ks ws
  | _, _ => []
structure EvPs (G : DG) (W : WX) (X : Cx) (pos : Pos) (keys : List (Option Expr)) (values : List Expr) (ks : List Key) (ws : List WE) : Prop where
  pp : PPs X pos keys values (dispT G W ks ws)
  len : ks.length = ws.length
def wDisp (ks : List Key) (ws : List WE) : WE := fun env P Ex => wA ws env (fun rs e => match toDs rs with
  | some xs => P (.nw (.dic ks xs)) (holdAll rs e)
  | none => False) Ex
section
variable {G : DG} {W : WX} {X : Cx} {pos : Pos} {keys : List (Option Expr)} {values : List Expr} {ks : List Key} {ws : List WE}
theorem evps_nil : EvPs G W X pos [] [] [] [] := ⟨pps_nil, rfl⟩
theorem evps_consS {z : Str} {j p} {v : Expr} {w : WE} (hv : Ev G W X v w) (hr : EvPs G W X pos keys values ks ws) : EvPs G W X pos (some (.Constant (.str z) j p) :: keys) (v :: values) (.inr z :: ks) (w :: ws) :=
  ⟨pps_cons pe_str hv.pe hr.pp, congrArg Nat.succ hr.len⟩
theorem evps_consI {z : Int} {j p} {v : Expr} {w : WE} (hv : Ev G W X v w) (hr : EvPs G W X pos keys values ks ws) : EvPs G W X pos (some (.Constant (.int z) j p) :: keys) (v :: values) (.inl z :: ks) (w :: ws) :=
  ⟨pps_cons pe_int hv.pe hr.pp, congrArg Nat.succ hr.len⟩
theorem L.pairs {C : DC} {dk : Dk} {σ : L2.St} {Ex : Exn → En → Prop} : ∀ {ks : List Key} {ws : List WE} {H F : Hp} {env : En} {P : List R → En → Prop} {Q : List (V × V) → Hp → Prop}, ks.length = ws.length → Ok C dk σ H F env → wA ws env P Ex →
    (∀ rs env' vs H' F', P rs env' → rs.length = ws.length → Sub F F' → EnLe env env' → Ok C dk σ H' F' env' → ROks C dk σ H' F' env' rs vs → Q ((ks.zip vs).map fun p => (kV p.1, p.2)) H') →
    (∀ x env' cls d H' F', Ex x env' → Sub F F' → EnLe env env' → Ok C dk σ H' F' env' → XOk C F' H' x cls d → W cls d σ H') → tPairs (dispT C.g W ks ws) σ H Q
  | [], [], H, F, env, P, Q, _, o, h, f1, _ => f1 [] env [] H F h rfl (Sub.refl F) (EnLe.refl _) o trivial
  | [], _ :: _, _, _, _, _, _, e, _, _, _, _ => by cases e
  | _ :: _, [], _, _, _, _, _, e, _, _, _, _ => by cases e
  | k :: ks, w :: ws, H, F, env, P, Q, e, o, h, f1, f2 => by
    refine ⟨C, dk, F, env, fun r e => wA ws e (fun rs e' => P (r.calm :: rs) e') Ex, Ex, rfl, o, h, fun r env1 v H1 F1 p s1 l1 o1 k1 => ?_, f2⟩
    obtain ⟨F2, s2, o2, k2, st⟩ := k1.calmed o1
    refine L.pairs (P := fun rs e' => P (r.calm :: rs) e') (Nat.succ.inj e) o2 p (fun rs env3 vs H3 F3 p3 n3 s3 l3 o3 k3 => ?_) (fun x env' cls d H' F' p' s' l' o' k' => f2 x env' cls d H' F' p' ((s1.trans s2).trans s') (l1.trans l') o' k')
    exact f1 _ _ (v :: vs) _ _ p3 (congrArg Nat.succ n3) ((s1.trans s2).trans s3) (l1.trans l3) o3 ⟨⟨st, k2.keep st s3 l3⟩, k3⟩
theorem mergeK_nd : ∀ (more kvs : List (Key × V)), (kvs ++ more).map (·.1) |>.Nodup → mergeK kvs more = kvs ++ more
  | [], kvs, _ => by show kvs = _; rw [List.append_nil]
  | p :: r, kvs, h => by
    have e : putK kvs p.1 p.2 = kvs ++ [p] := by
      unfold putK
      rw [if_neg]
      intro q
      obtain ⟨a, ha, e⟩ := List.any_eq_true.mp q
      have e := of_decide_eq_true e
      rw [List.map_append, List.nodup_append] at h
      exact h.2.2 a.1 (List.mem_map.mpr ⟨a, ha, rfl⟩) p.1 (by simp) e
    show mergeK (putK kvs p.1 p.2) r = _
    rw [e, mergeK_nd r (kvs ++ [p]) (by rw [List.append_assoc]; exact h), List.append_assoc]
    rfl
theorem zip_fst {α β : Type} : ∀ {as : List α} {bs : List β}, as.length = bs.length → (as.zip bs).map (·.1) = as
  | [], [], _ => rfl
  | a :: as, b :: bs, h => by
    show a :: (as.zip bs).map (·.1) = _
    rw [zip_fst (Nat.succ.inj h)]
theorem zip_snd {α β : Type} : ∀ {as : List α} {bs : List β}, as.length = bs.length → (as.zip bs).map (·.2) = bs
  | [], [], _ => rfl
  | a :: as, b :: bs, h => by
    show b :: (as.zip bs).map (·.2) = _
    rw [zip_snd (Nat.succ.inj h)]
theorem ROks.length {C : DC} {dk : Dk} {σ : L2.St} {H F : Hp} {env : En} : ∀ {rs : List R} {vs : List V}, ROks C dk σ H F env rs vs → rs.length = vs.length
  | [], [], _ => rfl
  | _ :: _, _ :: _, h => congrArg Nat.succ (ROks.length h.2)
  | [], _ :: _, h => h.elim
  | _ :: _, [], h => h.elim
theorem ev_disp (h : EvPs G W X pos keys values ks ws) (hn : ks.Nodup := by decide) (hk : ks.length ≤ 15 := by decide) (hall : keys.all (·.isSome) = true := by rfl) (hl : keys.length = values.length := by rfl) (h0 : keys ≠ [] := by simp) (h15 : keys.length ≤ 15 := by decide) :
    Ev G W X (.Dict keys values pos) (wDisp ks ws) := by
  refine Ev.of (pe_disp h.pp hall hl h0 h15) fun C hC dk σ H F env P Ex Q o hw f => ?_
  subst hC
  intro p hp
  have nf := o.sub.free0 hp
  have nb := o.nb hp
  have off := o.offNew hp
  have o1 : Ok (C.at F) dk σ (upd H p (.dK [])) F env := Ok.up o (o.newCell (.dK []) hp) (Sub.refl F)
  have og := o1.guard upd_same off (o.ownNe hp) nf
  refine L.pairs (C := (C.at F).guard p (.dK [])) h.len og hw (fun rs e2 vs H2 F2 p2 n2 s2 l2 o2 k2 => ?_) fun x e c d H' F' px s l o' q => ?_
  · obtain ⟨o3, hH, nf2, no2⟩ := o2.unguard nb off nf
    cases e : toDs rs with
    | none => rw [e] at p2; exact p2.elim
    | some xs =>
      rw [e] at p2
      have p3 : P (.nw (.dic ks xs)) (holdAll rs e2) := p2
      obtain ⟨F3, s3, o4, l4, d4⟩ := ROks.held o2 k2 e
      obtain ⟨o5, hH', nf5, no5⟩ := o4.unguard nb off nf
      have lv : ks.length = vs.length := by rw [h.len, ← n2, k2.length]
      refine ⟨hH, ks.zip vs, rfl, by rw [List.length_zip]; omega, ?_⟩
      rw [mergeK_nd _ _ (by rw [List.nil_append, zip_fst lv]; exact hn), List.nil_append]
      have o6 := o5.write (u := .dK (ks.zip vs)) nf5 nb off no5
      have o7 : Ok C dk σ (upd H2 p (.dK (ks.zip vs))) F3 (holdAll rs e2) := Ok.down o o6
      refine f.1 _ _ _ _ _ p3 (s2.trans s3) (l2.trans l4) o7 ⟨p, rfl, ⟨nf5, nb, off, _, upd_same, ?_⟩, no5⟩
      exact ⟨zip_fst lv, by rw [zip_snd lv]; exact d4⟩
  · exact f.2 _ _ _ _ _ _ px s l (Ok.down o (o'.unguard nb off nf).1) q trivial
end
end Dl

namespace Dl
open PySem PySem.Spec PyProof.Rows L2
section
variable {G : DG} {W : WX} {X : Cx} {i j : Nat} {x y : Str} {a b : Expr} {w wi wv : WE} {p1 apos cpos pos p2 apos2 cpos2 : Pos}
/-! ### x.extend(a), a a list -/
def wExt (i : Nat) (w : WE) : WS := fun env P => (∃ xs, env[i]? = some (.own (.lst xs))) ∧ wA [w] env (fun rs e => ∃ xs ys, e[i]? = some (.own (.lst xs)) ∧ toDs rs = some [.list ys] ∧ xs.length + ys.length ≤ sizeLine ∧ P.nx (e.set i (.own (.lst (xs ++ ys))))) P.ex
theorem evs_extend (i : Nat) (c : Ctx0 G X) (ha : EvA G W X [a] [w]) (hN : X.N[i]? = some x := by rfl) (hv : Vis X.env.scope x := by first | exact Or.inl rfl | exact Or.inr (Or.inl rfl) | exact Or.inr (Or.inr rfl)) (hd : (x == ("__debug__" : Str)) = false := by decide) (hcd : (x == ("__classdict__" : Str)) = false := by decide)
    (hbase : attributeBase (.Name x p1) "extend" X.env (eval (.Name x p1) X.env) = eval (.Name x p1) X.env := by rfl)
    (hfew : ((backTo cpos (starEach [a] X.env)).all (fun x => !x.1) && (backToKw cpos (keywordEach [] X.env)).all (fun x => x.1.isSome) && decide ([a].length + ([] : List Keyword).length + (if ([] : List Keyword).isEmpty then 0 else 1) < 30)) = true := by rfl)
    (hline : (apos.endLine == cpos.line) = true := by rfl) (hs : starEach [a] X.env = (false, eval a X.env) :: starEach [] X.env := by rfl) (hplain : (backTo cpos (starEach [] X.env)).any (·.1) = false := by rfl)
    (hsw : swapsWith (.Call (.Attribute (.Name x p1) "extend" apos) [a] [] cpos) none pos.line X.env = pure false := by rfl) : EvS G W X (.Expr (.Call (.Attribute (.Name x p1) "extend" apos) [a] [] cpos) pos) (wExt i w) :=
  ⟨PS.imp (ps_expr (pe_bm PySem.F.plainAttrs_list PySem.F.slot_list_extend PySem.F.type_list_extend mt_extend (pv i hN hv hd hcd) ha.pa hbase hfew hline hs hplain) hsw) fun D σ H q => by
    obtain ⟨C, dk, F, env, P, rfl, o, ⟨⟨xs0, h0⟩, hw⟩, f⟩ := q
    obtain ⟨p, vs0, g0, e0, _⟩ := o.ownAt h0
    refine ⟨.ref p, gt_of g0, .inl ⟨rfl, vs0, SqL.of e0⟩, C, dk, F, env, _, P.ex, rfl, o, hw, fun rs e vs H' F' ⟨xs, ys, h1, h2, h3, h4⟩ n s l o' k => ?_, fun x e cls d H' F' pp _ _ o' q => f.ex x e cls d σ H' F' dk pp o' q⟩
    obtain ⟨r, v, rfl, rfl, k1, e1⟩ := k.one h2
    obtain ⟨q, zs, rfl, a1, b1⟩ := k1.lst o' e1
    obtain ⟨p', vs1, g1, e2, d1⟩ := o'.ownAt h1
    rw [g0] at g1
    cases g1
    refine ⟨p, q, vs1, zs, rfl, rfl, e2, a1, by rw [d1.length, b1.length]; exact h3, ?_⟩
    exact f.nx _ _ _ _ _ h4 (o'.wown h1 g0 (show DqAll C.g.K F' (vs1 ++ zs) (xs ++ ys) from d1.append b1))⟩
/-! ### {} -/
def wDict0 : WE := fun env P _ => P (.nw (.dic [] [])) env
theorem ev_dict0 : Ev G W X (.Dict [] [] pos) wDict0 := Ev.of pe_dnewK fun C hC dk σ H F env P Ex Q o h f => by
  subst hC
  intro p hp
  exact f.1 _ _ _ _ _ h (Sub.refl F) (EnLe.refl _) (o.newCell _ hp) (o.newPriv hp (show CellOk C.g.K F (.dic [] []) (.dK []) from ⟨rfl, .nil⟩))
/-! ### a tuple of the module -/
def dvD : He.Dv → PyData
  | .bl b => .bool b
  | .int i => .int i
  | .str z => .str z
  | _ => .none
def dvOk : He.Dv → Bool
  | .bl _ => true
  | .int _ => true
  | .str _ => true
  | .non => true
  | _ => false
theorem dv_dq {K : PySem.W.Frag} {F : Hp} : ∀ {vs : List He.Dv}, vs.all dvOk = true → DqAll K F (vs.map (He.Dv.v K)) (vs.map dvD)
  | [], _ => .nil
  | v :: vs, h => by
    rw [List.all_cons, Bool.and_eq_true] at h
    refine .cons ?_ (dv_dq h.2)
    have h1 := h.1
    cases v <;> first | (cases h1; done) | skip
    · exact .non
    · exact .bl _
    · exact .int _
    · exact .str _
theorem conT_ok {K : PySem.W.Frag} {x : Str} {vs : List He.Dv} (h : He.tupB K x vs = true) (hv : vs.all dvOk = true := by rfl) : ∀ F, Dq K F (.ref (He.ga K x)) (.tuple (vs.map dvD)) := fun F => .tup (He.tupB_ok h F) (dv_dq hv)
theorem ev_conT (c : Ctx0 G X) {d : PyData} (h : G.mg x = some (.ref (He.ga G.K x)) ∧ ∀ F, Dq G.K F (.ref (He.ga G.K x)) d) (hg : Gl X x := by rfl) (hd : (x == ("__debug__" : Str)) = false := by decide) : Ev G W X (.Name x pos) (wC d) :=
  ev_glob (v := .ref (He.ga G.K x)) (by rw [c.mg]; exact h.1) rfl h.2 hg hd
end
end Dl

/-! list(text) -/
namespace Dl
open PySem PySem.Spec PyProof.Rows L2
section
variable {prog : Program} {w : World} {A : Around} {s : Shared} {R : Result → Shared → Prop}
theorem extend_str {x : Str} {t : Tok} (hh : A.handled = none) (S : Addr) (res : Value) (c₀ : Nat) (hS : s.heap.get? S = some { cls := .type "list", data := .seq #[] c₀ })
    (hR : ∀ s' acc' c', (∀ b o, b ≠ S → s.heap.get? b = some o → s'.heap.get? b = some o) → s'.gens = s.gens → s'.drawn = s.drawn → s'.os = s.os → s'.heap.get? S = some { cls := .type "list", dict := none, data := .seq acc' c', slots := #[] } → ItemsOf (SignAt x) acc' x.cps.size → R (.ok (.ret res)) s') (hn : x.cps.size ≤ sizeLine) :
    wpAny (model prog w) A.in1 (Builtin.List.listExtendWith (.ref S) (.str x t) res)
      (fun fin s' => match fin with | .done f => R (.ok f) s' | .again c' => c'.quiet = true ∧ codeAny (model prog w) A c' R s') (fun e s' => R (.error e) s') s := by
  have hSlt : S < s.heap.objs.size := Heap.lt_size hS
  have hSI : S ≠ s.heap.objs.size := Nat.ne_of_lt hSlt
  have hSf : S ∉ [s.heap.objs.size] := fun hm => hSI (List.mem_singleton.mp hm)
  unfold Builtin.List.listExtendWith
  refine wpAny_bind (wpAny_typeOf (T := "str") (v := .str x t) rfl ?_)
  have h1 : Builtin.List.listSameRef (.ref S) (.str x t) = false := rfl
  have h2 : (Value.type "str" == Value.type "list") = false := by decide
  have h3 : (Value.type "str" == Value.type "tuple") = false := by decide
  simp only [h1, h2, h3, Bool.or_false, Bool.false_eq_true, if_false]
  refine wpAny_bind (wpAny_pyIter_str fun o St W hst => ?_)
  refine wpAny_bind (wpAny_holding ?_)
  unfold Builtin.List.listLengthHint
  refine wpAny_bind (wpAny_specialOf (T := "str") (v := .str x t) rfl PySem.F.str_len ?_)
  wp_delta
  refine wpAny_bind (wpAny_isInstance (T := "str") (v := .str x t) (b := true) rfl (by rw [isSubtype_type]; kernel_rfl) ?_)
  show wpAny _ A.in1 (typeOf (Value.str x t) >>= _) _ _ _
  refine wpAny_bind (wpAny_typeOf (T := "str") (v := .str x t) rfl ?_)
  refine wpAny_pure ?_
  rw [if_neg (by decide)]
  refine wpAny_pure ⟨plainId_quiet F.plain_extend_loop _, codeAny_extend_loopS (W A.in1 hh).toS hn S hSf res x.cps.size 0 _ #[] c₀ rfl (Nat.zero_le _) hst (Heap.get?_push_of_some _ hS) (ItemsOf.nil _) fun s' acc' c' hm hS' hacc => ?_⟩
  refine hR s' acc' c' (fun b ob hb e => hm.heap b ob (fun hmem => ?_) (Heap.get?_push_of_some _ e)) hm.gens hm.drawn hm.os hS' hacc
  rcases List.mem_cons.mp hmem with e' | hmem
  · exact hb e'
  · exact absurd (Heap.lt_size e) (by rw [List.mem_singleton.mp hmem]; exact Nat.lt_irrefl _)
theorem init_str {x : Str} {t : Tok} (hh : A.handled = none) (S : Addr) (hS : s.heap.get? S = some { cls := .type "list", data := .seq #[] })
    (hR : ∀ s' acc' c', (∀ b o, b ≠ S → s.heap.get? b = some o → s'.heap.get? b = some o) → s'.gens = s.gens → s'.drawn = s.drawn → s'.os = s.os → s'.heap.get? S = some { cls := .type "list", dict := none, data := .seq acc' c', slots := #[] } → ItemsOf (SignAt x) acc' x.cps.size → R (.ok (.ret .none)) s') (hn : x.cps.size ≤ sizeLine) :
    wpAny (model prog w) A.in1 (Builtin.«list.__init__» ⟨[.ref S, .str x t], []⟩)
      (fun fin s' => match fin with | .done f => R (.ok f) s' | .again c' => c'.quiet = true ∧ codeAny (model prog w) A c' R s') (fun e s' => R (.error e) s') s := by
  show wpAny _ _ (do let old ← Builtin.List.listItems (.ref S); Builtin.List.listUpdate (.ref S) (fun _ => #[]); letGo old.toList.reverse; Builtin.List.listExtendWith (.ref S) (.str x t) .none) _ _ s
  refine wpAny_bind ?_
  unfold Builtin.List.listItems
  refine wpAny_bind (wpAny_seqItems hS rfl (wpAny_pure ?_))
  show wpAny _ _ (updateSeq S (fun _ => #[]) >>= fun _ => letGo (#[] : Array Value).toList.reverse >>= fun _ => Builtin.List.listExtendWith (.ref S) (.str x t) .none) _ _ s
  refine wpAny_bind (wpAny_updateSeq hS rfl ?_)
  have hS₂ := Heap.get?_update_self (Obj.mapSeq (fun _ => (#[] : Array Value))) hS rfl
  have oth : ∀ b o, b ≠ S → s.heap.get? b = some o → (s.heap.update S (Obj.mapSeq (fun _ => (#[] : Array Value)))).get? b = some o :=
    fun b o hb e => (Heap.get?_update_other _ _ (Ne.symm hb)).trans e
  refine wpAny_bind (wpAny_letGo ?_)
  refine extend_str hh S .none _ hS₂ (fun s' acc' c' hk h1 h2 h3 hS' hacc => ?_) hn
  exact hR s' acc' c' (fun b o hb e => hk b o hb (oth b o hb e)) h1 h2 h3 hS' hacc
theorem list_str {E : Value → Shared → Prop} {Q : Value → Shared → Prop} {x : Str} {t : Tok} (hh : A.handled = none) (hn : x.cps.size ≤ sizeLine)
    (hQ : ∀ s' acc' c', (∀ b o, s.heap.get? b = some o → s'.heap.get? b = some o) → s'.gens = s.gens → s'.drawn = s.drawn → s'.os = s.os →
      s'.heap.get? s.heap.objs.size = some { cls := .type "list", dict := none, data := .seq acc' c', slots := #[] } → ItemsOf (SignAt x) acc' x.cps.size → Q (.ref s.heap.objs.size) s') :
    wpAny (model prog w) A (call (.type "list") [.str x t]) Q E s := by
  refine callType_codes (Q₁ := fun obj s₁ => obj = .ref s.heap.objs.size ∧ s₁ = { s with heap := s.heap.push { cls := .type "list", data := .seq #[] } }) F.called_list (F.typeCall_list_1 _) F.entry_list_init
    (code_list_new _ ⟨rfl, rfl⟩) fun obj s₁ h₁ => ?_
  obtain ⟨rfl, rfl⟩ := h₁
  have hS : (s.heap.push { cls := .type "list", data := .seq #[] }).get? s.heap.objs.size = some { cls := .type "list", data := .seq #[] } := Heap.get?_push_size _ rfl
  refine ⟨⟨_, hS, rfl⟩, F.args_list_init_2 _ _, init_str (A := A.in1) hh _ hS (fun s' acc' c' hk h1 h2 h3 hS' hacc => ?_) hn⟩
  exact ⟨rfl, hQ s' acc' c' (fun b o e => hk b o (Nat.ne_of_lt (Heap.lt_size e)) (Heap.get?_push_of_some _ e)) h1 h2 h3 hS' hacc⟩
end
theorem paired_getD {α β : Type} {R : α → β → Prop} : ∀ {as : List α} {bs : List β}, as.length = bs.length → (∀ (i : Nat) (a : α) (b : β), as[i]? = some a → bs[i]? = some b → R a b) → Paired R as bs
  | [], [], _, _ => .nil
  | a :: as, b :: bs, h, g => .cons (g 0 a b rfl rfl) (paired_getD (Nat.succ.inj h) fun i x y e1 e2 => g (i + 1) x y (by simpa using e1) (by simpa using e2))
theorem vals_signs {x : Str} {acc : Array Value} (h : ItemsOf (SignAt x) acc x.cps.size) : Vals (Dl.signs x) acc.toList := by
  refine paired_getD (by unfold Dl.signs; rw [List.length_map, Array.length_toList, Array.length_toList, h.1]) fun i a b e1 e2 => ?_
  rw [Array.getElem?_toList] at e2
  obtain ⟨c, u, e3, rfl⟩ := h.2 i b e2
  unfold Dl.signs at e1
  rw [List.getElem?_map, Array.getElem?_toList, e3] at e1
  cases e1
  exact ⟨u, rfl⟩
theorem call_listStr {X : Cx} (hc : X.calm = true) : CallR X (.type "list") (fun xs H Q => ∃ z, xs = [.str z] ∧ z.length ≤ sizeLine ∧ ∀ l, H l = none → Q (.ref l) (upd H l (.lst (Dl.signs z)))) := by
  intro pins s σ H xs us Q I r h
  obtain ⟨z, rfl, hz, q⟩ := h
  obtain ⟨u, rfl, t, rfl⟩ := vals1 r
  refine list_str (I.ok.hd hc) hz fun s' acc c hk h1 h2 h3 hS hacc => ?_
  have e : s' = { s with heap := s'.heap, toks := s'.toks } := by
    obtain ⟨hp', g', d', tk', os'⟩ := s'
    obtain ⟨hp, g, d, tk, os⟩ := s
    simp only at h1 h2 h3
    subst h1 h2 h3
    rfl
  refine ⟨.ref s.heap.objs.size, upd H s.heap.objs.size (.lst (Dl.signs z)), ?_, rfl, q _ (I.hok.fresh (Nat.le_refl _))⟩
  rw [e]
  exact I.laid (t' := s'.toks) hk (Nat.le_refl _) (show ObjOk X.prog X.w _ s'.heap _ (.lst (Dl.signs z)) from ⟨by unfold Dl.signs; rw [List.length_map, Array.length_toList]; exact hz, acc.toList, c, vals_signs hacc, hS⟩)
end Dl

namespace Dl
open PySem PySem.Spec PyProof.Rows L2
section
variable {G : DG} {W : WX} {X : Cx} {e : Expr} {es : List Expr} {ws : List WE} {p pos : Pos}
/-! ### list(e), e a list, a tuple, a text -/
def dList2 : OpN := fun xs P => match xs with
  | [.list ds] => P (.nw (.lst ds))
  | [.tuple ds] => P (.nw (.lst ds))
  | [.str z] => z.length ≤ sizeLine ∧ P (.nw (.lst (signsD z)))
  | _ => False
theorem snd_list2 : SndN G (fun xs H Q => (∃ p ys, xs = [.ref p] ∧ (SqL G.K H p ys ∨ SqT G.K H p ys) ∧ ∀ l, H l = none → Q (.ref l) (upd H l (.lst ys))) ∨ (∃ z, xs = [.str z] ∧ z.length ≤ sizeLine ∧ ∀ l, H l = none → Q (.ref l) (upd H l (.lst (Dl.signs z))))) dList2 := by
  intro C hC dk σ H F env rs vs xs Q P o k e h q
  subst hC
  match xs, h with
  | [.list ds], h =>
    obtain ⟨r, v, rfl, rfl, k1, e1⟩ := k.one e
    obtain ⟨p1, vs1, rfl, a1, b1⟩ := k1.lst o e1
    exact .inl ⟨p1, vs1, rfl, .inl (SqL.of a1), fun l hl => q _ _ _ _ h (Sub.refl F) (o.newCell _ hl) (o.newPriv hl b1)⟩
  | [.tuple ds], h =>
    obtain ⟨r, v, rfl, rfl, k1, e1⟩ := k.one e
    obtain ⟨p1, vs1, rfl, a1, b1⟩ := k1.tup o e1
    exact .inl ⟨p1, vs1, rfl, .inr a1, fun l hl => q _ _ _ _ h (Sub.refl F) (o.newCell _ hl) (o.newPriv hl b1)⟩
  | [.str z], h =>
    obtain ⟨r, v, rfl, rfl, k1, e1⟩ := k.one e
    exact .inr ⟨z, by rw [k1.str o e1], h.1, fun l hl => q _ _ _ _ h.2 (Sub.refl F) (o.newCell _ hl) (o.newPriv hl (show CellOk C.g.K F (.lst (signsD z)) (.lst (Dl.signs z)) from DqAll.signs z))⟩
theorem ev_list2 (c : Ctx0 G X) (hm : X.mg "list" = none) (ha : EvA G W X (e :: es) ws) (hc : X.calm = true := by rfl) (hg : Gl X "list" := by rfl)
    (he : starEach (e :: es) X.env = (false, eval e X.env) :: starEach es X.env := by rfl) (hpl : (backTo pos (starEach es X.env)).any (·.1) = false := by rfl) : Ev G W X (.Call (.Name "list" p) (e :: es) [] pos) (wB dList2 ws) :=
  ev_callTy (by have := CallR.or (call_list_of (X := X)) (call_listStr hc); rw [c.K] at this; exact this) snd_list2 hm (by decide +kernel) ha hg (by decide) (by decide) he hpl
end
end Dl

namespace Dl
open PySem PySem.Spec PyProof.Rows L2
/-! ### x, y = a, b; a's value a new cell that stays x's own -/
def wParO (i j : Nat) (wa wb : WE) : WS := fun env P => wa env (fun r e1 => match r with
  | .nw c => wb e1 (fun s e2 => P.nx ((stE j s e2).set i (.own c))) P.ex
  | _ => False) P.ex
theorem evs_parO {G : DG} {W : WX} {X : Cx} {i j : Nat} {x y : Str} {a b : Expr} {wa wb : WE} {px py pt pos : Pos} {kt k2 pt2} (hN : X.N.Nodup) (ha : Ev G W X a wa) (hb : Ev G W X b wb) (hc : X.calm = true := by rfl) (hi : X.N[i]? = some x := by rfl) (hj : X.N[j]? = some y := by rfl) (hij : i ≠ j := by decide)
    (hx : X.env.scope.names.lookup x = some .local := by rfl) (hy : X.env.scope.names.lookup y = some .local := by rfl)
    (hw : swappedStores [.Tuple [.Name x px, .Name y py] kt pt] (.Tuple [a, b] k2 pt2) X.env = pure (some [x, y]) := by rfl)
    (hs : swapsWithSole [.Tuple [.Name x px, .Name y py] kt pt] (.Tuple [a, b] k2 pt2) pos.line X.env = pure false := by rfl)
    (h1 : starEach [a, b] X.env = (false, eval a X.env) :: starEach [b] X.env := by rfl) (h2 : starEach [b] X.env = (false, eval b X.env) :: starEach [] X.env := by rfl) :
    EvS G W X (.Assign [.Tuple [.Name x px, .Name y py] kt pt] (.Tuple [a, b] k2 pt2) pos) (wParO i j wa wb) := ⟨PS.imp (ps_par hc hN hi hj hij hx hy (pa_cons ha.pe (pa_cons hb.pe pa_nil h2) h1) hw hs) fun D σ H q => by
  obtain ⟨C, dk, F, env, P, rfl, o, hw, f⟩ := q
  refine ⟨C, dk, F, env, _, P.ex, rfl, o, hw, fun r e1 v H1 F1 p s l o1 k1 => ?_, fun x e c d H' F' p _ _ o' q => f.ex x e c d σ H' F' dk p o' q⟩
  cases r <;> first | exact False.elim p | skip
  rename_i c
  obtain ⟨q, rfl, pr, no⟩ := k1
  obtain ⟨ho, hu, ck⟩ := pr.at_
  have og := (Ok.up o1 o1 (Sub.refl F1)).guard hu pr.off no pr.nf
  refine ⟨(C.at F1).guard q ho, dk, F1, e1, _, P.ex, rfl, og, p, fun r2 e2 u H2 F2 p2 s2 l2 o2 k2 => ?_, fun x e c d H' F' p _ _ o' qq => f.ex x e c d σ H' F' dk p (Ok.down o1 (o'.unguard pr.nb pr.off pr.nf).1) qq⟩
  obtain ⟨F3, o3⟩ := k2.store j o2
  obtain ⟨o4, hH, nf, no4⟩ := o3.unguard pr.nb pr.off pr.nf
  have o5 := Ok.down o1 o4
  have sb : Sub F1 F3 := o4.f0
  have o6 := o5.store (i := i) (s := .own c) (v := .ref q) ⟨q, rfl, nf, pr.nb, pr.off, ho, hH, ck.mono sb⟩ fun _ _ => no4
  refine ⟨.ref q, u, rfl, ?_⟩
  have e : (σ.set i (some (V.ref q))).set j (some u) = (σ.set j (some u)).set i (some (.ref q)) := List.set_comm _ _ hij
  rw [e]
  exact f.nx _ _ _ _ _ p2 o6⟩
end Dl

namespace Dl
open PySem PySem.Spec PyProof.Rows L2
section
variable {G : DG} {W : WX} {X : Cx}
/-! ### x = a, what is new held for good -/
def wSetD (i : Nat) (w : WE) : WS := fun env P => w env (fun r e => P.nx (stE i r.calm e)) P.ex
theorem evs_setD {i : Nat} {x : Str} {e : Expr} {w : WE} {pos' pos : Pos} (hN : X.N.Nodup) (h : Ev G W X e w) (hi : X.N[i]? = some x := by rfl) (hx : Loc X.env.scope x := by first | exact Or.inl rfl | exact Or.inr rfl) (hs : swapsWith e (some (.Name x pos')) pos.line X.env = pure false := by rfl)
    (hf : X.fn x = true ∨ X.env.scope.names.lookup x = some .local := by first | exact .inl rfl | exact .inr rfl | assumption) : EvS G W X (.Assign [.Name x pos'] e pos) (wSetD i w) := ⟨PS.imp (ps_set hN hi hx h.pe hs hf) fun D σ H q => by
  obtain ⟨C, dk, F, env, P, rfl, o, hw, f⟩ := q
  refine L.stmt (g := fun r e P => P.nx (stE i r.calm e)) o hw f fun r v H1 F1 env1 o1 k1 p => ?_
  obtain ⟨F2, s2, o2, k2, _⟩ := k1.calmed o1
  obtain ⟨F3, o3⟩ := k2.store i o2
  exact f.nx _ _ _ _ _ p o3⟩
theorem evs_setLcD {i : Nat} {y : Str} {py : Pos} {elt tg iter : Expr} {ifs : List Expr} {scope : Scope} {own : List (Str × Nat)} {pos spos : Pos} {wi : WI} {sl : List Nat} {t : WG} {c : WT} {we : WE} (hN : X.N.Nodup)
    (hi : EvI G W X tg iter wi) (ok : BlkOk X.N X.env.scope scope own)
    (hg : ∀ (s : Shared) (H : Hp) (C : Addr) (cl : List (Str × Addr)) (fp : List Addr), EvG G (X.blk s H scope (compEnvC scope cl C X.env) fp) tg sl t)
    (ht : ∀ (s : Shared) (H : Hp) (C : Addr) (cl : List (Str × Addr)) (fp : List Addr), EvTs G W0 (X.blk s H scope (compEnvC scope cl C X.env) fp) ifs c)
    (he : ∀ (s : Shared) (H : Hp) (C : Addr) (cl : List (Str × Addr)) (fp : List Addr), Ev G W0 (X.blk s H scope (compEnvC scope cl C X.env) fp) elt we) (hc : X.calm = true := by rfl) (hsl : ∀ j ∈ sl, j ∈ own.map (·.2) := by decide)
    (hy : X.N[i]? = some y := by rfl) (hyl : X.env.scope.names.lookup y = some .local := by rfl) (hsw : swapsWith (.ListComp elt [⟨tg, iter, ifs, 0⟩] scope pos) (some (.Name y py)) spos.line X.env = pure true := by exact sw_true rfl rfl rfl (by decide +kernel))
    (hs : ∀ x, foldedSetIterable iter X.env x = pure x := by intro _; rfl) : EvS G W X (.Assign [.Name y py] (.ListComp elt [⟨tg, iter, ifs, 0⟩] scope pos) spos) (wSetD i (wLc (own.map (·.2)) wi t c we)) :=
  ⟨PS.imp (ps_setLc hc hN hy hyl hsw hi.pi ok (fun s H C cl fp => (hg s H C cl fp).pg) (fun s H C cl fp => (ht s H C cl fp).pt) (fun s H C cl fp => (he s H C cl fp).pe) hs) fun D σ H q => by
    obtain ⟨C, dk, F, env, P, rfl, o, hw, f⟩ := q
    exact L.lc hsl o hw ⟨fun r e v H' F' p s l o' k => by
      obtain ⟨F1, s1, o1, k1, _⟩ := k.calmed o'
      obtain ⟨F2, o2⟩ := k1.store i o1
      exact f.nx _ _ _ _ _ p o2, fun x e c d H' F' p _ _ o' q _ => f.ex x e c d σ H' F' dk p o' q⟩⟩
/-! ### x, y = a, b; y's value a new cell that stays y's own -/
def wParDO (i j : Nat) (wa wb : WE) : WS := fun env P => wa env (fun r e1 => match r.calm with
  | .d x => wb e1 (fun s e2 => P.nx ((stE j s e2).set i (.d x))) P.ex
  | _ => False) P.ex
theorem evs_parDO {i j : Nat} {x y : Str} {a b : Expr} {wa wb : WE} {px py pt pos : Pos} {kt k2 pt2} (hN : X.N.Nodup) (ha : Ev G W X a wa) (hb : Ev G W X b wb) (hc : X.calm = true := by rfl) (hi : X.N[i]? = some x := by rfl) (hj : X.N[j]? = some y := by rfl) (hij : i ≠ j := by decide)
    (hx : X.env.scope.names.lookup x = some .local := by rfl) (hy : X.env.scope.names.lookup y = some .local := by rfl)
    (hw : swappedStores [.Tuple [.Name x px, .Name y py] kt pt] (.Tuple [a, b] k2 pt2) X.env = pure (some [x, y]) := by rfl)
    (hs : swapsWithSole [.Tuple [.Name x px, .Name y py] kt pt] (.Tuple [a, b] k2 pt2) pos.line X.env = pure false := by rfl)
    (h1 : starEach [a, b] X.env = (false, eval a X.env) :: starEach [b] X.env := by rfl) (h2 : starEach [b] X.env = (false, eval b X.env) :: starEach [] X.env := by rfl) :
    EvS G W X (.Assign [.Tuple [.Name x px, .Name y py] kt pt] (.Tuple [a, b] k2 pt2) pos) (wParDO i j wa wb) := ⟨PS.imp (ps_par hc hN hi hj hij hx hy (pa_cons ha.pe (pa_cons hb.pe pa_nil h2) h1) hw hs) fun D σ H q => by
  obtain ⟨C, dk, F, env, P, rfl, o, hw, f⟩ := q
  refine ⟨C, dk, F, env, _, P.ex, rfl, o, hw, fun r e1 v H1 F1 p s l o1 k1 => ?_, fun x e c d H' F' p _ _ o' q => f.ex x e c d σ H' F' dk p o' q⟩
  obtain ⟨F2, s2, o2, k2, _⟩ := k1.calmed o1
  generalize r.calm = r' at p k2
  cases r' <;> first | exact False.elim p | skip
  rename_i z
  refine ⟨C, dk, F2, e1, _, P.ex, rfl, o2, p, fun r3 e3 u H3 F3 p3 s3 l3 o3 k3 => ?_, fun x e c d H' F' p _ _ o' q => f.ex x e c d σ H' F' dk p o' q⟩
  have k3' : ROk (C.at F3) dk σ H3 F3 e3 r3 u := by
    cases r3 with
    | nw c => obtain ⟨p, rfl, pr, no⟩ := k3; exact ⟨p, rfl, ⟨pr.nf, pr.nb, pr.off, pr.at_⟩, no⟩
    | d x => exact k3
    | bw i c => exact k3
    | deck => exact k3
    | opq y => exact k3
  obtain ⟨F5, o5'⟩ := k3'.store j (Ok.up o3 o3 (Sub.refl F3))
  have s5 : Sub F3 F5 := o5'.f0
  have o5 := Ok.down o3 o5'
  have k6 : Dq C.g.K F5 v z := Dq.mono (show Dq C.g.K F2 v z from k2) (s3.trans s5)
  have o6 := o5.store (i := i) (s := .d z) ⟨v, rfl, k6⟩ fun c e => by cases e
  refine ⟨v, u, rfl, ?_⟩
  have e : (σ.set i (some v)).set j (some u) = (σ.set j (some u)).set i (some v) := List.set_comm _ _ hij
  rw [e]
  exact f.nx _ _ _ _ _ p3 o6⟩
/-! ### x, y, z = a, b, c; x's value a new cell that stays x's own -/
def wPar3O (i j l : Nat) (wa wb wc : WE) : WS := fun env P => wa env (fun r e1 => match r with
  | .nw c => wA [wb, wc] e1 (fun rs e2 => match toDs rs with
    | some [y, z] => P.nx ((((holdAll rs e2).set j (.d y)).set l (.d z)).set i (.own c))
    | _ => False) P.ex
  | _ => False) P.ex
theorem evs_par3O {i j l : Nat} {x y z : Str} {a b c : Expr} {wa wb wc : WE} {px py pz pt pos : Pos} {kt k2 pt2} (hN : X.N.Nodup) (ha : Ev G W X a wa) (h : EvA G W X [b, c] [wb, wc]) (hc : X.calm = true := by rfl) (hi : X.N[i]? = some x := by rfl) (hj : X.N[j]? = some y := by rfl) (hl : X.N[l]? = some z := by rfl)
    (hij : i ≠ j := by decide) (hil : i ≠ l := by decide) (hjl : j ≠ l := by decide) (hx : X.env.scope.names.lookup x = some .local := by rfl) (hy : X.env.scope.names.lookup y = some .local := by rfl) (hz : X.env.scope.names.lookup z = some .local := by rfl)
    (hw : swappedStores [.Tuple [.Name x px, .Name y py, .Name z pz] kt pt] (.Tuple [a, b, c] k2 pt2) X.env = pure (some [x, y, z]) := by rfl)
    (hs : swapsWithSole [.Tuple [.Name x px, .Name y py, .Name z pz] kt pt] (.Tuple [a, b, c] k2 pt2) pos.line X.env = pure false := by rfl)
    (h1 : starEach [a, b, c] X.env = (false, eval a X.env) :: starEach [b, c] X.env := by rfl) :
    EvS G W X (.Assign [.Tuple [.Name x px, .Name y py, .Name z pz] kt pt] (.Tuple [a, b, c] k2 pt2) pos) (wPar3O i j l wa wb wc) := ⟨PS.imp (ps_par3 hc hN hi hj hl hij hil hjl hx hy hz (pa_cons ha.pe h.pa h1) hw hs) fun D σ H q => by
  obtain ⟨C, dk, F, env, P, rfl, o, hw, f⟩ := q
  refine ⟨C, dk, F, env, _, P.ex, rfl, o, hw, fun r e1 v H1 F1 p s l1 o1 k1 => ?_, fun x e c d H' F' p _ _ o' q => f.ex x e c d σ H' F' dk p o' q⟩
  cases r <;> first | exact False.elim p | skip
  rename_i cc
  obtain ⟨q, rfl, pr, no⟩ := k1
  obtain ⟨ho, hu, ck⟩ := pr.at_
  have og := (Ok.up o1 o1 (Sub.refl F1)).guard hu pr.off no pr.nf
  refine ⟨(C.at F1).guard q ho, dk, F1, e1, _, P.ex, rfl, og, p, fun rs e2 vs H2 F2 p2 n2 s2 l2 o2 k2 => ?_, fun x e c d H' F' p _ _ o' qq => f.ex x e c d σ H' F' dk p (Ok.down o1 (o'.unguard pr.nb pr.off pr.nf).1) qq⟩
  cases zz : toDs rs with
  | none => rw [zz] at p2; exact p2.elim
  | some xs =>
    rw [zz] at p2
    match xs, p2 with
    | [y, z], p2 =>
      obtain ⟨F3, s3, o3, l3, k3⟩ := k2.held o2 zz
      match vs, k3 with
      | [v2, v3], .cons q2 (.cons q3 .nil) =>
        have o4 := o3.store (i := j) (s := .d y) ⟨_, rfl, q2⟩ fun c e => by cases e
        have o5 := o4.store (i := l) (s := .d z) ⟨_, rfl, q3⟩ fun c e => by cases e
        obtain ⟨o6, hH, nf, no6⟩ := o5.unguard pr.nb pr.off pr.nf
        have o7 := Ok.down o1 o6
        have sb : Sub F1 F3 := o6.f0
        have o8 := o7.store (i := i) (s := .own cc) (v := .ref q) ⟨q, rfl, nf, pr.nb, pr.off, ho, hH, ck.mono sb⟩ fun _ _ => no6
        refine ⟨.ref q, v2, v3, rfl, ?_⟩
        have e : ((σ.set i (some (V.ref q))).set j (some v2)).set l (some v3) = ((σ.set j (some v2)).set l (some v3)).set i (some (.ref q)) := by
          rw [List.set_comm _ _ hij, List.set_comm _ _ hil]
        rw [e]
        exact f.nx _ _ _ _ _ p2 o8⟩
end
end Dl

namespace Dl
open PySem PySem.Spec PyProof.Rows L2
/-! ### x[::-1], x[:0:-1] of lists and texts -/
def revS (z : Str) : Str := ⟨z.cps.toList.reverse.toArray⟩
def revS0 (z : Str) : Str := ⟨(z.cps.toList.drop 1).reverse.toArray⟩
theorem range_rev {α : Type} (l : List α) : ((List.range l.length).map fun k => l.length - 1 - k).filterMap (l[·]?) = l.reverse := by
  have h : (((List.range l.length).map fun k => l.length - 1 - k).map (l[·]?)) = (l.reverse).map some := by
    apply List.ext_getElem
    · simp
    · intro i h1 h2
      have hi : i < l.length := by simpa using h1
      rw [List.getElem_map, List.getElem_map, List.getElem_map, List.getElem_range, List.getElem_reverse, List.getElem?_eq_getElem (by omega)]
  have key : ∀ (xs : List Nat) (ys : List α), xs.map (l[·]?) = ys.map some → xs.filterMap (l[·]?) = ys := by
    intro xs
    induction xs with
    | nil => intro ys e; cases ys with | nil => rfl | cons _ _ => cases e
    | cons x xs ih =>
      intro ys e
      cases ys with
      | nil => cases e
      | cons y ys =>
        rw [List.map_cons, List.map_cons] at e
        injection e with e1 e2
        rw [List.filterMap_cons, e1, ih ys e2]
  exact key _ _ h
theorem range_rev0 {α : Type} (l : List α) : ((List.range (l.length - 1)).map fun k => l.length - 1 - k).filterMap (l[·]?) = (l.drop 1).reverse := by
  cases l with
  | nil => rfl
  | cons a l =>
    show ((List.range l.length).map fun k => l.length - k).filterMap ((a :: l)[·]?) = l.reverse
    rw [← range_rev l]
    have e : ((List.range l.length).map fun k => l.length - k) = (((List.range l.length).map fun k => l.length - 1 - k)).map (· + 1) := by
      rw [List.map_map]
      apply List.map_congr_left
      intro k hk
      have := List.mem_range.mp hk
      show l.length - k = l.length - 1 - k + 1
      omega
    rw [e, List.filterMap_map]
    rfl
theorem picked0 (n : Nat) : Builtin.Str.strSliceIndices none (some 0) (-1) n = (List.range (n - 1)).map fun k => n - 1 - k := by
  unfold Builtin.Str.strSliceIndices sliceRange
  have h0 : ¬ ((-1 : Int) > 0) := by decide
  have h1 : ¬ ((0 : Int) < 0) := by decide
  simp only [h0, h1, if_false]
  by_cases hn : n = 0
  · subst hn; rfl
  · have e1 : max (-1) (min (0 : Int) ((n : Int) - 1)) = 0 := by omega
    rw [e1]
    have hc : (if (n : Int) - 1 > 0 then ((n : Int) - 1 - 0 - -1 - 1) / (- -1) else 0).toNat = n - 1 := by
      have e : (- -1 : Int) = 1 := by decide
      split
      · rw [e, Int.ediv_one]; omega
      · omega
    rw [hc]
    apply List.map_congr_left
    intro k hk
    have hk' : k < n - 1 := List.mem_range.mp hk
    omega
theorem made_rev (z : Str) (t u : Tok) : sliceMade z t none none (some (-1, u)) = .str (revS z) := by
  unfold sliceMade slicePicked
  have h1 : ((((some ((-1 : Int), u)).map (·.1)).getD 1 == 1)) = false := rfl
  rw [h1, Bool.false_and, if_neg Bool.false_ne_true]
  show Made.str ⟨((Builtin.Str.strSliceIndices none none (-1) z.length).filterMap (z.cps[·]?)).toArray⟩ = _
  rw [picked_rev]
  have e : ∀ is : List Nat, is.filterMap (z.cps[·]?) = is.filterMap (z.cps.toList[·]?) := fun is => by
    congr 1
    funext i
    simp
  rw [e]
  have := range_rev z.cps.toList
  rw [show z.cps.toList.length = z.length from by simp [Str.length]] at this
  rw [this]
  rfl
theorem made_rev0 (z : Str) (t u v : Tok) : sliceMade z t none (some (0, v)) (some (-1, u)) = .str (revS0 z) := by
  unfold sliceMade slicePicked
  have h1 : ((((some ((-1 : Int), u)).map (·.1)).getD 1 == 1)) = false := rfl
  rw [h1, Bool.false_and, if_neg Bool.false_ne_true]
  show Made.str ⟨((Builtin.Str.strSliceIndices none (some 0) (-1) z.length).filterMap (z.cps[·]?)).toArray⟩ = _
  rw [picked0]
  have e : ∀ is : List Nat, is.filterMap (z.cps[·]?) = is.filterMap (z.cps.toList[·]?) := fun is => by
    congr 1
    funext i
    simp
  rw [e]
  have := range_rev0 z.cps.toList
  rw [show z.cps.toList.length = z.length from by simp [Str.length]] at this
  rw [this]
  rfl
section
variable {X : Cx} {e : Expr} {te : TE} {k kz : Nat} {p1 p2 p3 pz pos : Pos}
def tRevX (K : PySem.W.Frag) (te : TE) : TE := fun σ H Q => te σ H fun x H1 => (∃ a xs, x = .ref a ∧ SqL K H1 a xs ∧ ∀ p, H1 p = none → Q (.ref p) (upd H1 p (.lst xs.reverse))) ∨ (∃ z, x = .str z ∧ z.length ≤ sizeLine ∧ Q (.str (revS z)) H1)
theorem pe_revX (he : PE X e te) : PE X (.Subscript e (.Slice none none (some (.UnaryOp .USub (.Constant (.int 1) k p1) p2)) p3) pos) (tRevX X.K te) := by
  refine ⟨fun pins s σ H Q I h => ?_⟩
  refine Subscript_ (thn (he.run pins s σ H _ I h) fun v s1 ⟨x, H1, I1, r1, q1⟩ => ?_)
  have hst : PO X (some (.UnaryOp .USub (.Constant (.int 1) k p1) p2)) (tPart (tUn (rU fun i => .int (-i)) (tC (.int 1)))) := po_some (pe_un un_neg pe_int)
  refine wpAny_Slice (thn (po_none.run pins s1 σ H1 (fun o H2 => o = none ∧ H2 = H1) I1 ⟨rfl, rfl⟩) fun vl s2 ⟨l, H2, I2, pl, el, e2⟩ => ?_)
  subst el e2
  refine thn (po_none.run pins s2 σ H2 (fun o H3 => o = none ∧ H3 = H2) I2 ⟨rfl, rfl⟩) fun vu s3 ⟨u, H3, I3, pu, eu, e3⟩ => ?_
  subst eu e3
  refine thn (hst.run pins s3 σ H3 (fun o H4 => o = some (-1) ∧ H4 = H3) I3 ⟨1, rfl, -1, rfl, rfl, rfl⟩) fun vs s4 ⟨o, H4, I4, ps, eo, e4⟩ => ?_
  subst eo e4
  have I5 : Inv X pins σ H4 { s4 with heap := s4.heap.push { cls := .type "slice", data := .fields #[vl, vu, vs] } } := I4.kept (t' := s4.toks) fun b ob q => Heap.get?_push_of_some _ q
  rcases q1 with ⟨a, xs, ex, hx, q⟩ | ⟨z, ex, hz, q⟩
  · subst ex
    cases r1
    obtain ⟨its, r, ht, hz⟩ := I5.list hx
    have hlen := r.length
    show wpAny (model X.prog X.w) X.A (subscriptTail e (.Slice none none (some (.UnaryOp .USub (.Constant (.int 1) k p1) p2)) p3) (.ref a) (.ref s4.heap.objs.size)) (EP X pins σ Q) X.xe { s4 with heap := s4.heap.push { cls := .type "slice", data := .fields #[vl, vu, vs] } }
    refine tail_any (ops := [.ref a, .ref s4.heap.objs.size]) ht.isList.typeIs (PySem.slot_list_getitem.lookup) ?_ (by with_unfolding_all rfl)
    refine wpAny_getItem_list_slice ht.isList (Heap.IsSliceOf.new _ vl vu vs) pl pu ps (by decide) ?_ (by rw [List.size_toArray]; omega)
    rw [PySem.W.krv_pick]
    refine ⟨.ref _, _, I5.laid (t' := s4.toks) (o := .lst xs.reverse) (fun b ob q => Heap.get?_push_of_some _ q) (Nat.le_refl _) ?_, rfl, q _ (I5.hok.fresh (Nat.le_refl _))⟩
    exact ⟨by rw [List.length_reverse]; exact hz, _, 0, r.reverse, Heap.get?_push_size _ rfl⟩
  · subst ex
    obtain ⟨t, rfl⟩ := r1
    show wpAny (model X.prog X.w) X.A (subscriptTail e (.Slice none none (some (.UnaryOp .USub (.Constant (.int 1) k p1) p2)) p3) (.str z t) (.ref s4.heap.objs.size)) (EP X pins σ Q) X.xe { s4 with heap := s4.heap.push { cls := .type "slice", data := .fields #[vl, vu, vs] } }
    refine tail_any (ops := [.ref s4.heap.objs.size, .str z t]) (typeIs_str _ _ _) (F.slot_str_getitem.lookup) ?_ (by with_unfolding_all rfl)
    obtain ⟨l0, rfl, el⟩ := IsPart.raw pl
    obtain ⟨u0, rfl, eu⟩ := IsPart.raw pu
    cases l0 with
    | some _ => cases el
    | none =>
      cases u0 with
      | some _ => cases eu
      | none =>
        cases ps with
        | int i tk =>
          refine wpAny_getItem_str_slice (l := none) (u := none) (st := some (-1, tk)) ⟨_, Heap.get?_push_size _ rfl, rfl, rfl⟩ rfl ?_
          rw [made_rev]
          exact ⟨by show (revS z).cps.size ≤ _; unfold revS; simp; exact hz, .str _, H4, I5.tok _, ⟨_, rfl⟩, q⟩
def rRevX (K : PySem.W.Frag) : V → Hp → VK → Prop := fun x H1 Q => (∃ a xs, x = .ref a ∧ SqL K H1 a xs ∧ ∀ p, H1 p = none → Q (.ref p) (upd H1 p (.lst xs.reverse))) ∨ (∃ z, x = .str z ∧ z.length ≤ sizeLine ∧ Q (.str (revS z)) H1)
def dRev : Op1 := fun x P => match x with
  | .list xs => P (.nw (.lst xs.reverse))
  | .str z => z.length ≤ sizeLine ∧ P (.d (.str (revS z)))
  | _ => False
theorem DqAll.rev {K : PySem.W.Frag} {F : Hp} : ∀ {vs : List V} {ds : List PyData}, DqAll K F vs ds → DqAll K F vs.reverse ds.reverse
  | _, _, .nil => .nil
  | _, _, .cons r t => by
    rw [List.reverse_cons, List.reverse_cons]
    exact (DqAll.rev t).snoc r
theorem snd_rev {G : DG} : Snd1 G (rRevX G.K) dRev := by
  intro C hC dk σ H F env r v x Q P o k e h q
  subst hC
  cases x <;> first | exact h.elim | skip
  · have k1 := k.dp o e
    cases k1
    exact .inr ⟨_, rfl, h.1, q _ _ _ _ h.2 (Sub.refl F) o (show Dq C.g.K F _ _ from .str _)⟩
  · rename_i ds
    obtain ⟨a, vs, rfl, h1, h2⟩ := k.lst o e
    exact .inl ⟨a, vs, rfl, SqL.of h1, fun p hp => q _ _ _ _ h (Sub.refl F) (o.newCell _ hp) (o.newPriv hp (show CellOk C.g.K F (.lst ds.reverse) (.lst vs.reverse) from h2.rev))⟩
theorem ev_rev {G : DG} {W : WX} {we : WE} (c : Ctx0 G X) (he : Ev G W X e we) : Ev G W X (.Subscript e (.Slice none none (some (.UnaryOp .USub (.Constant (.int 1) k p1) p2)) p3) pos) (wOp1 dRev we) :=
  Ev.of (pe_revX he.pe) fun C hC _ _ _ _ _ _ _ _ o h f => by
    subst hC
    have := L.one snd_rev o h f
    rw [c.K]
    exact this
end
end Dl

namespace Dl
open PySem PySem.Spec PyProof.Rows L2
section
variable {G : DG} {W : WX} {X : Cx} {i j : Nat} {x y : Str} {a b : Expr} {w wi wv : WE} {p1 apos cpos pos p2 apos2 cpos2 : Pos}
/-! ### x.insert(a, b) -/
def wIns (i : Nat) (wi w : WE) : WS := fun env P => (∃ xs, env[i]? = some (.own (.lst xs))) ∧ wA [wi, w] env (fun rs e => ∃ xs k x, (holdAll rs e)[i]? = some (.own (.lst xs)) ∧ toDs rs = some [.int k, x] ∧ xs.length < sizeLine ∧ 0 ≤ k ∧ k < 2 ^ 62 ∧
  P.nx ((holdAll rs e).set i (.own (.lst (xs.take k.toNat ++ [x] ++ xs.drop k.toNat))))) P.ex
theorem evs_insert (i : Nat) (c : Ctx0 G X) (ha : EvA G W X [a, b] [wi, w]) (hN : X.N[i]? = some x := by rfl) (hv : Vis X.env.scope x := by first | exact Or.inl rfl | exact Or.inr (Or.inl rfl) | exact Or.inr (Or.inr rfl)) (hd : (x == ("__debug__" : Str)) = false := by decide) (hcd : (x == ("__classdict__" : Str)) = false := by decide)
    (hbase : attributeBase (.Name x p1) "insert" X.env (eval (.Name x p1) X.env) = eval (.Name x p1) X.env := by rfl)
    (hfew : ((backTo cpos (starEach [a, b] X.env)).all (fun x => !x.1) && (backToKw cpos (keywordEach [] X.env)).all (fun x => x.1.isSome) && decide ([a, b].length + ([] : List Keyword).length + (if ([] : List Keyword).isEmpty then 0 else 1) < 30)) = true := by rfl)
    (hline : (apos.endLine == cpos.line) = true := by rfl) (hs : starEach [a, b] X.env = (false, eval a X.env) :: starEach [b] X.env := by rfl) (hplain : (backTo cpos (starEach [b] X.env)).any (·.1) = false := by rfl)
    (hsw : swapsWith (.Call (.Attribute (.Name x p1) "insert" apos) [a, b] [] cpos) none pos.line X.env = pure false := by rfl) : EvS G W X (.Expr (.Call (.Attribute (.Name x p1) "insert" apos) [a, b] [] cpos) pos) (wIns i wi w) :=
  ⟨PS.imp (ps_expr (pe_bm PySem.F.plainAttrs_list PySem.F.slot_list_insert PySem.F.type_list_insert mt_insert (pv i hN hv hd hcd) ha.pa hbase hfew hline hs hplain) hsw) fun D σ H q => by
    obtain ⟨C, dk, F, env, P, rfl, o, ⟨⟨xs0, h0⟩, hw⟩, f⟩ := q
    obtain ⟨p, vs0, g0, e0, _⟩ := o.ownAt h0
    refine ⟨.ref p, gt_of g0, .inl ⟨rfl, vs0, SqL.of e0⟩, C, dk, F, env, _, P.ex, rfl, o, hw, fun rs e vs H' F' ⟨xs, k, x, h1, h2, h3, h4, h5, h6⟩ n s l o' kk => ?_, fun x e cls d H' F' pp _ _ o' q => f.ex x e cls d σ H' F' dk pp o' q⟩
    obtain ⟨F2, s2, o2, l2, k2⟩ := kk.held o' h2
    obtain ⟨p', vs1, g1, e1, d1⟩ := o2.ownAt h1
    rw [g0] at g1
    cases g1
    match vs, k2 with
    | [u, y], .cons q0 (.cons q1 .nil) =>
      cases q0
      refine ⟨p, vs1, k, y, rfl, rfl, e1, by rw [d1.length]; exact h3, h4, by omega, ?_⟩
      exact f.nx _ _ _ _ _ h6 (o2.wown h1 g0 (show DqAll C.g.K F2 (vs1.take k.toNat ++ [y] ++ vs1.drop k.toNat) (xs.take k.toNat ++ [x] ++ xs.drop k.toNat) from ((d1.take k.toNat).snoc q1).append (d1.drop k.toNat)))⟩
/-! ### y = x.pop() -/
def wSetPop (j i : Nat) : WS := fun env P => ∃ xs x, env[i]? = some (.own (.lst (xs ++ [x]))) ∧ P.nx ((env.set i (.own (.lst xs))).set j (.d x))
theorem evs_setPop (j i : Nat) (c : Ctx0 G X) (hNd : X.N.Nodup) (hji : j ≠ i := by decide) (hN : X.N[i]? = some x := by rfl) (hv : Vis X.env.scope x := by first | exact Or.inl rfl | exact Or.inr (Or.inl rfl) | exact Or.inr (Or.inr rfl)) (hd : (x == ("__debug__" : Str)) = false := by decide) (hcd : (x == ("__classdict__" : Str)) = false := by decide)
    (hbase : attributeBase (.Name x p1) "pop" X.env (eval (.Name x p1) X.env) = eval (.Name x p1) X.env := by rfl) (hline : (apos.endLine == cpos.line) = true := by rfl)
    (hj : X.N[j]? = some y := by rfl) (hx : Loc X.env.scope y := by first | exact Or.inl rfl | exact Or.inr rfl) (hs : swapsWith (.Call (.Attribute (.Name x p1) "pop" apos) [] [] cpos) (some (.Name y p2)) pos.line X.env = pure false := by rfl)
    (hf : X.fn y = true ∨ X.env.scope.names.lookup y = some .local := by first | exact .inl rfl | exact .inr rfl | assumption) : EvS G W X (.Assign [.Name y p2] (.Call (.Attribute (.Name x p1) "pop" apos) [] [] cpos) pos) (wSetPop j i) :=
  ⟨PS.imp (ps_set hNd hj hx (pe_bm0 PySem.F.plainAttrs_list PySem.F.slot_list_pop PySem.F.type_list_pop mt_pop (pv i hN hv hd hcd) hbase hline) hs hf) fun D σ H q => by
    obtain ⟨C, dk, F, env, P, rfl, o, ⟨xs, x, h0, hw⟩, f⟩ := q
    obtain ⟨p, vs0, g0, e0, d0⟩ := o.ownAt h0
    obtain ⟨v, hv, vd⟩ := d0.getD (i := xs.length) (d := x) (by simp)
    have hl : vs0.length = xs.length + 1 := by rw [d0.length]; simp
    refine ⟨.ref p, gt_of g0, .inl ⟨rfl, vs0, SqL.of e0⟩, p, vs0, v, rfl, rfl, e0, by rw [hl]; exact hv, ?_⟩
    have hd : DqAll C.g.K F vs0.dropLast xs := by
      have := d0.take xs.length
      rw [List.take_left] at this
      rw [List.dropLast_eq_take, hl]
      exact this
    have o1 := o.wown h0 g0 (c' := .lst xs) (u := .lst vs0.dropLast) (show DqAll C.g.K F _ _ from hd)
    exact f.nx _ _ _ _ _ hw (o1.store (i := j) (s := .d x) ⟨v, rfl, vd⟩ fun c e => by cases e)⟩
/-! ### y = x.pop(a) -/
def wSetPopAt (j i : Nat) (w : WE) : WS := fun env P => (∃ xs, env[i]? = some (.own (.lst xs))) ∧ wA [w] env (fun rs e => ∃ xs k x, e[i]? = some (.own (.lst xs)) ∧ toDs rs = some [.int k] ∧ 0 ≤ k ∧ k < 2 ^ 62 ∧ xs[k.toNat]? = some x ∧ P.nx ((e.set i (.own (.lst (xs.eraseIdx k.toNat)))).set j (.d x))) P.ex
theorem evs_setPopAt (j i : Nat) (c : Ctx0 G X) (ha : EvA G W X [a] [w]) (hNd : X.N.Nodup) (hji : j ≠ i := by decide) (hN : X.N[i]? = some x := by rfl) (hv : Vis X.env.scope x := by first | exact Or.inl rfl | exact Or.inr (Or.inl rfl) | exact Or.inr (Or.inr rfl)) (hd : (x == ("__debug__" : Str)) = false := by decide) (hcd : (x == ("__classdict__" : Str)) = false := by decide)
    (hbase : attributeBase (.Name x p1) "pop" X.env (eval (.Name x p1) X.env) = eval (.Name x p1) X.env := by rfl)
    (hfew : ((backTo cpos (starEach [a] X.env)).all (fun x => !x.1) && (backToKw cpos (keywordEach [] X.env)).all (fun x => x.1.isSome) && decide ([a].length + ([] : List Keyword).length + (if ([] : List Keyword).isEmpty then 0 else 1) < 30)) = true := by rfl)
    (hline : (apos.endLine == cpos.line) = true := by rfl) (hss : starEach [a] X.env = (false, eval a X.env) :: starEach [] X.env := by rfl) (hplain : (backTo cpos (starEach [] X.env)).any (·.1) = false := by rfl)
    (hj : X.N[j]? = some y := by rfl) (hx : Loc X.env.scope y := by first | exact Or.inl rfl | exact Or.inr rfl) (hs : swapsWith (.Call (.Attribute (.Name x p1) "pop" apos) [a] [] cpos) (some (.Name y p2)) pos.line X.env = pure false := by rfl)
    (hf : X.fn y = true ∨ X.env.scope.names.lookup y = some .local := by first | exact .inl rfl | exact .inr rfl | assumption) : EvS G W X (.Assign [.Name y p2] (.Call (.Attribute (.Name x p1) "pop" apos) [a] [] cpos) pos) (wSetPopAt j i w) :=
  ⟨PS.imp (ps_set hNd hj hx (pe_bm PySem.F.plainAttrs_list PySem.F.slot_list_pop PySem.F.type_list_pop mt_popAt (pv i hN hv hd hcd) ha.pa hbase hfew hline hss hplain) hs hf) fun D σ H q => by
    obtain ⟨C, dk, F, env, P, rfl, o, ⟨⟨xs0, h0⟩, hw⟩, f⟩ := q
    obtain ⟨p, vs0, g0, e0, _⟩ := o.ownAt h0
    refine ⟨.ref p, gt_of g0, .inl ⟨rfl, vs0, SqL.of e0⟩, C, dk, F, env, _, P.ex, rfl, o, hw, fun rs e vs H' F' ⟨xs, k, x, h1, h2, h3, h4, h5, h6⟩ n s l o' kk => ?_, fun x e cls d H' F' pp _ _ o' q => f.ex x e cls d σ H' F' dk pp o' q⟩
    obtain ⟨r1, v1, rfl, rfl, k1, t1⟩ := kk.one h2
    obtain ⟨p', vs1, g1, e1, d1⟩ := o'.ownAt h1
    rw [g0] at g1
    cases g1
    obtain ⟨y, yv, yd⟩ := d1.getD h5
    have hk : k.toNat < xs.length := (List.getElem?_eq_some_iff.mp h5).1
    have ix : ixN vs1.length k = some k.toNat := by
      unfold ixN
      rw [if_pos h3, if_pos (by rw [d1.length]; omega)]
    refine ⟨p, vs1, k, k.toNat, y, rfl, by rw [k1.int o' t1], e1, by omega, by omega, (ixN_seq ix).1, yv, ?_⟩
    have o3 := o'.wown h1 g0 (c' := .lst (xs.eraseIdx k.toNat)) (u := .lst (vs1.eraseIdx k.toNat)) (show DqAll C.g.K F' _ _ from d1.eraseIdx k.toNat)
    exact f.nx _ _ _ _ _ h6 (o3.store (i := j) (s := .d x) ⟨y, rfl, yd⟩ fun c e => by cases e)⟩
/-! ### x.pop() -/
def wPopS (i : Nat) : WS := fun env P => ∃ xs x, env[i]? = some (.own (.lst (xs ++ [x]))) ∧ P.nx (env.set i (.own (.lst xs)))
theorem evs_popS (i : Nat) (c : Ctx0 G X) (hN : X.N[i]? = some x := by rfl) (hv : Vis X.env.scope x := by first | exact Or.inl rfl | exact Or.inr (Or.inl rfl) | exact Or.inr (Or.inr rfl)) (hd : (x == ("__debug__" : Str)) = false := by decide) (hcd : (x == ("__classdict__" : Str)) = false := by decide)
    (hbase : attributeBase (.Name x p1) "pop" X.env (eval (.Name x p1) X.env) = eval (.Name x p1) X.env := by rfl) (hline : (apos.endLine == cpos.line) = true := by rfl)
    (hsw : swapsWith (.Call (.Attribute (.Name x p1) "pop" apos) [] [] cpos) none pos.line X.env = pure false := by rfl) : EvS G W X (.Expr (.Call (.Attribute (.Name x p1) "pop" apos) [] [] cpos) pos) (wPopS i) :=
  ⟨PS.imp (ps_expr (pe_bm0 PySem.F.plainAttrs_list PySem.F.slot_list_pop PySem.F.type_list_pop mt_pop (pv i hN hv hd hcd) hbase hline) hsw) fun D σ H q => by
    obtain ⟨C, dk, F, env, P, rfl, o, ⟨xs, x, h0, hw⟩, f⟩ := q
    obtain ⟨p, vs0, g0, e0, d0⟩ := o.ownAt h0
    obtain ⟨v, hv, vd⟩ := d0.getD (i := xs.length) (d := x) (by simp)
    have hl : vs0.length = xs.length + 1 := by rw [d0.length]; simp
    refine ⟨.ref p, gt_of g0, .inl ⟨rfl, vs0, SqL.of e0⟩, p, vs0, v, rfl, rfl, e0, by rw [hl]; exact hv, ?_⟩
    have hd : DqAll C.g.K F vs0.dropLast xs := by
      have := d0.take xs.length
      rw [List.take_left] at this
      rw [List.dropLast_eq_take, hl]
      exact this
    exact f.nx _ _ _ _ _ hw (o.wown h0 g0 (c' := .lst xs) (u := .lst vs0.dropLast) (show DqAll C.g.K F _ _ from hd))⟩
/-! ### list(range(..)) -/
theorem DqAll.rg {K : PySem.W.Frag} {F : Hp} {a b : Int} : DqAll K F (rgV a b) (rangeD a (b - a).toNat) := by
  unfold rgV rangeD
  generalize List.range (b - a).toNat = l
  induction l with
  | nil => exact .nil
  | cons k l ih => exact .cons (.int _) ih
def dLr1 : Op1 := fun x P => match x with
  | .int j => RgOk 0 j ∧ P (.nw (.lst (rangeD 0 j.toNat)))
  | _ => False
theorem snd_lr1 : Snd1 G (fun x H1 Q => ∃ n, x = V.int n ∧ RgOk 0 n ∧ ∀ q, H1 q = none → Q (.ref q) (upd H1 q (.lst (rgV 0 n)))) dLr1 := by
  intro C hC dk σ H F env r v x Q P o k e h q
  subst hC
  cases x <;> first | exact h.elim | skip
  rename_i n
  refine ⟨n, k.int o e, h.1, fun p hp => q _ _ _ _ h.2 (Sub.refl F) (o.newCell _ hp) (o.newPriv hp (show CellOk C.g.K F (.lst (rangeD 0 n.toNat)) (.lst (rgV 0 n)) from ?_))⟩
  have := DqAll.rg (K := C.g.K) (F := F) (a := 0) (b := n)
  rwa [Int.sub_zero] at this
theorem ev_listRg1 {p q pos2 : Pos} {wa : WE} (hm : X.mg "list" = none) (hr : X.mg "range" = none) (ha : Ev G W X a wa) (hc : X.calm = true := by rfl) (hg : Gl X "list" := by rfl) (hg2 : Gl X "range" := by rfl)
    (na : starEach [a] X.env = (false, eval a X.env) :: starEach [] X.env := by rfl) (nb : starEach [.Call (.Name "range" p) [a] [] pos2] X.env = (false, eval (.Call (.Name "range" p) [a] [] pos2) X.env) :: starEach [] X.env := by rfl) :
    Ev G W X (.Call (.Name "list" q) [.Call (.Name "range" p) [a] [] pos2] [] pos) (wOp1 dLr1 wa) :=
  Ev.of (pe_listRg hc hg hm (prg_1 hg2 hr ha.pe na) nb) fun C hC _ _ _ _ _ _ _ _ o h f => by
    subst hC
    exact L.one snd_lr1 o h f
def dLr2 : Op2 := fun x y P => match x, y with
  | .int i, .int j => RgOk i j ∧ P (.nw (.lst (rangeD i (j - i).toNat)))
  | _, _ => False
theorem snd_lr2 : Snd2 G (fun x y H2 Q => ∃ i j, x = V.int i ∧ y = V.int j ∧ RgOk i j ∧ ∀ q, H2 q = none → Q (.ref q) (upd H2 q (.lst (rgV i j)))) dLr2 := by
  intro C hC dk σ H F env r s v u x y Q P o k1 k2 e1 e2 h q
  subst hC
  cases x <;> cases y <;> first | exact h.elim | skip
  rename_i n m
  exact ⟨n, m, k1.int o e1, k2.int o e2, h.1, fun p hp => q _ _ _ _ h.2 (Sub.refl F) (o.newCell _ hp) (o.newPriv hp (show CellOk C.g.K F (.lst (rangeD n (m - n).toNat)) (.lst (rgV n m)) from DqAll.rg))⟩
theorem ev_listRg2 {p q pos2 : Pos} {wa wb : WE} (hm : X.mg "list" = none) (hr : X.mg "range" = none) (ha : Ev G W X a wa) (hb : Ev G W X b wb) (hc : X.calm = true := by rfl) (hg : Gl X "list" := by rfl) (hg2 : Gl X "range" := by rfl)
    (na : starEach [a, b] X.env = (false, eval a X.env) :: starEach [b] X.env := by rfl) (na2 : starEach [b] X.env = (false, eval b X.env) :: starEach [] X.env := by rfl) (hp : (backTo pos2 (starEach [b] X.env)).any (·.1) = false := by rfl)
    (nb : starEach [.Call (.Name "range" p) [a, b] [] pos2] X.env = (false, eval (.Call (.Name "range" p) [a, b] [] pos2) X.env) :: starEach [] X.env := by rfl) :
    Ev G W X (.Call (.Name "list" q) [.Call (.Name "range" p) [a, b] [] pos2] [] pos) (wOp dLr2 wa wb) :=
  Ev.of (pe_listRg hc hg hm (prg_2 hg2 hr ha.pe hb.pe na na2 hp) nb) fun C hC _ _ _ _ _ _ _ _ o h f => by
    subst hC
    exact L.two snd_lr2 o h f
end
end Dl

namespace Dl
open PySem PySem.Spec PyProof.Rows L2
section
variable {G : DG} {W : WX} {X : Cx}
/-! ### x, y = a, b with a name that is a cell: by way of a tuple -/
theorem evs_parDOc {i j : Nat} {x y : Str} {a b : Expr} {wa wb : WE} {px py pt pos : Pos} {kt k2 pt2} (hN : X.N.Nodup) (ha : Ev G W X a wa) (hb : Ev G W X b wb) (hc : X.calm = true := by rfl) (hi : X.N[i]? = some x := by rfl) (hj : X.N[j]? = some y := by rfl) (hij : i ≠ j := by decide)
    (hx : Loc X.env.scope x := by first | exact Or.inl rfl | exact Or.inr rfl) (hy : Loc X.env.scope y := by first | exact Or.inl rfl | exact Or.inr rfl)
    (hfx : X.fn x = true ∨ X.env.scope.names.lookup x = some .local := by first | exact .inl rfl | exact .inr rfl | assumption) (hfy : X.fn y = true ∨ X.env.scope.names.lookup y = some .local := by first | exact .inl rfl | exact .inr rfl | assumption)
    (hn : (assignEach [.Name x px, .Name y py] X.env).length = 2 := by rfl) (hst : (assignEach [.Name x px, .Name y py] X.env).findIdx? (·.1) = none := by rfl)
    (hs1 : (assignEach [.Name x px, .Name y py] X.env).map (·.2) = assign (.Name x px) X.env :: (assignEach [.Name y py] X.env).map (·.2) := by rfl) (hs2 : (assignEach [.Name y py] X.env).map (·.2) = assign (.Name y py) X.env :: (assignEach [] X.env).map (·.2) := by rfl)
    (hz : (assignEach [.Tuple [.Name x px, .Name y py] kt pt] X.env).map (·.2) = [assign (.Tuple [.Name x px, .Name y py] kt pt) X.env] := by rfl)
    (hw : swappedStores [.Tuple [.Name x px, .Name y py] kt pt] (.Tuple [a, b] k2 pt2) X.env = pure none := by rfl)
    (hs : swapsWithSole [.Tuple [.Name x px, .Name y py] kt pt] (.Tuple [a, b] k2 pt2) pos.line X.env = pure false := by rfl)
    (h1 : starEach [a, b] X.env = (false, eval a X.env) :: starEach [b] X.env := by rfl) (h2 : starEach [b] X.env = (false, eval b X.env) :: starEach [] X.env := by rfl) :
    EvS G W X (.Assign [.Tuple [.Name x px, .Name y py] kt pt] (.Tuple [a, b] k2 pt2) pos) (wParDO i j wa wb) := ⟨PS.imp (ps_asg (pe_tup (pa_cons ha.pe (pa_cons hb.pe pa_nil h2) h1)) (pg_tup hc (pgs_cons (pg_name hN hi hx hfx) (pgs_cons (pg_name hN hj hy hfy) pgs_nil hs2) hs1) hn hst) hs hw hz) fun D σ H q => by
  obtain ⟨C, dk, F, env, P, rfl, o, hw, f⟩ := q
  refine ⟨C, dk, F, env, _, P.ex, rfl, o, hw, fun r e1 v H1 F1 p s l o1 k1 => ?_, fun x e c d H' F' p _ _ o' q => f.ex x e c d σ H' F' dk p o' q⟩
  obtain ⟨F2, s2, o2, k2, _⟩ := k1.calmed o1
  generalize r.calm = r' at p k2
  cases r' <;> first | exact False.elim p | skip
  rename_i z
  refine ⟨C, dk, F2, e1, _, P.ex, rfl, o2, p, fun r3 e3 u H3 F3 p3 s3 l3 o3 k3 => ?_, fun x e c d H' F' p _ _ o' q => f.ex x e c d σ H' F' dk p o' q⟩
  have k3' : ROk (C.at F3) dk σ H3 F3 e3 r3 u := by
    cases r3 with
    | nw c => obtain ⟨p, rfl, pr, no⟩ := k3; exact ⟨p, rfl, ⟨pr.nf, pr.nb, pr.off, pr.at_⟩, no⟩
    | d x => exact k3
    | bw i c => exact k3
    | deck => exact k3
    | opq y => exact k3
  obtain ⟨F5, o5'⟩ := k3'.store j (Ok.up o3 o3 (Sub.refl F3))
  have s5 : Sub F3 F5 := o5'.f0
  have o5 := Ok.down o3 o5'
  have k6 : Dq C.g.K F5 v z := Dq.mono (show Dq C.g.K F2 v z from k2) (s3.trans s5)
  have o6 := o5.store (i := i) (s := .d z) ⟨v, rfl, k6⟩ fun c e => by cases e
  refine ⟨by rw [sizeLine_eq]; exact (by decide : 2 ≤ 16777216), fun pt hpt => ?_⟩
  refine ⟨pt, [v, u], rfl, SqT.of upd_same, rfl, v, [u], rfl, u, [], rfl, rfl, ?_⟩
  have e : (σ.set i (some v)).set j (some u) = (σ.set j (some u)).set i (some v) := List.set_comm _ _ hij
  rw [e]
  exact f.nx _ _ _ _ _ p3 (o6.newCell _ hpt)⟩
theorem evs_parOc {i j : Nat} {x y : Str} {a b : Expr} {wa wb : WE} {px py pt pos : Pos} {kt k2 pt2} (hN : X.N.Nodup) (ha : Ev G W X a wa) (hb : Ev G W X b wb) (hc : X.calm = true := by rfl) (hi : X.N[i]? = some x := by rfl) (hj : X.N[j]? = some y := by rfl) (hij : i ≠ j := by decide)
    (hx : Loc X.env.scope x := by first | exact Or.inl rfl | exact Or.inr rfl) (hy : Loc X.env.scope y := by first | exact Or.inl rfl | exact Or.inr rfl)
    (hfx : X.fn x = true ∨ X.env.scope.names.lookup x = some .local := by first | exact .inl rfl | exact .inr rfl | assumption) (hfy : X.fn y = true ∨ X.env.scope.names.lookup y = some .local := by first | exact .inl rfl | exact .inr rfl | assumption)
    (hn : (assignEach [.Name x px, .Name y py] X.env).length = 2 := by rfl) (hst : (assignEach [.Name x px, .Name y py] X.env).findIdx? (·.1) = none := by rfl)
    (hs1 : (assignEach [.Name x px, .Name y py] X.env).map (·.2) = assign (.Name x px) X.env :: (assignEach [.Name y py] X.env).map (·.2) := by rfl) (hs2 : (assignEach [.Name y py] X.env).map (·.2) = assign (.Name y py) X.env :: (assignEach [] X.env).map (·.2) := by rfl)
    (hz : (assignEach [.Tuple [.Name x px, .Name y py] kt pt] X.env).map (·.2) = [assign (.Tuple [.Name x px, .Name y py] kt pt) X.env] := by rfl)
    (hw : swappedStores [.Tuple [.Name x px, .Name y py] kt pt] (.Tuple [a, b] k2 pt2) X.env = pure none := by rfl)
    (hs : swapsWithSole [.Tuple [.Name x px, .Name y py] kt pt] (.Tuple [a, b] k2 pt2) pos.line X.env = pure false := by rfl)
    (h1 : starEach [a, b] X.env = (false, eval a X.env) :: starEach [b] X.env := by rfl) (h2 : starEach [b] X.env = (false, eval b X.env) :: starEach [] X.env := by rfl) :
    EvS G W X (.Assign [.Tuple [.Name x px, .Name y py] kt pt] (.Tuple [a, b] k2 pt2) pos) (wParO i j wa wb) := ⟨PS.imp (ps_asg (pe_tup (pa_cons ha.pe (pa_cons hb.pe pa_nil h2) h1)) (pg_tup hc (pgs_cons (pg_name hN hi hx hfx) (pgs_cons (pg_name hN hj hy hfy) pgs_nil hs2) hs1) hn hst) hs hw hz) fun D σ H q => by
  obtain ⟨C, dk, F, env, P, rfl, o, hw, f⟩ := q
  refine ⟨C, dk, F, env, _, P.ex, rfl, o, hw, fun r e1 v H1 F1 p s l o1 k1 => ?_, fun x e c d H' F' p _ _ o' q => f.ex x e c d σ H' F' dk p o' q⟩
  cases r <;> first | exact False.elim p | skip
  rename_i c
  obtain ⟨q, rfl, pr, no⟩ := k1
  obtain ⟨ho, hu, ck⟩ := pr.at_
  have og := (Ok.up o1 o1 (Sub.refl F1)).guard hu pr.off no pr.nf
  refine ⟨(C.at F1).guard q ho, dk, F1, e1, _, P.ex, rfl, og, p, fun r2 e2 u H2 F2 p2 s2 l2 o2 k2 => ?_, fun x e c d H' F' p _ _ o' qq => f.ex x e c d σ H' F' dk p (Ok.down o1 (o'.unguard pr.nb pr.off pr.nf).1) qq⟩
  obtain ⟨F3, o3⟩ := k2.store j o2
  obtain ⟨o4, hH, nf, no4⟩ := o3.unguard pr.nb pr.off pr.nf
  have o5 := Ok.down o1 o4
  have sb : Sub F1 F3 := o4.f0
  have o6 := o5.store (i := i) (s := .own c) (v := .ref q) ⟨q, rfl, nf, pr.nb, pr.off, ho, hH, ck.mono sb⟩ fun _ _ => no4
  refine ⟨by rw [sizeLine_eq]; exact (by decide : 2 ≤ 16777216), fun pt hpt => ?_⟩
  refine ⟨pt, [.ref q, u], rfl, SqT.of upd_same, rfl, .ref q, [u], rfl, u, [], rfl, rfl, ?_⟩
  have e : (σ.set i (some (V.ref q))).set j (some u) = (σ.set j (some u)).set i (some (.ref q)) := List.set_comm _ _ hij
  rw [e]
  exact f.nx _ _ _ _ _ p2 (o6.newCell _ hpt)⟩
end
end Dl

namespace Dl
open PySem PySem.Spec PyProof.Rows L2
/-! ### tuple(e), e a list, a tuple, a text -/
theorem call_tupStr {X : Cx} (hc : X.calm = true) : CallR X (.type "tuple") (fun xs H Q => ∃ z, xs = [.str z] ∧ z.length ≤ sizeLine ∧ ∀ l, H l = none → Q (.ref l) (upd H l (.tup (Dl.signs z)))) := by
  intro pins s σ H xs us Q I r h
  obtain ⟨z, rfl, hz, q⟩ := h
  obtain ⟨u, rfl, t, rfl⟩ := vals1 r
  refine call_tuple_str (I.ok.hd hc) z t (fun h' tk acc hk hacc => ?_) hz
  have I1 : Inv X pins σ H { s with heap := h', toks := tk } := I.kept (t' := tk) hk
  refine ⟨.ref h'.objs.size, upd H h'.objs.size (.tup (Dl.signs z)), ?_, rfl, q _ (I1.hok.fresh (Nat.le_refl _))⟩
  exact I1.laid (t' := tk) (h' := h'.push { cls := .type "tuple", data := .seq acc }) (fun b o e => Heap.get?_push_of_some _ e) (Nat.le_refl _) (show ObjOk X.prog X.w _ _ _ (.tup (Dl.signs z)) from ⟨by unfold Dl.signs; rw [List.length_map, Array.length_toList]; exact hz, acc.toList, vals_signs hacc, IsTup.new _ _⟩)
section
variable {G : DG} {W : WX} {X : Cx} {e : Expr} {es : List Expr} {ws : List WE} {p pos : Pos}
def dTuple2 : OpN := fun xs P => match xs with
  | [.list ds] => P (.d (.tuple ds))
  | [.tuple ds] => P (.d (.tuple ds))
  | [.str z] => z.length ≤ sizeLine ∧ P (.d (.tuple (signsD z)))
  | _ => False
theorem snd_tuple2 : SndN G (fun xs H Q => (∃ p ys, xs = [.ref p] ∧ ((SqL G.K H p ys ∧ ∀ l, H l = none → Q (.ref l) (upd H l (.tup ys))) ∨ (SqT G.K H p ys ∧ Q (.ref p) H))) ∨ (∃ z, xs = [.str z] ∧ z.length ≤ sizeLine ∧ ∀ l, H l = none → Q (.ref l) (upd H l (.tup (Dl.signs z))))) dTuple2 := by
  intro C hC dk σ H F env rs vs xs Q P o k e h q
  match xs, h with
  | [.list ds], h => exact .inl (snd_tuple C hC dk σ H F env rs vs [.list ds] Q P o k e h q)
  | [.tuple ds], h => exact .inl (snd_tuple C hC dk σ H F env rs vs [.tuple ds] Q P o k e h q)
  | [.str z], h =>
    subst hC
    obtain ⟨r, v, rfl, rfl, k1, e1⟩ := k.one e
    refine .inr ⟨z, by rw [k1.str o e1], h.1, fun l hl => ?_⟩
    obtain ⟨F3, s3, o3, k3⟩ := o.newTup hl (DqAll.signs z)
    exact q _ _ _ _ h.2 s3 o3 k3
theorem ev_tuple2 (c : Ctx0 G X) (hm : X.mg "tuple" = none) (ha : EvA G W X (e :: es) ws) (hc : X.calm = true := by rfl) (hg : Gl X "tuple" := by rfl)
    (he : starEach (e :: es) X.env = (false, eval e X.env) :: starEach es X.env := by rfl) (hpl : (backTo pos (starEach es X.env)).any (·.1) = false := by rfl) : Ev G W X (.Call (.Name "tuple" p) (e :: es) [] pos) (wB dTuple2 ws) :=
  ev_callTy (by have := CallR.or (call_tuple_of (X := X)) (call_tupStr hc); rw [c.K] at this; exact this) snd_tuple2 hm (by decide +kernel) ha hg (by decide) (by decide) he hpl
end
end Dl

namespace Dl
open PySem PySem.Spec PyProof.Rows L2
/-! ### e.f, e an instance -/
/-- what the class c must say -/
structure InsC (K : PySem.W.Frag) (c : Str) : Prop where
  cls : Cls K (He.ga K c)
def dFld (f : Str) (ks : List Str) (xs : List PyData) (P : R → Prop) : Prop := ∃ y, (ks.zip xs).lookup f = some y ∧ P (.d y)
def wFld (c f : Str) (w : WE) : WE := fun env P Ex => w env (fun r e => match r with
  | .d x => ∃ ks xs, x = .dict (insD c ks xs) ∧ ks.length = xs.length ∧ dFld f ks xs fun t => P t e
  | .bw _ (.ins _ c' ks xs) => c' = c ∧ ks.length = xs.length ∧ dFld f ks xs fun t => P t e
  | .nw (.ins _ c' ks xs) => c' = c ∧ dFld f ks xs fun t => P t e
  | _ => False) Ex
theorem lookup_dq {K : PySem.W.Frag} {F : Hp} {f : Str} {y : PyData} : ∀ {fs : List (Str × V)} {xs : List PyData}, DqAll K F (fs.map (·.2)) xs → ((fs.map (·.1)).zip xs).lookup f = some y → ∃ v, fs.lookup f = some v ∧ Dq K F v y
  | [], xs, _, e => by cases e
  | (g, v) :: fs, _, h, e => by
    cases h with
    | cons h1 h2 =>
      rename_i x xs
      have e' : (match f == g with | true => some x | false => ((fs.map (·.1)).zip xs).lookup f) = some y := e
      show ∃ u, (match f == g with | true => some v | false => fs.lookup f) = some u ∧ Dq K F u y
      cases q : f == g with
      | true => rw [q] at e'; cases e'; exact ⟨v, rfl, h1⟩
      | false => rw [q] at e'; exact lookup_dq h2 e'
/-- what an instance's data tell -/
theorem Dq.ins1 {K : PySem.W.Frag} {F : Hp} {v : V} {c : Str} {ks : List Str} {xs : List PyData} (hl : ks.length = xs.length) (h : Dq K F v (.dict (insD c ks xs))) : ∃ (a dx : Addr) (fs : List (Str × V)), v = .ref a ∧ F a = some (.ins (He.ga K c) dx fs) ∧ fs.map (·.1) = ks ∧ DqAll K F (fs.map (·.2)) xs := by
  generalize e : PyData.dict (insD c ks xs) = D at h
  have nk : ∀ k : Key, kD k ≠ PyData.none := fun k => by cases k <;> exact fun z => nomatch z
  have nt : ∀ k : List Key, tD k ≠ PyData.none := fun k z => nomatch z
  cases h with
  | non => cases e
  | bl => cases e
  | int => cases e
  | str => cases e
  | lst => cases e
  | tup => cases e
  | dic h1 h2 h3 =>
    rename_i kvs ys ds
    have e := PyData.dict.inj e
    subst h3
    exfalso
    match kvs, ys, e with
    | [], _, e => cases e
    | _ :: _, [], e => cases e
    | k :: _, _ :: _, e => exact nk _ (congrArg Prod.fst (List.cons.inj e).1).symm
  | dct h0 h1 h2 h3 =>
    rename_i kvs ys ds
    have e := PyData.dict.inj e
    subst h3
    exfalso
    match kvs, ys, e with
    | [], _, e => cases e
    | _ :: _, [], e => cases e
    | k :: _, _ :: _, e => exact nt _ (congrArg Prod.fst (List.cons.inj e).1).symm
  | exc h1 h2 h3 =>
    have e := PyData.dict.inj e
    subst h3
    cases congrArg Prod.snd (List.cons.inj e).1
  | ins h0 h1 h2 h3 =>
    rename_i a C dx fs c' ys ds
    have e := PyData.dict.inj e
    subst h3
    subst h1
    obtain ⟨z1, z2⟩ := List.cons.inj e
    have z3 : c = c' := PyData.str.inj (congrArg Prod.snd z1)
    subst z3
    have l2 : (fs.map (·.1)).length = ys.length := by rw [← h2.length]; simp
    have zz : ∀ {A B : List Str} {U W : List PyData}, A.length = U.length → B.length = W.length → (A.map PyData.str).zip U = (B.map PyData.str).zip W → A = B ∧ U = W := by
      intro A
      induction A with
      | nil =>
        intro B U W h1 h2 h3
        cases U with
        | cons _ _ => cases h1
        | nil =>
          cases B with
          | nil => cases W with
            | nil => exact ⟨rfl, rfl⟩
            | cons _ _ => cases h2
          | cons _ _ => cases W with
            | nil => cases h2
            | cons _ _ => cases h3
      | cons a A ih =>
        intro B U W h1 h2 h3
        cases U with
        | nil => cases h1
        | cons u U =>
          cases B with
          | nil => cases h3
          | cons b B => cases W with
            | nil => cases h2
            | cons w W =>
              obtain ⟨q1, q2⟩ := List.cons.inj h3
              obtain ⟨r1, r2⟩ := ih (by simpa using h1) (by simpa using h2) q2
              have q3 : a = b := PyData.str.inj (congrArg Prod.fst q1)
              have q4 : u = w := congrArg Prod.snd q1
              rw [q3, q4, r1, r2]
              exact ⟨rfl, rfl⟩
    obtain ⟨r1, r2⟩ := zz hl l2 z2
    exact ⟨a, dx, fs, rfl, h0, r1.symm, by rw [r2]; exact h2⟩
section
variable {G : DG} {W : WX} {X : Cx} {e : Expr} {w : WE} {pos : Pos} {c f : Str}
theorem ev_fld (hC : Ctx0 G X) (T : Cls G.K (He.ga G.K c)) (N : NoAttr G.K (He.ga G.K c) f) (he : Ev G W X e w) (hb : attributeBase e f X.env (eval e X.env) = eval e X.env := by rfl) : Ev G W X (.Attribute e f pos) (wFld c f w) := by
  refine ⟨PE.imp (pe_fld he.pe hb) fun σ H Q q => ?_⟩
  obtain ⟨C, dk, F, env, P, Ex, hg, o, hw, f1, f2⟩ := q
  subst hg
  refine ⟨C, dk, F, env, _, Ex, rfl, o, hw, fun r env1 v H1 F1 p s1 l1 o1 k1 => ?_, f2⟩
  rw [hC.K]
  have fin : ∀ (a dx : Addr) (fs : List (Str × V)) (ks : List Str) (xs : List PyData), v = .ref a → H1 a = some (.ins (He.ga C.g.K c) dx fs) → fs.map (·.1) = ks → DqAll C.g.K F1 (fs.map (·.2)) xs → dFld f ks xs (fun t => P t env1) →
      ∃ a C' dx fs v', v = .ref a ∧ H1 a = some (.ins C' dx fs) ∧ Cls C.g.K C' ∧ NoAttr C.g.K C' f ∧ fs.lookup f = some v' ∧ Q v' H1 := fun a dx fs ks xs e1 e2 e3 e4 ⟨y, e5, e6⟩ => by
    subst e3
    obtain ⟨u, z1, z2⟩ := lookup_dq e4 e5
    exact ⟨a, _, dx, fs, u, e1, e2, T, N, z1, f1 _ _ _ _ _ e6 s1 l1 o1 z2⟩
  cases r with
  | d x =>
    obtain ⟨ks, xs, rfl, hl, h⟩ := p
    obtain ⟨a, dx, fs, e1, e2, e3, e4⟩ := Dq.ins1 hl k1
    exact fin a dx fs ks xs e1 (o1.sub _ _ e2) e3 e4 h
  | nw c1 =>
    cases c1 <;> first | exact False.elim p | skip
    obtain ⟨rfl, h⟩ := p
    obtain ⟨q, rfl, pr, _⟩ := k1
    obtain ⟨ho, e2, e3⟩ := pr.at_
    cases ho <;> first | exact False.elim e3 | skip
    obtain ⟨_, rfl, e4, e5⟩ := e3
    exact fin _ _ _ _ _ rfl e2 e4 e5 h
  | bw i c1 =>
    cases c1 <;> first | exact False.elim p | skip
    obtain ⟨rfl, hl, h⟩ := p
    obtain ⟨k2, k3⟩ := k1
    rcases k2 with e0 | ⟨x, e0, e1⟩
    · obtain ⟨q, z, pr⟩ := o1.slot _ _ e0
      rw [k3] at z
      cases z
      obtain ⟨ho, e2, e3⟩ := pr.at_
      cases ho <;> first | exact False.elim e3 | skip
      obtain ⟨_, rfl, e4, e5⟩ := e3
      exact fin _ _ _ _ _ rfl e2 e4 e5 h
    · cases e0
      obtain ⟨u, z, k4⟩ := o1.slot _ _ e1
      rw [k3] at z
      cases z
      obtain ⟨a, dx, fs, e1, e2, e3, e4⟩ := Dq.ins1 hl k4
      exact fin a dx fs _ _ e1 (o1.sub _ _ e2) e3 e4 h
  | deck => exact False.elim p
  | opq y => exact False.elim p
theorem putF_new {f : Str} {v : V} : ∀ {fs : List (Str × V)}, f ∉ fs.map (·.1) → putF f v fs = fs ++ [(f, v)]
  | [], _ => rfl
  | (g, x) :: r, h => by
    have h1 : ¬ g = f := fun z => h (by rw [z]; exact List.mem_cons_self)
    show (if g = f then _ else (g, x) :: putF f v r) = _
    rw [if_neg h1, putF_new fun z => h (List.mem_cons_of_mem _ z)]
    rfl
/-- n.f = e, n an own instance that has no f yet -/
def wSetF (i : Nat) (c f : Str) (w : WE) : WS := fun env P => w env (fun r e => match r.toD with
  | some y => ∃ m ks xs, (r.hold e)[i]? = some (.own (.ins m c ks xs)) ∧ f ∉ ks ∧ ks.length < 1000 ∧ P.nx ((r.hold e).set i (.own (.ins m c (ks ++ [f]) (xs ++ [y]))))
  | none => False) P.ex
theorem evs_setF {n : Str} {p1 pos' : Pos} (i : Nat) (hC : Ctx0 G X) (T : Cls G.K (He.ga G.K c)) (N : NoAttr G.K (He.ga G.K c) f) (he : Ev G W X e w) (hN : X.N[i]? = some n := by rfl) (hv : Vis X.env.scope n := by first | exact Or.inl rfl | exact Or.inr (Or.inl rfl) | exact Or.inr (Or.inr rfl))
    (hd : (n == ("__debug__" : Str)) = false := by decide) (hcd : (n == ("__classdict__" : Str)) = false := by decide) (hs : swapsWith e (some (.Attribute (.Name n p1) f pos')) pos.line X.env = pure false := by rfl) :
    EvS G W X (.Assign [.Attribute (.Name n p1) f pos'] e pos) (wSetF i c f w) := ⟨PS.imp (ps_fld (pv i hN hv hd hcd) he.pe hs) fun D σ H q => by
  obtain ⟨C, dk, F, env, P, rfl, o, hw, fi⟩ := q
  refine ⟨C, dk, F, env, _, P.ex, rfl, o, hw, fun r e1 v H1 F1 p s1 l1 o1 k1 => ?_, fun x e c d H' F' p _ _ o' q => fi.ex x e c d σ H' F' dk p o' q⟩
  cases z : r.toD with
  | none => rw [z] at p; exact p.elim
  | some y =>
    rw [z] at p
    obtain ⟨F2, s2, o2, l2, k2⟩ := k1.held o1 z
    obtain ⟨m, ks, xs, h1, h2, h3, h4⟩ := p
    obtain ⟨q, e2, pr⟩ := o2.slot _ _ h1
    obtain ⟨ho, e3, e4⟩ := pr.at_
    cases ho <;> first | exact False.elim e4 | skip
    obtain ⟨e7, rfl, e5, e6⟩ := e4
    rename_i dx fs
    subst e5
    rw [hC.K]
    refine ⟨_, gt_of e2, q, _, dx, fs, rfl, e3, T, N, by rw [List.length_map] at h3; exact h3, ?_⟩
    rw [putF_new h2]
    exact fi.nx _ _ _ _ _ h4 (o2.wown h1 e2 (show CellOk C.g.K F2 (.ins m c (fs.map (·.1) ++ [f]) (xs ++ [y])) (.ins (He.ga C.g.K c) dx (fs ++ [(f, v)])) from ⟨e7, rfl, by rw [List.map_append]; rfl, by rw [List.map_append]; exact e6.append (.cons k2 .nil)⟩))⟩
end
end Dl

namespace Dl
open PySem PySem.Spec PyProof.Rows L2
/-! ### targets that change cells: n.f, n[e] of own cells -/
abbrev WH := PyData → En → (En → Prop) → (Exn → En → Prop) → Prop
abbrev WHs := List PyData → En → (En → Prop) → (Exn → En → Prop) → Prop
def LH (G : DG) (W : WX) (t : WH) : TG := fun v σ H Q => ∃ (C : DC) (dk : Dk) (F : Hp) (env : En) (x : PyData) (K : En → Prop) (Ex : Exn → En → Prop), C.g = G ∧ Ok C dk σ H F env ∧ Dq C.g.K F v x ∧ t x env K Ex ∧
  (∀ env' σ' H' F', K env' → Sub F F' → Ok C dk σ' H' F' env' → Q σ' H') ∧ (∀ x env' cls d σ' H' F', Ex x env' → Ok C dk σ' H' F' env' → XOk C F' H' x cls d → W cls d σ' H')
def LHs (G : DG) (W : WX) (t : WHs) : TGs := fun vs σ H Q => ∃ (C : DC) (dk : Dk) (F : Hp) (env : En) (xs : List PyData) (K : En → Prop) (Ex : Exn → En → Prop), C.g = G ∧ Ok C dk σ H F env ∧ DqAll C.g.K F vs xs ∧ t xs env K Ex ∧
  (∀ env' σ' H' F', K env' → Sub F F' → Ok C dk σ' H' F' env' → Q σ' H') ∧ (∀ x env' cls d σ' H' F', Ex x env' → Ok C dk σ' H' F' env' → XOk C F' H' x cls d → W cls d σ' H')
structure EvH (G : DG) (W : WX) (X : Cx) (e : Expr) (t : WH) : Prop where
  pg : PG X e (LH G W t)
structure EvHs (G : DG) (W : WX) (X : Cx) (es : List Expr) (t : WHs) : Prop where
  pg : PGs X es (LHs G W t)
section
variable {G : DG} {W : WX} {X : Cx} {pos p1 p2 : Pos} {n c f x : Str} {b : Expr} {wi : WE}
def hOf (w : WG) : WH := fun x e K _ => w x e K
theorem eh_of {e : Expr} {sl : List Nat} {w : WG} (h : EvG G X e sl w) : EvH G W X e (hOf w) := ⟨PG.imp h.pg fun v σ H Q q => by
  obtain ⟨C, dk, F, env, x, K, Ex, rfl, o, k, ht, h1, _⟩ := q
  exact ⟨C, dk, F, env, x, K, rfl, o, k, ht, fun env' σ' p _ _ o' => h1 _ _ _ _ p (Sub.refl F) o'⟩⟩
def gFld (K : PySem.W.Frag) (to : TE) (f : Str) : TG := fun v σ H Q => to σ H fun x H2 => ∃ a C dx fs, x = .ref a ∧ H2 a = some (.ins C dx fs) ∧ Cls K C ∧ NoAttr K C f ∧ fs.length < 1000 ∧ Q σ (upd H2 a (.ins C dx (putF f v fs)))
theorem pg_fld {o : Expr} {to : TE} (ho : PE X o to) : PG X (.Attribute o f pos) (gFld X.K to f) := by
  refine ⟨fun pins s σ H v u Q I r h => ?_⟩
  rw [assign_Attribute]
  refine wpAny_bind (wpAny_holding (thn (ho.run pins s σ H _ I h) fun ov s1 ⟨y, H1, I1, r1, a, C, dx, fs, ex, ea, cl, na, hl, q1⟩ => ?_))
  subst ex
  obtain rfl : ov = Value.ref a := r1
  refine wpAny_bind (wpAny_standAt (wpAny_bind (wpAny_holding (setattr_ok I1 ea cl na hl r fun s3 I3 => ?_))))
  exact wpAny_release ⟨σ, _, I3, q1⟩
/-- n.f, n an own instance that has no f yet -/
def hFld (i : Nat) (c f : Str) : WH := fun x e K _ => ∃ m ks xs, e[i]? = some (.own (.ins m c ks xs)) ∧ f ∉ ks ∧ ks.length < 1000 ∧ K (e.set i (.own (.ins m c (ks ++ [f]) (xs ++ [x]))))
theorem eh_fld (i : Nat) (hC : Ctx0 G X) (T : Cls G.K (He.ga G.K c)) (N : NoAttr G.K (He.ga G.K c) f) (hN : X.N[i]? = some n := by rfl) (hv : Vis X.env.scope n := by first | exact Or.inl rfl | exact Or.inr (Or.inl rfl) | exact Or.inr (Or.inr rfl))
    (hd : (n == ("__debug__" : Str)) = false := by decide) (hcd : (n == ("__classdict__" : Str)) = false := by decide) : EvH G W X (.Attribute (.Name n p1) f pos) (hFld i c f) := ⟨PG.imp (pg_fld (pv i hN hv hd hcd)) fun v σ H Q q => by
  obtain ⟨C, dk, F, env, x, K, Ex, rfl, o, k2, ⟨m, ks, xs, h1, h2, h3, h4⟩, hq, _⟩ := q
  obtain ⟨a, e2, pr⟩ := o.slot _ _ h1
  obtain ⟨ho, e3, e4⟩ := pr.at_
  cases ho <;> first | exact False.elim e4 | skip
  obtain ⟨e7, rfl, e5, e6⟩ := e4
  rename_i dx fs
  subst e5
  rw [hC.K]
  refine ⟨_, gt_of e2, a, _, dx, fs, rfl, e3, T, N, by rw [List.length_map] at h3; exact h3, ?_⟩
  rw [putF_new h2]
  exact hq _ _ _ _ h4 (Sub.refl F) (o.wown h1 e2 (show CellOk C.g.K F (.ins m c (fs.map (·.1) ++ [f]) (xs ++ [x])) (.ins (He.ga C.g.K c) dx (fs ++ [(f, v)])) from ⟨e7, rfl, by rw [List.map_append]; rfl, by rw [List.map_append]; exact e6.append (.cons k2 .nil)⟩))⟩
/-- n[e], n an own list -/
def hSub (i : Nat) (wi : WE) : WH := fun x e K Ex => (∃ xs, e[i]? = some (.own (.lst xs))) ∧ wi e (fun s e2 => ∃ xs k j, e2[i]? = some (.own (.lst xs)) ∧ s.toD = some (.int k) ∧ ixN xs.length k = some j ∧ K (e2.set i (.own (.lst (xs.set j x))))) Ex
theorem eh_sub (i : Nat) (hC : Ctx0 G X) (hb : Ev G W X b wi) (hN : X.N[i]? = some n := by rfl) (hv : Vis X.env.scope n := by first | exact Or.inl rfl | exact Or.inr (Or.inl rfl) | exact Or.inr (Or.inr rfl))
    (hd : (n == ("__debug__" : Str)) = false := by decide) (hcd : (n == ("__classdict__" : Str)) = false := by decide)
    (hg : ∀ v, assign (.Subscript (.Name n p1) b p2) X.env v = (do
      let ov ← holding [v] (eval (.Name n p1) X.env)
      let iv ← holding [v, ov] (eval b X.env)
      standAt p2
      holding [v, ov, iv] (setItem ov iv v)
      release [v, ov, iv] []) := by intro _; rfl) : EvH G W X (.Subscript (.Name n p1) b p2) (hSub i wi) := ⟨PG.imp (pg_sub (pv i hN hv hd hcd) hb.pe set_list hg) fun v σ H Q q => by
  obtain ⟨C, dk, F, env, x, K, Ex, rfl, o, k2, ⟨⟨xs0, h0⟩, hw⟩, hq, hE⟩ := q
  obtain ⟨p, vs0, g0, e0, _⟩ := o.ownAt h0
  refine ⟨.ref p, gt_of g0, C, dk, F, env, _, Ex, rfl, o, hw, fun s e2 u H3 F3 ⟨xs, k, j, b1, b3, b4, b5⟩ s3 l3 o3 k3 => ?_, fun x e cls d H' F' pp _ _ o' q => hE x e cls d σ H' F' pp o' q⟩
  obtain ⟨p', vs1, g1, e1, d1⟩ := o3.ownAt b1
  rw [g0] at g1
  cases g1
  refine ⟨p, vs1, k, j, rfl, k3.int o3 b3, e1, by rw [d1.length]; exact b4, ?_⟩
  exact hq _ _ _ _ b5 s3 (o3.wown b1 g0 (show DqAll C.g.K F3 (vs1.set j v) (xs.set j x) from DqAll.set (k2.mono s3) j d1))⟩
def hNil : WHs := fun xs e K _ => match xs with
  | [] => K e
  | _ => False
def hCons (t : WH) (u : WHs) : WHs := fun xs e K Ex => match xs with
  | x :: xs => t x e (fun e' => u xs e' K Ex) Ex
  | _ => False
theorem ehs_nil : EvHs G W X [] hNil := ⟨PGs.imp pgs_nil fun v σ H Q q => by
  obtain ⟨C, dk, F, env, xs, K, Ex, rfl, o, k, h, f, _⟩ := q
  cases k with
  | nil => exact ⟨rfl, f _ _ _ _ h (Sub.refl F) o⟩
  | cons a b => exact h.elim⟩
theorem ehs_cons {e : Expr} {es : List Expr} {t : WH} {u : WHs} (h1 : EvH G W X e t) (h2 : EvHs G W X es u) (hs : (assignEach (e :: es) X.env).map (·.2) = assign e X.env :: (assignEach es X.env).map (·.2) := by rfl) : EvHs G W X (e :: es) (hCons t u) := ⟨PGs.imp (pgs_cons h1.pg h2.pg hs) fun v σ H Q q => by
  obtain ⟨C, dk, F, env, xs, K, Ex, rfl, o, k, h, f, fe⟩ := q
  cases k with
  | nil => exact h.elim
  | cons a b => exact ⟨_, _, rfl, C, dk, F, env, _, _, Ex, rfl, o, a, h, fun env' σ' H' F' p s' o' => ⟨C, dk, F', env', _, K, Ex, rfl, o', b.mono s', p, fun env'' σ'' H'' F'' p' s'' o'' => f _ _ _ _ p' (s'.trans s'') o'', fe⟩, fe⟩⟩
def hTup (n : Nat) (u : WHs) : WH := fun x e K Ex => match x with
  | .tuple xs => xs.length = n ∧ u xs e K Ex
  | _ => False
theorem eh_tup {es : List Expr} {kk : Nat} {u : WHs} {n : Nat} (hK : X.K = G.K) (h : EvHs G W X es u) (hc : X.calm = true := by rfl) (hn : (assignEach es X.env).length = n := by rfl) (hst : (assignEach es X.env).findIdx? (·.1) = none := by rfl) : EvH G W X (.Tuple es kk pos) (hTup n u) :=
  ⟨PG.imp (pg_tup hc h.pg hn hst) fun v σ H Q q => by
    obtain ⟨C, dk, F, env, x, K, Ex, rfl, o, k, h, f, fe⟩ := q
    cases k <;> first | exact False.elim h | skip
    rename_i a vs ds k1 k2
    rw [hK]
    exact ⟨a, vs, rfl, o.sub.seqT k1, by rw [k2.length]; exact h.1, C, dk, F, env, ds, K, Ex, rfl, o, k2, h.2, f, fe⟩⟩
def wAsgH (w : WE) (t : WH) : WS := fun env P => w env (fun r e => match r.toD with
  | some x => t x (r.hold e) P.nx P.ex
  | none => False) P.ex
theorem evs_asgH {tg e : Expr} {w : WE} {t : WH} (h : Ev G W X e w) (hg : EvH G W X tg t) (hs : swapsWithSole [tg] e pos.line X.env = pure false := by rfl) (hw : swappedStores [tg] e X.env = pure none := by rfl)
    (h1 : (assignEach [tg] X.env).map (·.2) = [assign tg X.env] := by rfl) : EvS G W X (.Assign [tg] e pos) (wAsgH w t) := ⟨PS.imp (ps_asg h.pe hg.pg hs hw h1) fun D σ H q => by
  obtain ⟨C, dk, F, env, P, rfl, o, hw, f⟩ := q
  refine L.stmt (g := fun r e P => match r.toD with
    | some x => t x (r.hold e) P.nx P.ex
    | none => False) o hw f fun r v H1 F1 env1 o1 k1 p => ?_
  cases z : r.toD with
  | none => rw [z] at p; exact p.elim
  | some x =>
    rw [z] at p
    obtain ⟨F2, s2, o2, l2, k2⟩ := k1.held o1 z
    exact ⟨C, dk, F2, _, x, P.nx, P.ex, rfl, o2, k2, p, fun env' σ' H' F' p' _ o' => f.nx _ _ _ _ _ p' o', fun x e c d σ' H' F' p' o' q => f.ex x e c d σ' H' F' dk p' o' q⟩⟩
end
end Dl

namespace Dl
open PySem PySem.Spec PyProof.Rows L2
/-! ### x.update(e), e a dict with other keys -/
def rDUpd : V → List V → Hp → VK → Prop := fun x xs H Q => ∃ (a b : Addr) (kvs more : List (Key × V)), x = .ref a ∧ xs = [.ref b] ∧ H a = some (.dK kvs) ∧ H b = some (.dK more) ∧ a ≠ b ∧ kvs.length + more.length ≤ sizeLine ∧ Q .non (upd H a (.dK (mergeK kvs more)))
theorem mt_dupd {X : Cx} : MtR X "dict.update" rDUpd := by
  rintro pins s σ H x xs v us Q I rx rxs ⟨a, b, kvs, more, rfl, rfl, ha, hb, ne, hl, q⟩
  obtain ⟨u, eu, ru⟩ := vals1 rxs
  subst eu
  obtain rfl : v = Value.ref a := rx
  obtain rfl : u = Value.ref b := ru
  obtain ⟨z1, hd1, vs1, rel1, dd1⟩ := dk_of I.hok ha
  obtain ⟨z2, hd2, vs2, rel2, dd2⟩ := dk_of I.hok hb
  refine call_meetsIn PySem.F.slot_dict_update dd1.typeIs PySem.F.entry_dict_update (PySem.F.args_dict_update_2 _ _) (meets_dict_update (mixKind X.prog X.w) a b ne hd2)
    ⟨vs1, vs2, dd1, dd2, by rw [← rel1.length, ← rel2.length]; exact hl, fun h' dd' _ hs => ⟨.non, _, d_write I (by rw [ha]; exact True.intro) hs (let ⟨q, _, _, hq, _⟩ := dd'; ⟨q, hq⟩) (dk_new (Nat.le_trans (length_mergeK more kvs) hl) hd1 (KV.merge rel2 rel1) dd'), rfl, q⟩⟩
theorem kD_inj {a b : Key} (h : kD a = kD b) : a = b := by
  cases a <;> cases b <;> first | (cases h; done) | skip
  · cases h; rfl
  · cases h; rfl
theorem zip_kD : ∀ {A B : List Key} {U W : List PyData}, A.length = U.length → B.length = W.length → (A.map kD).zip U = (B.map kD).zip W → A = B ∧ U = W
  | [], [], [], [], _, _, _ => ⟨rfl, rfl⟩
  | [], b :: B, [], w :: W, _, _, h => by cases h
  | a :: A, [], u :: U, [], _, _, h => by cases h
  | a :: A, b :: B, u :: U, w :: W, h1, h2, h => by
    obtain ⟨q1, q2⟩ := List.cons.inj h
    obtain ⟨r1, r2⟩ := zip_kD (Nat.succ.inj h1) (Nat.succ.inj h2) q2
    have q3 := kD_inj (congrArg Prod.fst q1)
    have q4 : u = w := congrArg Prod.snd q1
    rw [q3, q4, r1, r2]
    exact ⟨rfl, rfl⟩
  | [], [], _ :: _, _, h, _, _ => by cases h
  | [], [], [], _ :: _, _, h, _ => by cases h
  | [], _ :: _, _, [], _, h, _ => by cases h
  | [], _ :: _, _ :: _, _, h, _, _ => by cases h
  | _ :: _, _, [], _, h, _, _ => by cases h
  | _ :: _, [], _ :: _, _ :: _, _, h, _ => by cases h
  | _ :: _, _ :: _, _ :: _, [], _, h, _ => by cases h
/-- what a dict's data tell -/
theorem Dq.dic1 {K : PySem.W.Frag} {F : Hp} {v : V} {ks : List Key} {xs : List PyData} (hl : ks.length = xs.length) (h0 : ks ≠ []) (h : Dq K F v (.dict ((ks.map kD).zip xs))) : ∃ (a : Addr) (kvs : List (Key × V)), v = .ref a ∧ F a = some (.dK kvs) ∧ kvs.map (·.1) = ks ∧ DqAll K F (kvs.map (·.2)) xs := by
  generalize e : PyData.dict ((ks.map kD).zip xs) = D at h
  match ks, xs, hl, h0, e with
  | k :: ks, x :: xs, hl, h0, e =>
  have nk : kD k ≠ PyData.none := by cases k <;> exact fun z => nomatch z
  have nt : ∀ l : List Key, kD k ≠ tD l := fun l => by cases k <;> exact fun z => nomatch z
  cases h with
  | non => cases e
  | bl => cases e
  | int => cases e
  | str => cases e
  | lst => cases e
  | tup => cases e
  | dic h1 h2 h3 =>
    rename_i a kvs ys ds e0
    have e := PyData.dict.inj e
    subst h3
    have e2 : ((k :: ks).map kD).zip (x :: xs) = ((kvs.map (·.1)).map kD).zip ys := by rw [e, List.map_map]; rfl
    obtain ⟨r1, r2⟩ := zip_kD hl (by rw [List.length_map, ← h2.length, List.length_map]) e2
    exact ⟨a, kvs, rfl, h1, r1.symm, by rw [r2]; exact h2⟩
  | dct h0 h1 h2 h3 =>
    rename_i a kvs ys ds e0
    have e := PyData.dict.inj e
    subst h3
    exfalso
    match kvs, ys, e with
    | [], _, e => cases e
    | _ :: _, [], e => cases e
    | p :: _, _ :: _, e => exact nt _ (congrArg Prod.fst (List.cons.inj e).1)
  | exc h1 h2 h3 =>
    have e := PyData.dict.inj e
    subst h3
    exact (nk (congrArg Prod.fst (List.cons.inj e).1)).elim
  | ins h0 h1 h2 h3 =>
    have e := PyData.dict.inj e
    subst h3
    exact (nk (congrArg Prod.fst (List.cons.inj e).1)).elim
section
variable {G : DG} {W : WX} {X : Cx} {i : Nat} {x : Str} {a : Expr} {w : WE} {p1 apos cpos pos : Pos}
def wDUpd (i : Nat) (w : WE) : WS := fun env P => (∃ ks xs, env[i]? = some (.own (.dic ks xs))) ∧ wA [w] env (fun rs e => ∃ ks xs ls ys, (holdAll rs e)[i]? = some (.own (.dic ks xs)) ∧ toDs rs = some [.dict ((ls.map kD).zip ys)] ∧ ls.length = ys.length ∧ ls ≠ [] ∧ (ks ++ ls).Nodup ∧ ks.length + ls.length ≤ 1000 ∧
  P.nx ((holdAll rs e).set i (.own (.dic (ks ++ ls) (xs ++ ys))))) P.ex
theorem Ok.ownDic {C : DC} {dk : Dk} {σ : L2.St} {H F : Hp} {env : En} {i : Nat} {ks : List Key} {xs : List PyData} (o : Ok C dk σ H F env) (hi : env[i]? = some (.own (.dic ks xs))) : ∃ p kvs, gt σ i = some (.ref p) ∧ H p = some (.dK kvs) ∧ F p = none ∧ kvs.map (·.1) = ks ∧ DqAll C.g.K F (kvs.map (·.2)) xs := by
  obtain ⟨p, e1, pr⟩ := o.slot i _ hi
  obtain ⟨ho, w, k⟩ := pr.at_
  cases ho <;> first | exact ⟨p, _, e1, w, pr.nf, k.1, k.2⟩ | exact False.elim k
theorem evs_dupd (i : Nat) (c : Ctx0 G X) (ha : EvA G W X [a] [w]) (hN : X.N[i]? = some x := by rfl) (hv : Vis X.env.scope x := by first | exact Or.inl rfl | exact Or.inr (Or.inl rfl) | exact Or.inr (Or.inr rfl)) (hd : (x == ("__debug__" : Str)) = false := by decide) (hcd : (x == ("__classdict__" : Str)) = false := by decide)
    (hbase : attributeBase (.Name x p1) "update" X.env (eval (.Name x p1) X.env) = eval (.Name x p1) X.env := by rfl)
    (hfew : ((backTo cpos (starEach [a] X.env)).all (fun x => !x.1) && (backToKw cpos (keywordEach [] X.env)).all (fun x => x.1.isSome) && decide ([a].length + ([] : List Keyword).length + (if ([] : List Keyword).isEmpty then 0 else 1) < 30)) = true := by rfl)
    (hline : (apos.endLine == cpos.line) = true := by rfl) (hs : starEach [a] X.env = (false, eval a X.env) :: starEach [] X.env := by rfl) (hplain : (backTo cpos (starEach [] X.env)).any (·.1) = false := by rfl)
    (hsw : swapsWith (.Call (.Attribute (.Name x p1) "update" apos) [a] [] cpos) none pos.line X.env = pure false := by rfl) : EvS G W X (.Expr (.Call (.Attribute (.Name x p1) "update" apos) [a] [] cpos) pos) (wDUpd i w) :=
  ⟨PS.imp (ps_expr (pe_bm PySem.F.plainAttrs_dict PySem.F.slot_dict_update PySem.F.type_dict_update mt_dupd (pv i hN hv hd hcd) ha.pa hbase hfew hline hs hplain) hsw) fun D σ H q => by
    obtain ⟨C, dk, F, env, P, rfl, o, ⟨⟨ks0, xs0, h0⟩, hw⟩, f⟩ := q
    obtain ⟨p, kvs0, g0, e0, _⟩ := o.ownDic h0
    refine ⟨.ref p, gt_of g0, .inr (.inr (.inl ⟨rfl, .inl ⟨kvs0, e0⟩⟩)), C, dk, F, env, _, P.ex, rfl, o, hw, fun rs e vs H' F' ⟨ks, xs, ls, ys, h1, h2, h3, h4, h5, h6, h7⟩ n s l o' k => ?_, fun x e cls d H' F' pp _ _ o' q => f.ex x e cls d σ H' F' dk pp o' q⟩
    obtain ⟨F2, s2, o2, l2, k2⟩ := k.held o' h2
    obtain ⟨p', kvs1, g1, e1, nf, e2, d1⟩ := o2.ownDic h1
    rw [g0] at g1
    cases g1
    match vs, k2 with
    | [y], .cons q1 .nil =>
      obtain ⟨b, kvs2, rfl, b1, b2, b3⟩ := q1.dic1 h3 h4
      have ne : p ≠ b := fun z => by rw [z, b1] at nf; cases nf
      have l1 : kvs1.length = ks.length := by rw [← e2, List.length_map]
      have l2 : kvs2.length = ls.length := by rw [← b2, List.length_map]
      refine ⟨p, b, kvs1, kvs2, rfl, rfl, e1, o2.sub _ _ b1, ne, by rw [l1, l2, sizeLine_eq]; omega, ?_⟩
      rw [mergeK_nd _ _ (by rw [List.map_append, e2, b2]; exact h5)]
      exact f.nx _ _ _ _ _ h7 (o2.wown h1 g0 (show CellOk C.g.K F2 (.dic (ks ++ ls) (xs ++ ys)) (.dK (kvs1 ++ kvs2)) from ⟨by rw [List.map_append, e2, b2], by rw [List.map_append]; exact d1.append b3⟩))⟩
end
end Dl

namespace Dl
open PySem PySem.Spec PyProof.Rows L2
/-! ### a method, by data: its first argument is the instance -/
structure Fm (P : Program) (w : World) (g : DG) (base : Heap) (a : Addr) (x q : Str) (st : Stmt) (k : Nat) (ps : List Str) (f : FSem) : Prop where
  ex : ∃ fd : FuncData, L2.Fun g.K x q st a fd ∧ ∀ (A : Around) (outer : List Env) (s : Shared) (H : Hp) (args : Args) (us : List Value) (vs : List V) (Q : VK) (E : XK),
    Room k A → GOk A base → Env0 P w g.K g.mg base A outer s H → vs.length = ps.length → BindsTo s fd args (ps.zip us) → Vals vs us → spOf g f vs H Q E → codeAny (model P w) A (.call (.ref a) args) (CR (L2.CX P w) outer P w H s Q E) s
section
variable {P : Program} {w : World} {g : DG} {base : Heap} {x q : Str} {st : Stmt} {k : Nat} {ps N : List Str} {f : FSem} {a : Addr} {fd : FuncData}
theorem Fm.mono {j : Nat} (h : Fm P w g base a x q st k ps f) (l : k ≤ j) : Fm P w g base a x q st j ps f := by
  obtain ⟨fd, h2, h3⟩ := h.ex
  exact ⟨fd, h2, fun A outer s H args us vs Q E hr => h3 A outer s H args us vs Q E (hr.mono l)⟩
/-- a def's run, its end told with the heap -/
theorem run_of {sp : Sp} (F : L2.Fun g.K x q st a fd) (S : FnScope N ps (defScope st))
    (hbody : ∀ (cdv : Value) (A : Around) (outer : List Env) (s : Shared) (H : Hp) (vs : List V) (Q : VK) (E : XK), Room k (A.deeper (envOfC q (defScope st) s.heap.objs.size a cdv)) → GOk A base → vs.length = ps.length → sp vs H Q E →
      ∃ t, PSs (cxOf (L2.CX P w) P w g.K g.mg base N q (defScope st) a cdv A outer s H E) (defBody st) t ∧ t { nx := fun _ H' => ∀ h, HOk P w H' h → Q .non H', rt := fun v H' => ∀ h, HOk P w H' h → Q v H' } (start N vs) H) :
    ∀ (A : Around) (outer : List Env) (s : Shared) (H : Hp) (args : Args) (us : List Value) (vs : List V) (Q : VK) (E : XK),
    Room (k + 1) A → GOk A base → Env0 P w g.K g.mg base A outer s H → vs.length = ps.length → BindsTo s fd args (ps.zip us) → Vals vs us → sp vs H Q E → codeAny (model P w) A (.call (.ref a) args) (CR (L2.CX P w) outer P w H s Q E) s := by
  obtain ⟨oc, od, kV, doc, pm, an, cdv, ct, osl, efd, lk, hcd⟩ := F.ex
  subst efd
  intro A outer s H args us vs Q E hr hgd e0 lenV hb rv hsp
  have inS : g.K.In s.heap := e0.mod.kin.keeps fun b o e => (e0.bs b o e).1
  have noL : s.heap.NoLimit := e0.mod.nolimit.keeps fun b o e => (e0.bs b o e).1
  have kinds : ∀ y ∈ ps.zip us, (defScope st).names.lookup y.1 = some .local ∨ ((defScope st).names.lookup y.1 = some .cell ∧ ((cellsFrom (s.heap.objs.size + 1) (defScope st).names []).lookup y.1).isSome = true) := by
    rintro ⟨n, v⟩ hy
    exact (S.par n (List.of_mem_zip hy).1).imp id fun q => ⟨q, PySem.W.cellsFrom_some _ _ _ (.inl q)⟩
  refine codeAny_call_function hr.depth (inS _ _ lk) rfl S.co S.gen rfl (PySem.W.codeRec_of inS hcd) (hb _ _ _ _ (wpAny_newFunctionEnv_cells S.kind kinds fun env he s1 z => ?_))
  subst he
  obtain ⟨t, ht, hq⟩ := hbody cdv A outer s H vs Q E (hr.deeper _) hgd lenV hsp
  have J := inv_start (CX := L2.CX P w) (E := E) S hr.hd e0 lenV rv z
  refine ⟨noL.keeps z.toInCall.keep, codeAny_func (wpAny_mono (ht.run [] s1 (start N vs) H _ J hq) (fun fl s' hs => ?_) fun _ _ q => q)⟩
  cases fl with
  | ret u => obtain ⟨v, σ', H', J', r', q⟩ := hs; exact ⟨v, H', J'.os, J'.bare, J'.base, J'.hok, r', q _ J'.hok⟩
  | next => obtain ⟨σ', H', J', q⟩ := hs; exact ⟨V.non, H', J'.os, J'.bare, J'.base, J'.hok, rfl, q _ J'.hok⟩
  | brk => obtain ⟨_, _, _, q⟩ := hs; exact q.elim
  | cont => obtain ⟨_, _, _, q⟩ := hs; exact q.elim
theorem Bc.of {cdv : Value} {A : Around} {outer : List Env} {s : Shared} {H : Hp} {E : XK} {W : WX} (hr : Room k (A.deeper (envOfC q (defScope st) s.heap.objs.size a cdv))) (hg : GOk A base) (ht : Takes (cxOf (L2.CX P w) P w g.K g.mg base N q (defScope st) a cdv A outer s H E) W)
    (hp : PassesOwn (model P w) (cxOf (L2.CX P w) P w g.K g.mg base N q (defScope st) a cdv A outer s H E).A (cxOf (L2.CX P w) P w g.K g.mg base N q (defScope st) a cdv A outer s H E).env (cxOf (L2.CX P w) P w g.K g.mg base N q (defScope st) a cdv A outer s H E).xe) :
    Bc P w g base k W (cxOf (L2.CX P w) P w g.K g.mg base N q (defScope st) a cdv A outer s H E) := by
  refine ⟨⟨rfl, rfl, ?_, hg.1, hg.2⟩, hr, ht, hp, rfl, rfl, rfl⟩
  have := hr.un
  show (A.deeper _).units + 65 < cLine
  omega
theorem fm_dl {wb : WS} (F : L2.Fun g.K x q st a fd) (S : FnScope N ps (defScope st))
    (hb : ∀ (cdv : Value) (A : Around) (outer : List Env) (s : Shared) (H : Hp) (E : XK), Bc P w g base k (fun cls d _ H => E cls d H) (cxOf (L2.CX P w) P w g.K g.mg base N q (defScope st) a cdv A outer s H E) → EvB g (fun cls d _ H => E cls d H) (cxOf (L2.CX P w) P w g.K g.mg base N q (defScope st) a cdv A outer s H E) (defBody st) wb)
    (hf : ∀ us P Ex, f us P Ex → wb (startE N us) (bodyP P Ex)) : Fm P w g base a x q st (k + 1) ps f := by
  refine ⟨fd, F, run_of F S fun cdv A outer s H vs Q E hr hg hl hsp => ⟨_, (hb cdv A outer s H E (Bc.of hr hg (takes_of rfl rfl rfl rfl) (passes_of rfl))).ps, ?_⟩⟩
  have hN : vs.length ≤ N.length := by
    have := congrArg List.length S.pre
    rw [List.length_take] at this
    omega
  obtain ⟨F0, dk, us, h1, h2, h3, P', Ex, h4, h5, h6⟩ := hsp
  refine body_run (Q := fun v H' => ∀ h, HOk P w H' h → Q v H') hN hf ⟨F0, dk, us, h1, h2, h3, P', Ex, h4, fun t v H' F' p a r _ _ => h5 t v H' F' p a r, h6⟩
end
/-! ### e.m(e, ..) -/
theorem lookup_no {m : Str} : ∀ {fs : List (Str × V)}, m ∉ fs.map (·.1) → fs.lookup m = none
  | [], _ => rfl
  | (g, v) :: r, h => by
    have h1 : (m == g) = false := beq_eq_false_iff_ne.mpr fun z => h (by rw [z]; exact List.mem_cons_self)
    show (match m == g with | true => some v | false => r.lookup m) = none
    rw [h1]
    exact lookup_no fun z => h (List.mem_cons_of_mem _ z)
def wMeth (c m : Str) (f : FSem) (w0 : WE) (ws : List WE) : WE := fun env P Ex => w0 env (fun r e => ∃ ks xs, r.toD = some (.dict (insD c ks xs)) ∧ ks.length = xs.length ∧ m ∉ ks ∧
  wA ws (r.hold e) (fun rs e2 => f (.d (.dict (insD c ks xs)) :: rs.map argOf) (fun t => match t with
    | .deck => False
    | t => P t (if t.flat = true then e2 else holdAll rs e2)) fun x => Ex x (holdAll rs e2)) Ex) Ex
theorem L.callP {C : DC} {W : WX} {f : FSem} {dk : Dk} {σ : L2.St} {H F : Hp} {env : En} {rs : List R} {vs : List V} {v0 : V} {x0 : PyData} {P : R → En → Prop} {Ex : Exn → En → Prop} {Q : VK} {E : XK} (o : Ok C dk σ H F env) (k0 : Dq C.g.K F v0 x0) (k : ROks C dk σ H F env rs vs)
    (h : f (.d x0 :: rs.map argOf) (fun t => match t with
      | .deck => False
      | t => P t (if t.flat = true then env else holdAll rs env)) fun x => Ex x (holdAll rs env)) (fin : Fin C W dk σ F env P Ex Q) (hE : ∀ cls d H', W cls d σ H' → E cls d H') : spOf C.g f (v0 :: vs) H Q E := by
  obtain ⟨F1, s1, o1, l1, a1⟩ := k.args o
  refine ⟨F1, dk, .d x0 :: rs.map argOf, o1.sub, o1.deck, ⟨k0.mono s1, a1⟩, _, _, h, fun t v H' F' p a r => ?_, fun x cls d H' F' p a r => ?_⟩
  · have oA := o1.after o1 (Sub.refl F1) a F' (.inr ⟨rfl, rfl⟩)
    have oB := o1.after o s1 a F (.inl rfl)
    cases t with
    | d x =>
      have p' : P (.d x) (if flatD x = true then env else holdAll rs env) := p
      by_cases fl : flatD x = true
      · rw [if_pos fl] at p'
        exact fin.1 _ _ _ _ _ p' (Sub.refl F) (EnLe.refl _) oB (flat_any r fl)
      · rw [if_neg fl] at p'
        exact fin.1 _ _ _ _ _ p' (s1.trans a.sf) l1 oA r
    | nw c =>
      obtain ⟨p1, rfl, h1, h2, h3, h4⟩ := r
      refine fin.1 _ _ _ _ _ (show P (.nw c) (holdAll rs env) from p) (s1.trans a.sf) l1 oA ⟨p1, rfl, ⟨h1, o.nb h2, h3, h4⟩, fun i c' e z => ?_⟩
      obtain ⟨q, e1, kk⟩ := o1.slot _ _ e
      rw [z] at e1; cases e1
      obtain ⟨ho, w, _⟩ := kk.at_
      rw [h2] at w; cases w
    | bw i c => exact r.elim
    | deck => exact p.elim
    | opq y => exact fin.1 _ _ _ _ _ (show P (.opq y) (holdAll rs env) from p) (s1.trans a.sf) l1 oA r
  · have oA := o1.after o1 (Sub.refl F1) a F' (.inr ⟨rfl, rfl⟩)
    exact hE _ _ _ (fin.2 x _ cls d H' F' p (s1.trans a.sf) l1 oA r trivial)
section
variable {G : DG} {W : WX} {X : Cx} {c m q : Str} {p pos apos : Pos} {o e : Expr} {es : List Expr} {ws : List WE} {w0 : WE} {st : Stmt} {k : Nat} {ps : List Str} {f : FSem} {a : Addr} {pl : Sem Bool}
theorem ev_meth (D : Fm X.prog X.w G X.base a m q st k ps f) (cc : Ctx0 G X) (tk : Takes X W) (hr : Room k X.A) (T : Cls G.K (He.ga G.K c)) (hm : Meth G.K (He.ga G.K c) m a) (he : Ev G W X o w0) (ha : EvA G W X (e :: es) ws)
    (hb : ∀ (kV doc pm : Value) (an : Option Addr) (cdv ct : Value) (us : List Value), us.length = ps.length → bindArgs (PySem.W.fnOf m q (defArgs st) (defBody st) (defScope st) .none kV doc pm an cdv ct) ⟨us, []⟩ = pure (ps.zip us))
    (hlen : ws.length + 1 = ps.length := by rfl)
    (hst : starEach (e :: es) X.env = (false, eval e X.env) :: starEach es X.env := by rfl) (hpl : (backTo pos (starEach es X.env)).any (·.1) = false := by rfl)
    (ht : eval (.Call (.Attribute o m apos) (e :: es) [] pos) X.env = (do
      let ov ← eval o X.env
      standAt apos.atName
      let (f, first) ← holding [ov] (getMethod ov m pl)
      callWith pos f first (backTo pos (starEach (e :: es) X.env)) (backToKw pos (keywordEach [] X.env))) := by rfl) : Ev G W X (.Call (.Attribute o m apos) (e :: es) [] pos) (wMeth c m f w0 ws) := by
  obtain ⟨fd, Fn, run⟩ := D.ex
  have bind := Fn.binds hb
  refine ⟨⟨fun pins s σ H Q I h => ?_⟩⟩
  obtain ⟨C, dk, F, env, P, Ex, hC, o0, hw, fin⟩ := h.fin
  subst hC
  rw [← cc.K] at T hm
  refine PySem.W.methodCall_KW (pl := pl) (thn (he.pe.run pins s σ H (fun v H1 => ∃ a0 dx fs, v = .ref a0 ∧ H1 a0 = some (.ins (He.ga X.K c) dx fs) ∧ fs.lookup m = none ∧ LA C.g W ws σ H1 fun vs H2 => vs.length + 1 = ps.length ∧ spOf C.g f (.ref a0 :: vs) H2 Q (L2.WE W σ)) I
    ⟨C, dk, F, env, _, Ex, rfl, o0, hw, fun r env1 v H1 F1 p1 s1 l1 o1 k1 => ?_, fun x e c d H' F' p s' l' o' k => fin.2 x e c d H' F' p s' l' o' k trivial⟩) fun u s1 ⟨x, H1, I1, rx, a0, dx, fs, ex, ea, l, q⟩ => ?_) ht
  · obtain ⟨ks, xs, e1, e2, e3, e4⟩ := p1
    obtain ⟨F2, s2, o2, l2, k2⟩ := k1.held o1 e1
    obtain ⟨a0, dx, fs, rfl, z2, z3, z4⟩ := Dq.ins1 e2 k2
    refine ⟨a0, dx, fs, rfl, by rw [cc.K]; exact o2.sub _ _ z2, lookup_no (by rw [z3]; exact e3), ?_⟩
    have fin2 := (fin.le s1 l1).le s2 l2
    exact ⟨C, dk, F2, _, _, _, rfl, o2, e4, fun rs e vs H' F' p n s l o' q => ⟨by rw [← q.len, n]; exact hlen, L.callP (W := W) o' (k2.mono s) q p (fin2.le s l) fun _ _ _ z => z⟩, fun x e c d H' F' p s l o' q => fin2.2 x e c d H' F' p s l o' q trivial⟩
  · subst ex
    obtain rfl : u = Value.ref a0 := rx
    refine getmeth_ok I1 ea T hm l ?_
    refine PySem.W.callWith_K (first := [.ref a0]) (h₀ := X.base) I.ok.mod.kin hm.kp (thn (ha.pa.run pos pins s1 σ H1 _ I1 q) fun us s2 ⟨vs, H2, I2, r, hl, hsp⟩ => ⟨I2.kIn, ?_⟩) hst hpl
    have e1 : (Value.ref a0 :: us).length = ps.length := by rw [List.length_cons, ← r.length]; exact hl
    exact run_fg (args := ⟨Value.ref a0 :: us, []⟩) ⟨cc.mg, cc.K⟩ tk hr ⟨cc.g, cc.sys⟩ run I2 (show Vals (V.ref a0 :: vs) (Value.ref a0 :: us) from .cons rfl r) hl (by have := bind s2 (Value.ref a0 :: us) (by rw [← cc.K]; exact I2.kIn) (by rw [List.append_nil]; exact e1); rw [List.append_nil] at this; exact this) hsp
end
end Dl

namespace Dl
open PySem PySem.Spec PyProof.Rows L2
/-! ### C(e, ..): an instance is made -/
theorem guards_make {A : Around} {C : Addr} {us : List Value} {kw : List (Str × Value)} (h : A.guards = some []) : (A.under (.builtin "type.__call__" ⟨.ref C :: us, kw⟩)).guards = some [] := by
  have hc : (Code.builtin "type.__call__" ⟨.ref C :: us, kw⟩).isGuard = false := by
    unfold Code.isGuard
    first | rfl | decide +kernel | simp
  simp [Around.under, Code.guards, hc, pushGuards, h]
def HX (H : Hp) (x : Addr) : Hp := fun a => if a = x then none else H a
theorem HX_some {H : Hp} {x a : Addr} {u : HO} (h : HX H x a = some u) : a ≠ x ∧ H a = some u := by
  unfold HX at h
  by_cases z : a = x
  · rw [if_pos z] at h; cases h
  · rw [if_neg z] at h; exact ⟨z, h⟩
theorem HX_of {H : Hp} {x a : Addr} {u : HO} (z : a ≠ x) (h : H a = some u) : HX H x a = some u := by
  unfold HX
  rw [if_neg z]; exact h
def spI (g : DG) (c : Str) (f : FSem) : Sp := fun vs H Q E => ∃ (x dx : Addr) (vs' : List V) (F : Hp) (dk : Dk) (us : List R) (P : R → Prop) (Ex : Exn → Prop), vs = .ref x :: vs' ∧ H x = some (.ins (He.ga g.K c) dx []) ∧ H dx = some (.own x) ∧ dx ≠ x ∧ F x = none ∧ Off dk x ∧ Off dk dx ∧ Sub F H ∧ DeckOk g H F dk ∧ ArgsOk g dk F us vs' ∧ f us P Ex ∧
  (∀ ks xs fs H' F', P (.nw (.ins none c ks xs)) → Aft g dk (HX H x) F H' F' → F' x = none → H' x = some (.ins (He.ga g.K c) dx fs) → fs.map (·.1) = ks → DqAll g.K F' (fs.map (·.2)) xs → Q .non H') ∧
  (∀ y cls d H' F', Ex y → Aft g dk (HX H x) F H' F' → XOk0 g F' H' y cls d → E cls d H')
def startI (N : List Str) (c : Str) (dx : Addr) (us : List R) : En := .own (.ins (some dx) c [] []) :: (us.map slOf ++ List.replicate (N.length - (us.length + 1)) .no)
def bodyI (c : Str) (dx : Addr) (P : R → Prop) (Ex : Exn → Prop) : Pd := { nx := fun env => ∃ ks xs, env[0]? = some (.own (.ins (some dx) c ks xs)) ∧ P (.nw (.ins none c ks xs)), rt := fun _ => False, bk := fun _ => False, ct := fun _ => False, ex := fun x _ => Ex x }
theorem body_runI {g : DG} {N : List Str} {c : Str} {f : FSem} {vs : List V} {H : Hp} {Q : VK} {E : XK} {wb : WS} {P0 : Program} {w0 : World} (hN : vs.length ≤ N.length) (hf : ∀ us P Ex, f us P Ex → ∀ dx, wb (startI N c dx us) (bodyI c dx P Ex)) (h : spI g c f vs H Q E) :
    LS g (fun cls d _ H => E cls d H) wb { nx := fun _ H' => ∀ h, HOk P0 w0 H' h → Q .non H', rt := fun v H' => ∀ h, HOk P0 w0 H' h → Q v H' } (L2.start N vs) H := by
  obtain ⟨x, dx, vs', F, dk, us, P, Ex, rfl, hx, hdx, ne, nf, off1, off2, sF, dO, aO, hfu, hP, hE⟩ := h
  have lu : us.length = vs'.length := ArgsOk.len aO
  have lN : vs'.length + 1 ≤ N.length := hN
  have aft : ∀ {dk1 : Dk} {σ1 : L2.St} {H1 F1 : Hp} {env1 : En}, Ok ⟨g, HX H x, F, dk⟩ dk1 σ1 H1 F1 env1 → Aft g dk (HX H x) F H1 F1 := fun {dk1 σ1 H1 F1 env1} o => by
    refine ⟨o.f0, o.sub, fun a u e z => o.fnew a u e z, fun a u e z => o.base a u e z, ?_⟩
    rcases o.dkr with q | ⟨q, _⟩
    · have := o.deck
      rw [q] at this
      exact this
    · have q' : dk = none := q
      rw [q']
      trivial
  have at_ : ∀ (i : Nat) (s : Sl), (startI N c dx us)[i + 1]? = some s → s = .no ∨ ∃ r, us[i]? = some r ∧ slOf r = s := fun i s e => by
    have e' : (us.map slOf ++ List.replicate (N.length - (us.length + 1)) Sl.no)[i]? = some s := e
    by_cases hi : i < us.length
    · rw [List.getElem?_append_left (by rw [List.length_map]; exact hi), List.getElem?_map] at e'
      cases er : us[i]? with
      | none => rw [er] at e'; cases e'
      | some r => rw [er] at e'; exact .inr ⟨r, rfl, Option.some.inj e'⟩
    · rw [List.getElem?_append_right (by rw [List.length_map]; omega), List.getElem?_replicate] at e'
      by_cases hz : i - (us.map slOf).length < N.length - (us.length + 1)
      · rw [if_pos hz] at e'; exact .inl (Option.some.inj e').symm
      · rw [if_neg hz] at e'; cases e'
  have noOwn : ∀ (i : Nat) (c1 : Cell), (startI N c dx us)[i + 1]? ≠ some (.own c1) := fun i c1 e => by
    rcases at_ i _ e with z | ⟨r, _, z⟩
    · cases z
    · cases r <;> cases z
  refine ⟨⟨g, HX H x, F, dk⟩, dk, F, startI N c dx us, bodyI c dx P Ex, rfl, ⟨sF, ?_, fun i s e => ?_, fun i j c1 c2 p e1 e2 _ _ => ?_, dO, fun a u e _ => (HX_some e).2, fun a u e z => ?_, Sub.refl F, .inl rfl⟩, hf us P Ex hfu dx, ⟨fun env σ H1 F1 dk1 p o => ?_, fun _ _ _ _ _ p _ => p.elim, fun _ _ _ _ _ p _ => p.elim, fun _ _ _ _ _ _ _ p _ => p.elim, fun y env cls d σ H1 F1 dk1 p o k => ?_⟩⟩
  · unfold L2.start startI
    simp [lu]
  · cases i with
    | zero =>
      have e' : Sl.own (.ins (some dx) c [] []) = s := Option.some.inj e
      subst e'
      refine ⟨x, rfl, nf, ?_, off1, _, hx, fun z e => by cases e; rfl, rfl, rfl, .nil⟩
      show HX H x x = none
      unfold HX
      rw [if_pos rfl]
    | succ i =>
      rcases at_ i s e with rfl | ⟨r, er, rfl⟩
      · trivial
      · obtain ⟨v, ev, k⟩ := ArgsOk.at aO er
        have hi : i < vs'.length := (List.getElem?_eq_some_iff.mp ev).1
        have hg : gt (L2.start N (.ref x :: vs')) (i + 1) = some v := by
          rw [start_at (by simpa using hi)]
          exact ev
        rw [hg]
        cases r with
        | d x => exact ⟨v, rfl, k⟩
        | deck => obtain ⟨da, dl, e1, e2⟩ := k; exact ⟨da, dl, e1, by rw [e2]⟩
        | opq y => have k' : v = y := k; exact congrArg some k'
        | nw c => exact k.elim
        | bw j c => exact k.elim
  · cases i with
    | succ i => exact (noOwn i c1 e1).elim
    | zero =>
      cases j with
      | succ j => exact (noOwn j c2 e2).elim
      | zero => rfl
  · have z' : F a = none := z
    rw [z'] at e; cases e
  · obtain ⟨ks, xs, e0, p2⟩ := p
    obtain ⟨p', e1, pr⟩ := o.slot _ _ e0
    obtain ⟨ho, e2, e3⟩ := pr.at_
    cases ho <;> first | exact False.elim e3 | skip
    obtain ⟨q1, q2, q3, q4⟩ := e3
    rename_i C d fs
    have q1 := q1 dx rfl
    subst q1 q2
    intro h hok
    have hb := o.base d (.own x) (HX_of ne hdx) off2
    have hk := (hok p' _ e2).1
    rw [hb] at hk
    cases hk
    exact hP ks xs fs H1 F1 p2 (aft o) pr.nf e2 q3 q4
  · exact hE y cls d H1 F1 p (aft o) k
/-- a class's __init__ by its data -/
structure Fi (P : Program) (w : World) (g : DG) (base : Heap) (c q : Str) (st : Stmt) (k : Nat) (ps : List Str) (f : FSem) : Prop where
  ex : ∃ fd : FuncData, L2.Fun g.K "__init__" q st (He.ma g.K (He.ga g.K c) "__init__") fd ∧ ∀ (A : Around) (outer : List Env) (s : Shared) (H : Hp) (args : Args) (us : List Value) (vs : List V) (Q : VK) (E : XK),
    Room k A → GOk A base → Env0 P w g.K g.mg base A outer s H → vs.length = ps.length → BindsTo s fd args (ps.zip us) → Vals vs us → spI g c f vs H Q E → codeAny (model P w) A (.call (.ref (He.ma g.K (He.ga g.K c) "__init__")) args) (CR (L2.CX P w) outer P w H s Q E) s
section
variable {P : Program} {w : World} {g : DG} {base : Heap} {c q : Str} {st : Stmt} {k : Nat} {ps N : List Str} {f : FSem} {fd : FuncData}
theorem Fi.mono {j : Nat} (h : Fi P w g base c q st k ps f) (l : k ≤ j) : Fi P w g base c q st j ps f := by
  obtain ⟨fd, h2, h3⟩ := h.ex
  exact ⟨fd, h2, fun A outer s H args us vs Q E hr => h3 A outer s H args us vs Q E (hr.mono l)⟩
theorem fi_dl {wb : WS} (F : L2.Fun g.K "__init__" q st (He.ma g.K (He.ga g.K c) "__init__") fd) (S : FnScope N ps (defScope st))
    (hb : ∀ (cdv : Value) (A : Around) (outer : List Env) (s : Shared) (H : Hp) (E : XK), Bc P w g base k (fun cls d _ H => E cls d H) (cxOf (L2.CX P w) P w g.K g.mg base N q (defScope st) (He.ma g.K (He.ga g.K c) "__init__") cdv A outer s H E) → EvB g (fun cls d _ H => E cls d H) (cxOf (L2.CX P w) P w g.K g.mg base N q (defScope st) (He.ma g.K (He.ga g.K c) "__init__") cdv A outer s H E) (defBody st) wb)
    (hf : ∀ us P Ex, f us P Ex → ∀ dx, wb (startI N c dx us) (bodyI c dx P Ex)) : Fi P w g base c q st (k + 1) ps f := by
  refine ⟨fd, F, run_of F S fun cdv A outer s H vs Q E hr hg hl hsp => ⟨_, (hb cdv A outer s H E (Bc.of hr hg (takes_of rfl rfl rfl rfl) (passes_of rfl))).ps, body_runI ?_ hf hsp⟩⟩
  have := congrArg List.length S.pre
  rw [List.length_take] at this
  omega
end
theorem L.make {C : DC} {W : WX} {c : Str} {f : FSem} {dk : Dk} {σ : L2.St} {H F : Hp} {env : En} {rs : List R} {vs : List V} {P : R → En → Prop} {Ex : Exn → En → Prop} {Q : VK} {E : XK} (o : Ok C dk σ H F env) (k : ROks C dk σ H F env rs vs)
    (h : f (rs.map argOf) (fun t => match t with
      | .deck => False
      | t => P t (if t.flat = true then env else holdAll rs env)) fun x => Ex x (holdAll rs env)) (fin : Fin C W dk σ F env P Ex Q) (hE : ∀ cls d H', W cls d σ H' → E cls d H') {x dx : Addr} (hx : H x = none) (hdx : H dx = none) (ne : dx ≠ x) :
    spI C.g c f (.ref x :: vs) (upd (upd H dx (.own x)) x (.ins (He.ga C.g.K c) dx [])) (fun v H2 => v = .non ∧ Q (.ref x) H2) E := by
  obtain ⟨F1, s1, o1, l1, a1⟩ := k.args o
  have o2 := o1.newCell (.own x) hdx
  have hx2 : upd H dx (.own x) x = none := by rw [upd_ne (Ne.symm ne)]; exact hx
  have o3 := o2.newCell (.ins (He.ga C.g.K c) dx []) hx2
  have aH : ∀ {H' F' : Hp}, Aft C.g dk (HX (upd (upd H dx (.own x)) x (.ins (He.ga C.g.K c) dx [])) x) F1 H' F' → Aft C.g dk H F1 H' F' := fun {H' F'} a => by
    have up : ∀ b u, H b = some u → HX (upd (upd H dx (.own x)) x (.ins (He.ga C.g.K c) dx [])) x b = some u := fun b u e => by
      have n1 : b ≠ x := ne_of_none e hx
      have n2 : b ≠ dx := ne_of_none e hdx
      exact HX_of n1 (by rw [upd_ne n1, upd_ne n2]; exact e)
    refine ⟨a.sf, a.sub, fun b u e z => ?_, fun b u e z => a.keep b u (up b u e) z, a.deck⟩
    have q := a.new b u e z
    cases hh : H b with
    | none => rfl
    | some y => rw [up b y hh] at q; cases q
  refine ⟨x, dx, vs, F1, dk, rs.map argOf, _, _, rfl, upd_same, by rw [upd_ne ne, upd_same], ne, o1.sub.free0 hx, o1.offNew hx, o1.offNew hdx, o3.sub, o3.deck, a1, h, fun ks xs fs H' F' p a nf e1 e2 e3 => ⟨rfl, ?_⟩, fun y cls d H' F' p a r => ?_⟩
  · have oA := o1.after o1 (Sub.refl F1) (aH a) F' (.inr ⟨rfl, rfl⟩)
    exact fin.1 _ _ _ _ _ (show P (.nw (.ins none c ks xs)) (holdAll rs env) from p) (s1.trans a.sf) l1 oA ⟨x, rfl, ⟨nf, o.nb hx, o1.offNew hx, _, e1, (show CellOk C.g.K F' (.ins none c ks xs) (.ins (He.ga C.g.K c) dx fs) from ⟨fun z e => (by cases e), rfl, e2, e3⟩)⟩, fun i c' e z => o1.ownNe hx i c' e z⟩
  · have oA := o1.after o1 (Sub.refl F1) (aH a) F' (.inr ⟨rfl, rfl⟩)
    exact hE _ _ _ (fin.2 y _ cls d H' F' p (s1.trans a.sf) l1 oA r trivial)
section
variable {G : DG} {W : WX} {X : Cx} {c q : Str} {p pos : Pos} {e : Expr} {es : List Expr} {ws : List WE} {st : Stmt} {k : Nat} {ps : List Str} {f : FSem}
theorem ev_make (D : Fi X.prog X.w G X.base c q st k ps f) (cc : Ctx0 G X) (tk : Takes X W) (hr : Room (k + 1) X.A) (M : Mk G.K (He.ga G.K c) (He.ma G.K (He.ga G.K c) "__init__")) (hmg : G.mg c = some (.ref (He.ga G.K c))) (ha : EvA G W X (e :: es) ws)
    (hb : ∀ (kV doc pm : Value) (an : Option Addr) (cdv ct : Value) (us : List Value), us.length = ps.length → bindArgs (PySem.W.fnOf "__init__" q (defArgs st) (defBody st) (defScope st) .none kV doc pm an cdv ct) ⟨us, []⟩ = pure (ps.zip us))
    (hlen : ws.length + 1 = ps.length := by rfl) (hg : Gl X c := by rfl) (hd : (c == ("__debug__" : Str)) = false := by decide)
    (he : starEach (e :: es) X.env = (false, eval e X.env) :: starEach es X.env := by rfl) (hpl : (backTo pos (starEach es X.env)).any (·.1) = false := by rfl) : Ev G W X (.Call (.Name c p) (e :: es) [] pos) (wCall f ws) := by
  obtain ⟨fd, Fn, run⟩ := D.ex
  have bind := Fn.binds hb
  refine ⟨⟨fun pins s σ H Q I q => ?_⟩⟩
  obtain ⟨C, dk, F, env, P, Ex, hC, o, hw, fin⟩ := q.fin
  subst hC
  have q2 : LA C.g W ws σ H fun vs H1 => vs.length + 1 = ps.length ∧ ∀ x dx, H1 x = none → H1 dx = none → dx ≠ x → spI C.g c f (.ref x :: vs) (upd (upd H1 dx (.own x)) x (.ins (He.ga C.g.K c) dx [])) (fun v H2 => v = .non ∧ Q (.ref x) H2) (L2.WE W σ) :=
    L.args (Q := Q) (P := P) (Ex := Ex) (g := fun rs e P Ex => f (rs.map argOf) (fun t => match t with
      | .deck => False
      | t => P t (if t.flat = true then e else holdAll rs e)) fun x => Ex x (holdAll rs e)) o hw fin fun rs vs H1 F1 env1 n1 o1 k1 h1 f1 =>
        ⟨by rw [← k1.len, n1]; exact hlen, fun x dx z1 z2 z3 => L.make (W := W) o1 k1 h1 f1 (fun _ _ _ z => z) z1 z2 z3⟩
  have eK := cc.K
  have M' : Mk X.K (He.ga C.g.K c) (He.ma C.g.K (He.ga C.g.K c) "__init__") := by rw [eK]; exact M
  refine wpAny_Call_Name_kw (ld_glob I hg (by rw [cc.mg]; exact hmg) ?_ hd)
  refine PySem.W.callWith_K (h₀ := X.base) I.ok.mod.kin M'.kp (thn (ha.pa.run pos pins s σ H _ I q2) fun us s1 ⟨vs, H1, I1, rv, hl, hsp⟩ => ⟨I1.kIn, ?_⟩) he hpl
  have hq := hsp (s1.heap.objs.size + 1) s1.heap.objs.size (I1.hok.fresh (Nat.le_succ _)) (I1.hok.fresh (Nat.le_refl _)) (Nat.ne_of_lt (Nat.lt_succ_self _))
  have I2 := Inv.made (C := He.ga C.g.K c) I1
  have r2 : Vals (V.ref (s1.heap.objs.size + 1) :: vs) (Value.ref (s1.heap.objs.size + 1) :: us) := .cons rfl rv
  have hl2 : (Value.ref (s1.heap.objs.size + 1) :: us).length = ps.length := by rw [List.length_cons, ← rv.length]; exact hl
  have e0 := I2.env0.make (He.ga C.g.K c) us []
  rw [cc.mg, cc.K] at e0
  refine wpAny_call (make_map (f := He.ma C.g.K (He.ga C.g.K c) "__init__") I1.kIn M'.makes M'.init (beq_iff_eq.mp M'.fn) (codeAny_mono (run _ X.stack _ _ ⟨Value.ref (s1.heap.objs.size + 1) :: us, []⟩ (Value.ref (s1.heap.objs.size + 1) :: us) (V.ref (s1.heap.objs.size + 1) :: vs) _ (L2.WE W σ) (hr.make (He.ga C.g.K c) us []) ⟨guards_make cc.g, cc.sys⟩
    e0 hl (by have := bind _ (Value.ref (s1.heap.objs.size + 1) :: us) (by rw [← cc.K]; exact I2.kIn) (by rw [List.append_nil]; exact hl2); rw [List.append_nil] at this; exact this) r2 hq) fun r s' hq' => ?_))
  cases r with
  | error e => exact passAt tk σ pins _ _ e s' I2 hq'
  | ok fl =>
    cases fl with
    | ret u =>
      obtain ⟨v, H', I3, rv, ev, q3⟩ := I2.after hq'
      subst ev
      exact ⟨rv, ⟨V.ref (s1.heap.objs.size + 1), H', I3, rfl, q3⟩⟩
    | next => exact False.elim hq'
    | brk => exact False.elim hq'
    | cont => exact False.elim hq'
end
end Dl

namespace Dl
open PySem PySem.Spec PyProof.Rows L2
section
variable {G : DG} {W : WX} {X : Cx}
/-! ### x, y, z = a, b, c; the values of y and z new cells that stay their own -/
def wPar3DOO (i j l : Nat) (wa wb wc : WE) : WS := fun env P => wa env (fun r e1 => match r.calm with
  | .d x => wb e1 (fun s e2 => match s with
    | .nw c => wc e2 (fun t e3 => P.nx (((stE l t e3).set j (.own c)).set i (.d x))) P.ex
    | _ => False) P.ex
  | _ => False) P.ex
theorem evs_par3DOO {i j l : Nat} {x y z : Str} {a b c : Expr} {wa wb wc : WE} {px py pz pt pos : Pos} {kt k2 pt2} (hN : X.N.Nodup) (ha : Ev G W X a wa) (hb : Ev G W X b wb) (hcc : Ev G W X c wc) (hc : X.calm = true := by rfl) (hi : X.N[i]? = some x := by rfl) (hj : X.N[j]? = some y := by rfl) (hl : X.N[l]? = some z := by rfl)
    (hij : i ≠ j := by decide) (hil : i ≠ l := by decide) (hjl : j ≠ l := by decide) (hx : X.env.scope.names.lookup x = some .local := by rfl) (hy : X.env.scope.names.lookup y = some .local := by rfl) (hz : X.env.scope.names.lookup z = some .local := by rfl)
    (hw : swappedStores [.Tuple [.Name x px, .Name y py, .Name z pz] kt pt] (.Tuple [a, b, c] k2 pt2) X.env = pure (some [x, y, z]) := by rfl)
    (hs : swapsWithSole [.Tuple [.Name x px, .Name y py, .Name z pz] kt pt] (.Tuple [a, b, c] k2 pt2) pos.line X.env = pure false := by rfl)
    (h1 : starEach [a, b, c] X.env = (false, eval a X.env) :: starEach [b, c] X.env := by rfl) (h2 : starEach [b, c] X.env = (false, eval b X.env) :: starEach [c] X.env := by rfl) (h3 : starEach [c] X.env = (false, eval c X.env) :: starEach [] X.env := by rfl) :
    EvS G W X (.Assign [.Tuple [.Name x px, .Name y py, .Name z pz] kt pt] (.Tuple [a, b, c] k2 pt2) pos) (wPar3DOO i j l wa wb wc) := ⟨PS.imp (ps_par3 hc hN hi hj hl hij hil hjl hx hy hz (pa_cons ha.pe (pa_cons hb.pe (pa_cons hcc.pe pa_nil h3) h2) h1) hw hs) fun D σ H q => by
  obtain ⟨C, dk, F, env, P, rfl, o, hw, f⟩ := q
  refine ⟨C, dk, F, env, _, P.ex, rfl, o, hw, fun r e1 v H1 F1 p s l1 o1 k1 => ?_, fun x e c d H' F' p _ _ o' q => f.ex x e c d σ H' F' dk p o' q⟩
  obtain ⟨F2, s2, o2, k2, _⟩ := k1.calmed o1
  generalize r.calm = r' at p k2
  cases r' <;> first | exact False.elim p | skip
  rename_i z
  refine ⟨C, dk, F2, e1, _, P.ex, rfl, o2, p, fun r3 e3 u H3 F3 p3 s3 l3 o3 k3 => ?_, fun x e c d H' F' p _ _ o' q => f.ex x e c d σ H' F' dk p o' q⟩
  cases r3 <;> first | exact False.elim p3 | skip
  rename_i cc
  obtain ⟨q, rfl, pr, no⟩ := k3
  obtain ⟨ho, hu, ck⟩ := pr.at_
  have og := (Ok.up o3 o3 (Sub.refl F3)).guard hu pr.off no pr.nf
  refine ⟨(C.at F3).guard q ho, dk, F3, e3, _, P.ex, rfl, og, p3, fun r4 e4 w H4 F4 p4 s4 l4 o4 k4 => ?_, fun x e c d H' F' p _ _ o' qq => f.ex x e c d σ H' F' dk p (Ok.down o3 (o'.unguard pr.nb pr.off pr.nf).1) qq⟩
  obtain ⟨F5, o5⟩ := k4.store l o4
  obtain ⟨o6, hH, nf, no6⟩ := o5.unguard pr.nb pr.off pr.nf
  have o7 := Ok.down o3 o6
  have sb : Sub F3 F5 := o6.f0
  have o8 := o7.store (i := j) (s := .own cc) (v := .ref q) ⟨q, rfl, nf, pr.nb, pr.off, ho, hH, ck.mono sb⟩ fun _ _ => no6
  have o9 := o8.store (i := i) (s := .d z) ⟨v, rfl, Dq.mono (show Dq C.g.K F2 v z from k2) (s3.trans sb)⟩ fun c e => by cases e
  refine ⟨v, .ref q, w, rfl, ?_⟩
  have e : ((σ.set i (some v)).set j (some (V.ref q))).set l (some w) = ((σ.set l (some w)).set j (some (.ref q))).set i (some v) := by
    rw [List.set_comm _ _ hij, List.set_comm _ _ hil, List.set_comm _ _ hjl]
  rw [e]
  exact f.nx _ _ _ _ _ p4 o9⟩
/-! ### x, y, z = a, b, c with a name that is a cell; x's value a new cell -/
theorem evs_par3Oc {i j l : Nat} {x y z : Str} {a b c : Expr} {wa wb wc : WE} {px py pz pt pos : Pos} {kt k2 pt2} (hN : X.N.Nodup) (ha : Ev G W X a wa) (h : EvA G W X [b, c] [wb, wc]) (hc : X.calm = true := by rfl) (hi : X.N[i]? = some x := by rfl) (hj : X.N[j]? = some y := by rfl) (hl : X.N[l]? = some z := by rfl)
    (hij : i ≠ j := by decide) (hil : i ≠ l := by decide) (hjl : j ≠ l := by decide)
    (hx : Loc X.env.scope x := by first | exact Or.inl rfl | exact Or.inr rfl) (hy : Loc X.env.scope y := by first | exact Or.inl rfl | exact Or.inr rfl) (hzz : Loc X.env.scope z := by first | exact Or.inl rfl | exact Or.inr rfl)
    (hfx : X.fn x = true ∨ X.env.scope.names.lookup x = some .local := by first | exact .inl rfl | exact .inr rfl | assumption) (hfy : X.fn y = true ∨ X.env.scope.names.lookup y = some .local := by first | exact .inl rfl | exact .inr rfl | assumption) (hfz : X.fn z = true ∨ X.env.scope.names.lookup z = some .local := by first | exact .inl rfl | exact .inr rfl | assumption)
    (hn : (assignEach [.Name x px, .Name y py, .Name z pz] X.env).length = 3 := by rfl) (hst : (assignEach [.Name x px, .Name y py, .Name z pz] X.env).findIdx? (·.1) = none := by rfl)
    (hs1 : (assignEach [.Name x px, .Name y py, .Name z pz] X.env).map (·.2) = assign (.Name x px) X.env :: (assignEach [.Name y py, .Name z pz] X.env).map (·.2) := by rfl) (hs2 : (assignEach [.Name y py, .Name z pz] X.env).map (·.2) = assign (.Name y py) X.env :: (assignEach [.Name z pz] X.env).map (·.2) := by rfl) (hs3 : (assignEach [.Name z pz] X.env).map (·.2) = assign (.Name z pz) X.env :: (assignEach [] X.env).map (·.2) := by rfl)
    (hz : (assignEach [.Tuple [.Name x px, .Name y py, .Name z pz] kt pt] X.env).map (·.2) = [assign (.Tuple [.Name x px, .Name y py, .Name z pz] kt pt) X.env] := by rfl)
    (hw : swappedStores [.Tuple [.Name x px, .Name y py, .Name z pz] kt pt] (.Tuple [a, b, c] k2 pt2) X.env = pure none := by rfl)
    (hs : swapsWithSole [.Tuple [.Name x px, .Name y py, .Name z pz] kt pt] (.Tuple [a, b, c] k2 pt2) pos.line X.env = pure false := by rfl)
    (h1 : starEach [a, b, c] X.env = (false, eval a X.env) :: starEach [b, c] X.env := by rfl) :
    EvS G W X (.Assign [.Tuple [.Name x px, .Name y py, .Name z pz] kt pt] (.Tuple [a, b, c] k2 pt2) pos) (wPar3O i j l wa wb wc) := ⟨PS.imp (ps_asg (pe_tup (pa_cons ha.pe h.pa h1)) (pg_tup hc (pgs_cons (pg_name hN hi hx hfx) (pgs_cons (pg_name hN hj hy hfy) (pgs_cons (pg_name hN hl hzz hfz) pgs_nil hs3) hs2) hs1) hn hst) hs hw hz) fun D σ H q => by
  obtain ⟨C, dk, F, env, P, rfl, o, hw, f⟩ := q
  refine ⟨C, dk, F, env, _, P.ex, rfl, o, hw, fun r e1 v H1 F1 p s l1 o1 k1 => ?_, fun x e c d H' F' p _ _ o' q => f.ex x e c d σ H' F' dk p o' q⟩
  cases r <;> first | exact False.elim p | skip
  rename_i cc
  obtain ⟨q, rfl, pr, no⟩ := k1
  obtain ⟨ho, hu, ck⟩ := pr.at_
  have og := (Ok.up o1 o1 (Sub.refl F1)).guard hu pr.off no pr.nf
  refine ⟨(C.at F1).guard q ho, dk, F1, e1, _, P.ex, rfl, og, p, fun rs e2 vs H2 F2 p2 n2 s2 l2 o2 k2 => ?_, fun x e c d H' F' p _ _ o' qq => f.ex x e c d σ H' F' dk p (Ok.down o1 (o'.unguard pr.nb pr.off pr.nf).1) qq⟩
  cases zz : toDs rs with
  | none => rw [zz] at p2; exact p2.elim
  | some xs =>
    rw [zz] at p2
    match xs, p2 with
    | [y, z], p2 =>
      obtain ⟨F3, s3, o3, l3, k3⟩ := k2.held o2 zz
      match vs, k3 with
      | [v2, v3], .cons q2 (.cons q3 .nil) =>
        have o4 := o3.store (i := j) (s := .d y) ⟨_, rfl, q2⟩ fun c e => by cases e
        have o5 := o4.store (i := l) (s := .d z) ⟨_, rfl, q3⟩ fun c e => by cases e
        obtain ⟨o6, hH, nf, no6⟩ := o5.unguard pr.nb pr.off pr.nf
        have o7 := Ok.down o1 o6
        have sb : Sub F1 F3 := o6.f0
        have o8 := o7.store (i := i) (s := .own cc) (v := .ref q) ⟨q, rfl, nf, pr.nb, pr.off, ho, hH, ck.mono sb⟩ fun _ _ => no6
        refine ⟨by show (2 : Nat) + 1 ≤ sizeLine; rw [sizeLine_eq]; exact (by decide : 3 ≤ 16777216), fun pt hpt => ?_⟩
        refine ⟨pt, [.ref q, v2, v3], rfl, SqT.of upd_same, rfl, .ref q, [v2, v3], rfl, v2, [v3], rfl, v3, [], rfl, rfl, ?_⟩
        have e : ((σ.set i (some (V.ref q))).set j (some v2)).set l (some v3) = ((σ.set j (some v2)).set l (some v3)).set i (some (.ref q)) := by
          rw [List.set_comm _ _ hij, List.set_comm _ _ hil]
        rw [e]
        exact f.nx _ _ _ _ _ p2 (o8.newCell _ hpt)⟩
end
/-! ### e[:0:-1] of a text -/
section
variable {X : Cx} {e : Expr} {te : TE} {k kz : Nat} {p1 p2 p3 pz pos : Pos}
def rRev0 : V → Hp → VK → Prop := fun x H1 Q => ∃ z, x = .str z ∧ z.length ≤ sizeLine ∧ Q (.str (revS0 z)) H1
def tRev0 (te : TE) : TE := fun σ H Q => te σ H fun x H1 => rRev0 x H1 Q
theorem pe_rev0 (he : PE X e te) : PE X (.Subscript e (.Slice none (some (.Constant (.int 0) kz pz)) (some (.UnaryOp .USub (.Constant (.int 1) k p1) p2)) p3) pos) (tRev0 te) := by
  refine ⟨fun pins s σ H Q I h => ?_⟩
  refine Subscript_ (thn (he.run pins s σ H _ I h) fun v s1 ⟨x, H1, I1, r1, q1⟩ => ?_)
  have hst : PO X (some (.UnaryOp .USub (.Constant (.int 1) k p1) p2)) (tPart (tUn (rU fun i => .int (-i)) (tC (.int 1)))) := po_some (pe_un un_neg pe_int)
  have hz0 : PO X (some (.Constant (.int 0) kz pz)) (tPart (tC (.int 0))) := po_some pe_int
  refine wpAny_Slice (thn (po_none.run pins s1 σ H1 (fun o H2 => o = none ∧ H2 = H1) I1 ⟨rfl, rfl⟩) fun vl s2 ⟨l, H2, I2, pl, el, e2⟩ => ?_)
  subst el e2
  refine thn (hz0.run pins s2 σ H2 (fun o H3 => o = some 0 ∧ H3 = H2) I2 ⟨0, rfl, rfl, rfl⟩) fun vu s3 ⟨u, H3, I3, pu, eu, e3⟩ => ?_
  subst eu e3
  refine thn (hst.run pins s3 σ H3 (fun o H4 => o = some (-1) ∧ H4 = H3) I3 ⟨1, rfl, -1, rfl, rfl, rfl⟩) fun vs s4 ⟨o, H4, I4, ps, eo, e4⟩ => ?_
  subst eo e4
  have I5 : Inv X pins σ H4 { s4 with heap := s4.heap.push { cls := .type "slice", data := .fields #[vl, vu, vs] } } := I4.kept (t' := s4.toks) fun b ob q => Heap.get?_push_of_some _ q
  obtain ⟨z, ex, hz, q⟩ := q1
  subst ex
  obtain ⟨t, rfl⟩ := r1
  show wpAny (model X.prog X.w) X.A (subscriptTail e (.Slice none (some (.Constant (.int 0) kz pz)) (some (.UnaryOp .USub (.Constant (.int 1) k p1) p2)) p3) (.str z t) (.ref s4.heap.objs.size)) (EP X pins σ Q) X.xe { s4 with heap := s4.heap.push { cls := .type "slice", data := .fields #[vl, vu, vs] } }
  refine tail_any (ops := [.ref s4.heap.objs.size, .str z t]) (typeIs_str _ _ _) (F.slot_str_getitem.lookup) ?_ (by with_unfolding_all rfl)
  obtain ⟨l0, rfl, el⟩ := IsPart.raw pl
  cases l0 with
  | some _ => cases el
  | none =>
    cases pu with
    | int i0 tu =>
      cases ps with
      | int i tk =>
        refine wpAny_getItem_str_slice (l := none) (u := some (0, tu)) (st := some (-1, tk)) ⟨_, Heap.get?_push_size _ rfl, rfl, rfl⟩ rfl ?_
        rw [made_rev0]
        refine ⟨by show (revS0 z).cps.size ≤ _; unfold revS0; simp only [List.size_toArray, List.length_reverse, List.length_drop]; have : z.cps.toList.length = z.length := by simp [Str.length]
                   omega, .str _, H4, I5.tok _, ⟨_, rfl⟩, q⟩
def dRev0 : Op1 := fun x P => match x with
  | .str z => z.length ≤ sizeLine ∧ P (.d (.str (revS0 z)))
  | _ => False
theorem snd_rev0 {G : DG} : Snd1 G rRev0 dRev0 := by
  intro C hC dk σ H F env r v x Q P o k e h q
  subst hC
  cases x <;> first | exact h.elim | skip
  have k1 := k.dp o e
  cases k1
  exact ⟨_, rfl, h.1, q _ _ _ _ h.2 (Sub.refl F) o (show Dq C.g.K F _ _ from .str _)⟩
theorem ev_rev0 {G : DG} {W : WX} {we : WE} (he : Ev G W X e we) : Ev G W X (.Subscript e (.Slice none (some (.Constant (.int 0) kz pz)) (some (.UnaryOp .USub (.Constant (.int 1) k p1) p2)) p3) pos) (wOp1 dRev0 we) :=
  Ev.of (pe_rev0 he.pe) fun C hC _ _ _ _ _ _ _ _ o h f => by
    subst hC
    exact L.one snd_rev0 o h f
end
end Dl

namespace L2
open PySem PySem.Spec PyProof.Rows
theorem tuple_mul1 (l : Addr) (items : Array Value) (n : Nat) (dd : Option Addr) (sl : Array (Option Value)) (u : Tok) :
    Meets (Builtin.«tuple.__mul__» ⟨[.ref l, .int 1 u], []⟩) (fun _ R s => s.heap.get? l = some { cls := .type "tuple", dict := dd, data := .seq items n, slots := sl } ∧ R (.ok (.ret (Value.ref l))) s) :=
  .of_wp fun prog w A R s h => by
    obtain ⟨hp, g, d, tk, os⟩ := s
    obtain ⟨hl, h⟩ := h
    have f1 := AutoSeq1.idx_int
    have c1 : (items.isEmpty || (1 : Int) == 1) = true := by simp
    wp_walk using wpAny_loadPart' hl
    all_goals (first | exact ⟨_, rfl, h⟩ | skip)
    repeat (first
      | (refine wpAny_ite_true (decide_eq_true c1) ?_; wp_walk using wpAny_loadPart' hl)
      | (refine wpAny_ite_true (by simp) ?_; wp_walk using wpAny_loadPart' hl))
    all_goals exact ⟨_, rfl, h⟩
def rRep1 (K : PySem.W.Frag) : R2 := fun x y H Q => ∃ l xs, x = .ref l ∧ y = .int 1 ∧ SqT K H l xs ∧ Q (.ref l) H
theorem op_rep1 {X : Cx} : OpR X (binaryOp .Mult) (rRep1 X.K) := by
  intro pins s σ H x y v u Q I rx ry h
  obtain ⟨l, xs, rfl, rfl, hT, q⟩ := h
  cases rx
  obtain ⟨t, rfl⟩ := ry
  obtain ⟨its, r, ⟨⟨cls, dd, data, sl⟩, ho, hc, n, hd⟩, hs⟩ := I.tuple hT
  simp only at hc hd
  subst hc hd
  refine wpAny_binaryOp_repeat_ref (T := "tuple") (U := "int") (by decide) ⟨_, ho, rfl⟩ (fun s' => typeIs_int s' 1 t) noFill_tuple_mul F.fills_int_mul F.slot_int_rmul repeat_tuple F.slot_int_index.lookup
    (call_meets F.slot_int_rmul (typeIs_int s 1 t) F.entry_int_rmul (F.args_int_rmul_2 _ _) (int_rmul_tuple 1 t l its.toArray n dd sl)
      ⟨ho, rfl, ⟨_, ho, rfl⟩, call_meets F.slot_tuple_mul ⟨_, ho, rfl⟩ F.entry_tuple_mul (F.args_tuple_mul_2 _ _) (tuple_mul1 l its.toArray n dd sl t) ⟨ho, ?_⟩⟩)
  exact ⟨.ref l, H, I, rfl, q⟩
end L2
namespace Dl
open PySem PySem.Spec PyProof.Rows L2
section
variable {G : DG} {W : WX} {X : Cx} {a b : Expr} {wa wb : WE} {pos : Pos}
/-- (e, ..) * k -/
def dMulT : Op2 := fun x y P => match x, y with
  | .tuple xs, .int k => xs ≠ [] ∧ 1 ≤ k ∧ k ≤ 1000 ∧ xs.length ≤ 1000 ∧ P (.d (.tuple (List.replicate k.toNat xs).flatten))
  | _, _ => False
theorem snd_mulT : Snd2 G (fun x y H Q => rRepT G.K x y H Q ∨ rRep1 G.K x y H Q) dMulT := by
  intro C hC dk σ H F env r s v u x y Q P o k1 k2 e1 e2 h q
  subst hC
  cases x <;> cases y <;> first | exact h.elim | skip
  rename_i xs k
  obtain ⟨h1, h2, h3, h4, h5⟩ := h
  obtain ⟨p1, vs1, rfl, a1, b1⟩ := k1.tup o e1
  have hk := k2.int o e2
  by_cases z : k = 1
  · subst z
    refine .inr ⟨p1, vs1, rfl, hk, a1, ?_⟩
    have e : (List.replicate (1 : Int).toNat xs).flatten = xs := by simp [List.replicate]
    rw [e] at h5
    have D : Dq C.g.K F (.ref p1) (.tuple xs) := by
      cases r with
      | d y => cases e1; exact k1
      | nw c => cases c <;> cases e1
      | bw i c => cases c <;> cases e1
      | deck => cases e1
      | opq z => cases e1
    exact q _ _ _ _ h5 (Sub.refl F) o D
  · refine .inl ⟨p1, k, vs1, rfl, hk, a1, fun e => h1 (by have := b1.length; rw [e] at this; exact List.length_eq_zero_iff.mp this.symm), by omega, h3, by rw [b1.length]; exact h4, fun p hp => ?_⟩
    obtain ⟨F', s', o', k'⟩ := o.newTup hp (b1.rep k.toNat)
    exact q _ _ _ _ h5 s' o' k'
theorem ev_mulT (hK : X.K = G.K) (ha : Ev G W X a wa) (hb : Ev G W X b wb) : Ev G W X (.BinOp a .Mult b pos) (wOp dMulT wa wb) := ev_bin (OpR.or op_repT op_rep1) (by rw [hK]; exact snd_mulT) ha hb
end
end Dl

namespace Dl
open PySem PySem.Spec PyProof.Rows L2

/-! ### a law's end, guards told -/
/-- what a law's def must do where the claim calls it -/
def LawRun (P : Program) (w : World) (K : PySem.W.Frag) (mg : Str → Option Value) (base : Heap) (fa a : Addr) (ns : List Int) : Prop :=
  ∀ (s : Shared) (H : Hp), Env0 P w K mg base callerA [] s H → Only H → SqL K H a (ns.map V.int) → codeAny (model P w) callerA (.call (.ref fa) ⟨[.ref a], []⟩) (CR (L2.CX P w) [] P w H s (fun v _ => v = .bl true) fun _ _ _ => False) s
/-- what is known of the script's object -/
def scrObj (vals : List Value) : Obj := { cls := .type "list", data := .seq vals.toArray }
section
variable {P : Program} {w : World} {K : PySem.W.Frag} {mg mb : Str → Option Value} {fa a : Addr} {s1 : Shared} {vals : List Value} {ns : List Int}
/-- the end of the law's call, from an abstract heap that tracks the script at most -/
theorem law_core (kin : K.In s1.heap) (ng : s1.heap.Ns mainGlobals mg) (nb : s1.heap.Ns builtinsNs mb) (eb : ∀ x : Str, x ≠ "__name__" → mb x = bootBuiltins x) (nl : s1.heap.NoLimit) (gens0 : s1.gens = #[]) (obj : s1.heap.get? a = some (scrObj vals))
    (run : ∀ base : Heap, K.In base → base.Ns mainGlobals mg → LawRun P w K mg base fa a ns) {H : Hp} (only : Only H) (sq : SqL K H a (ns.map V.int)) (hok : HOk P w H s1.heap) (at_a : ∀ c, H c ≠ none → c = a) (out : H a ≠ none → K.lookup a = none) :
    codeAny (model P w) callerA (.call (.ref fa) ⟨[.ref a], []⟩) (fun r s2 => r = .ok (.ret (.bool true)) ∧ OldK s1.heap s2.heap ∧ s2.os = s1.os ∧ AllBare s2.gens) s1 := by
  have at_b : ∀ {c : Addr} {o : Obj}, s1.heap.get? c = some o → H c = none → (hidT s1.heap H).get? c = some o := fun e z => hidT_get e z
  have dict_free : ∀ {c : Addr} {o : Obj} {es : Array DictEntry} {n : Nat}, s1.heap.get? c = some o → o.data = .dict es n → H c = none := by
    intro c o es n e d
    cases z : H c with
    | none => rfl
    | some u =>
      have ec := at_a c (by rw [z]; exact fun y => nomatch y)
      rw [ec, obj] at e
      have eo := Option.some.inj e
      rw [← eo] at d
      exact nomatch d
  have nsB : ∀ {c : Addr} {m : Str → Option Value}, s1.heap.Ns c m → (hidT s1.heap H).Ns c m := by
    rintro c m ⟨o, es, n, e, d, rest⟩
    exact ⟨o, es, n, at_b e (dict_free e d), d, rest⟩
  have kinB : K.In (hidT s1.heap H) := by
    intro c o e
    refine at_b (kin c o e) ?_
    cases z : H c with
    | none => rfl
    | some u =>
      have ec := at_a c (by rw [z]; exact fun y => nomatch y)
      have nk := out (by rw [← ec, z]; exact fun y => nomatch y)
      rw [ec, nk] at e
      exact nomatch e
  obtain ⟨ml, l1, l2⟩ := id nl
  have env : Env0 P w K mg (hidT s1.heap H) callerA [] s1 H := ⟨rfl, ⟨kinB, nsB ng, ⟨mb, nsB nb, eb⟩, ⟨ml, nsB l1, l2⟩⟩, fun c o e => of_hidT e, Nat.le_of_eq (hidT_size _ _), trivial, fun c hc => (List.not_mem_nil hc).elim, hok, .of_eq gens0⟩
  refine codeAny_mono (run _ kinB (nsB ng) s1 H env only sq) fun r s2 z => ?_
  cases r with
  | error e =>
    obtain ⟨_, _, _, _, _, _, _, _, _, _, _, _, bad⟩ := z
    exact bad.elim
  | ok fl =>
    cases fl with
    | ret u =>
      obtain ⟨v, H2, os2, bare2, un, hok2, rel, ev⟩ := z
      obtain rfl : v = .bl true := ev
      obtain rfl : u = Value.bool true := rel
      refine ⟨rfl, OldK.of_keep fun c o e => ?_, os2, bare2⟩
      cases hc : H c with
      | none => exact un.keep c o e hc (fun y => (List.not_mem_nil y).elim) (by simp)
      | some u =>
        rcases only c with q | ⟨ob, xs, q⟩
        · rw [hc] at q; exact nomatch q
        · obtain ⟨y1, _⟩ := hok c _ q
          obtain ⟨y2, _⟩ := hok2 c _ (un.frzs c ob _ q)
          have eo : o = ob := Option.some.inj (e.symm.trans y1)
          rw [eo]
          exact y2
    | _ => exact False.elim z
theorem law_end (kin : K.In s1.heap) (ng : s1.heap.Ns mainGlobals mg) (nb : s1.heap.Ns builtinsNs mb) (eb : ∀ x : Str, x ≠ "__name__" → mb x = bootBuiltins x) (nl : s1.heap.NoLimit) (gens0 : s1.gens = #[]) (obj : s1.heap.get? a = some (scrObj vals)) (hin : IntsAre vals ns) (few : ns.length ≤ sizeLine)
    (run : ∀ base : Heap, K.In base → base.Ns mainGlobals mg → LawRun P w K mg base fa a ns) : codeAny (model P w) callerA (.call (.ref fa) ⟨[.ref a], []⟩) (fun r s2 => r = .ok (.ret (.bool true)) ∧ OldK s1.heap s2.heap ∧ s2.os = s1.os ∧ AllBare s2.gens) s1 := by
  have rel := vals_ints hin
  have len := hin.length
  cases hk : K.lookup a with
  | some o =>
    have e : scrObj vals = o := Option.some.inj (obj.symm.trans (kin a o hk))
    refine law_core kin ng nb eb nl gens0 obj run (H := fun _ => none) (fun _ => .inl rfl) (.inr ⟨o, vals.toArray, 0, hk, by rw [← e]; rfl, by rw [← e]; rfl, by rw [← e]; rfl, by rw [List.size_toArray, len]; exact few, rel⟩) (fun c u z => nomatch z) (fun c z => (z rfl).elim) fun z => (z rfl).elim
  | none =>
    have yes : (fun c => if c = a then some (HO.frz (scrObj vals) (.lst (ns.map V.int))) else none) a = some (HO.frz (scrObj vals) (.lst (ns.map V.int))) := if_pos rfl
    have no : ∀ {c : Addr}, c ≠ a → (fun c => if c = a then some (HO.frz (scrObj vals) (.lst (ns.map V.int))) else none) c = none := fun h => if_neg h
    refine law_core kin ng nb eb nl gens0 obj run (H := fun c => if c = a then some (.frz (scrObj vals) (.lst (ns.map V.int))) else none) (fun c => ?_) (.inl (.inr ⟨scrObj vals, yes⟩)) (fun c u z => ?_) (fun c z => ?_) fun _ => hk
    · by_cases hc : c = a
      · rw [hc]; exact .inr ⟨_, _, yes⟩
      · exact .inl (no hc)
    · by_cases hc : c = a
      · subst hc
        have eu := Option.some.inj (yes.symm.trans z)
        rw [← eu]
        exact ⟨obj, by rw [List.length_map]; exact few, vals, _, rel, obj⟩
      · exact nomatch (no hc).symm.trans z
    · by_cases hc : c = a
      · exact hc
      · exact (z (no hc)).elim
end
/-- the law of a head by facts -/
theorem walk_law {l : PySem.W.OpenLaw} {n : Nat} {q : Program} {loose : List Str} {XP : (Str → Option Value) → Heap → Prop} {YP : World → Heap → Prop} {d : DefRec} (hn : l.most = some n) (hn2 : n ≤ sizeLine) (hdf : d.params.defaults = [])
    (F : ∀ (w : World) (mg : Str → Option Value) (fa : Addr) (h : Heap), YP w h → h.Ns mainGlobals mg → mg d.name = some (.ref fa) → ∃ K : PySem.W.Frag, K.In h ∧ ∀ (a : Addr) (ns : List Int), ns.length ≤ n → ∀ base : Heap, K.In base → base.Ns mainGlobals mg → LawRun l.prog w K mg base fa a ns) :
    PySem.W.WalkO q loose XP YP l.row.toRowW d [] (fun f vs => PySem.call f vs) := by
  refine Att.attach_call hn hdf fun w s0 s1 mg mb fa o pm cd doc a vals ns G Y ho hd hcd hmg hobj hints hlen hg => ?_
  obtain ⟨K, kin, run⟩ := F w mg fa _ Y G.T.g hmg
  exact law_end kin G.T.g G.T.b G.T.builtins G.T.nolimit hg hobj hints (Nat.le_trans hlen hn2) (run a ns hlen)
end Dl

namespace Dl
open PySem PySem.Spec PyProof.Rows L2

/-! ### a number drawn: any one below many -/
def drawOk (n r : Int) : Prop := 0 ≤ r ∧ (r < n ∨ r = 0)
/-- how great a number may be drawn below -/
abbrev drawMax : Int := 2 ^ 8000
def sDraw : FSem := fun us P _ => ∃ n : Int, us = [.deck, .d (.int n)] ∧ n < drawMax ∧ ∀ r, drawOk n r → P (.d (.int r))
theorem divC_small {i j : Int} (h : 0 < j) (h2 : j < drawMax) : DivC i j := by
  refine ⟨by omega, PyProof.noPylong_of_log2 ?_⟩
  have h3 : j.natAbs < 2 ^ 8000 := by
    have : (j.natAbs : Int) < 2 ^ 8000 := by rw [Int.natAbs_of_nonneg (by omega)]; exact h2
    exact_mod_cast this
  have : j.natAbs.log2 < 8000 := (Nat.log2_lt (by omega)).mpr h3
  omega
theorem mulC_l {i j : Int} (h : i.natAbs < 18446744073709551616) : MulC i j := CMul.ok (.inl ⟨by omega, by omega⟩)
theorem mulC_r {i j : Int} (h : j.natAbs < 18446744073709551616) : MulC i j := CMul.ok (.inr ⟨by omega, by omega⟩)
theorem fmod_bd (i : Int) {j : Int} (h : 0 < j) : 0 ≤ i.fmod j ∧ i.fmod j < j := by
  rw [Int.fmod_eq_emod_of_nonneg i (by omega)]
  exact ⟨Int.emod_nonneg i (by omega), Int.emod_lt_of_pos i h⟩
theorem fdiv_nn {i j : Int} (h : 0 ≤ i) (h2 : 0 < j) : 0 ≤ i.fdiv j := by
  rw [Int.fdiv_eq_ediv_of_nonneg i (by omega)]
  exact Int.ediv_nonneg h (by omega)

/-! ### raw readings -/
abbrev tS (x : String) : TE := tC (.str (Str.ofString x))
abbrev rAddI : R2 := rI0 fun i j => .int (i + j)
abbrev rMulI : R2 := rI MulC fun i j => .int (i * j)
abbrev rModI : R2 := rI (fun _ j => j ≠ 0) fun i j => .int (i.fmod j)
abbrev rDivI : R2 := rI DivC fun i j => .int (i.fdiv j)
abbrev rLtI : R2 := rI0 fun i j => .bl (decide (i < j))
abbrev rToInt : List V → Hp → VK → Prop := fun xs H Q => (∃ i, xs = [.int i] ∧ Q (.int i) H) ∨ ∃ k, xs = [.bl k] ∧ Q (.int (if k then 1 else 0)) H
section
variable {σ : L2.St} {H : Hp} {ta tb : TE} {i j : Int} {a : Addr} {kvs : List (Key × V)} {k : Key} {v : V}
theorem v_add (ha : Val ta σ H (.int i)) (hb : Val tb σ H (.int j)) : Val (tOp rAddI ta tb) σ H (.int (i + j)) := val_op ha hb fun Q q => ⟨_, _, rfl, rfl, q⟩
theorem v_mul (ha : Val ta σ H (.int i)) (hb : Val tb σ H (.int j)) (c : MulC i j) : Val (tOp rMulI ta tb) σ H (.int (i * j)) := val_op ha hb fun Q q => ⟨_, _, rfl, rfl, c, q⟩
theorem v_mod (ha : Val ta σ H (.int i)) (hb : Val tb σ H (.int j)) (c : j ≠ 0) : Val (tOp rModI ta tb) σ H (.int (i.fmod j)) := val_op ha hb fun Q q => ⟨_, _, rfl, rfl, c, q⟩
theorem v_div (ha : Val ta σ H (.int i)) (hb : Val tb σ H (.int j)) (c : DivC i j) : Val (tOp rDivI ta tb) σ H (.int (i.fdiv j)) := val_op ha hb fun Q q => ⟨_, _, rfl, rfl, c, q⟩
theorem v_int (ha : Val ta σ H (.int i)) : Val (tCB rToInt (tCons ta tNil)) σ H (.int i) := fun Q q => ha _ (.inl ⟨_, rfl, q⟩)
theorem v_get (ha : Val ta σ H (.ref a)) (hb : Val tb σ H (kV k)) (e : H a = some (.dK kvs)) (hv : valV kvs k = some v) : Val (tDGet ta tb) σ H v := fun Q q => ha _ (hb _ ⟨a, v, rfl, by rw [← hv]; exact DGet.k e, q⟩)
theorem v_lt {n : Int} (ha : Val ta σ H (.int i)) (hb : Val tb σ H (.int j)) : Ans (tTest (tOp rLtI ta tb)) σ H (decide (i < j)) := ans_cmp ha hb fun Q q => ⟨i, j, rfl, rfl, q⟩
theorem v_ge (ha : Val ta σ H (.int i)) (hb : Val tb σ H (.int j)) : Ans (tTest (tOp L2.rGe ta tb)) σ H (decide (j ≤ i)) := ans_cmp ha hb fun Q q => ⟨i, j, rfl, rfl, q⟩
end
/-- xs != [] -/
def tNeNil (K : PySem.W.Frag) (ta : TE) : TT := tTest (tOp (rNeD K) ta (tLst tNil))
theorem dp_ints {K : PySem.W.Frag} {H : Hp} : ∀ (gs : List Int), DpAll K H (gs.map V.int) (gs.map PyData.int)
  | [] => .nil
  | g :: gs => .cons (.int g) (dp_ints gs)
theorem shaped_ints (gs : List Int) : SeqAt.shaped (.list (gs.map PyData.int)) = true := by
  induction gs with
  | nil => rfl
  | cons g gs ih => exact ih
theorem a_neNil {K : PySem.W.Frag} {ta : TE} {σ : L2.St} {H : Hp} {a : Addr} {gs : List Int} {Q : Bool → Hp → Prop} (ha : Val ta σ H (.ref a)) (e : H a = some (.lst (gs.map V.int))) (q : ∀ p, H p = none → Q (decide (gs ≠ [])) (upd H p (.lst []))) : tNeNil K ta σ H Q := by
  refine ha _ ⟨by rw [sizeLine_eq]; exact Nat.zero_le _, fun p hp => ?_⟩
  have hne : p ≠ a := fun z => by rw [z, e] at hp; cases hp
  have e2 : upd H p (.lst []) a = some (.lst (gs.map V.int)) := by rw [upd_ne (Ne.symm hne)]; exact e
  refine ⟨.list (gs.map PyData.int), .list [], .lst (SqL.of e2) (dp_ints gs), .lst (SqL.of upd_same) .nil, shaped_ints gs, rfl, _, rfl, ?_⟩
  have : (!PyData.eqv (.list (gs.map PyData.int)) (.list [])) = decide (gs ≠ []) := by
    cases gs with
    | nil => rfl
    | cons g gs => rfl
  rw [this]
  exact q p hp
end Dl

namespace Dl
open PySem PySem.Spec PyProof.Rows L2
/-! ### raw lists of whole numbers, made by for -/
theorem wipe1 (σ : L2.St) (i : Nat) (v : Option V) : wipe ((wipe σ [i]).set i v) [i] = wipe σ [i] := by
  show ((σ.set i none).set i v).set i none = σ.set i none
  rw [List.set_set, List.set_set]
theorem raw_lc {K : PySem.W.Frag} {a D : Addr} {ns : List Int} {f : Int → Int} {keep : Int → Bool} {σ : L2.St} {H1 : Hp} {i : Nat} {tt : TT} {te : TE} {Qd : Hp → Prop} (hs : SqL K H1 a (ns.map V.int)) (hD : H1 D = none) (hl : ns.length < sizeLine)
    (st : ∀ (n : Int) (H : Hp), n ∈ ns → Ans tt ((wipe σ [i]).set i (some (.int n))) H (keep n) ∧ Val te ((wipe σ [i]).set i (some (.int n))) H (.int (f n)))
    (q : ∀ H, H D = some (.lst (((ns.filter keep).map f).map V.int)) → (∀ b o, H1 b = some o → H b = some o) → Qd H) :
    ∃ W : Nat → Nat → Hp → Prop, (∃ m, W 0 m (upd H1 D (.lst []))) ∧ ∀ j m H, W j m H →
      ((Itl K a).stop j H ∧ Qd H) ∨ ((Itl K a).go j H ∧ ∃ Nx : Hp → Prop, (∀ H', Nx H' → ∃ m', m' < m ∧ W (j + 1) m' H') ∧ ∀ x H', (Itl K a).yld j H x H' → gName i x (wipe σ [i]) H' fun σ2 H2 => wipe σ2 [i] = wipe σ [i] ∧ tt σ2 H2 fun b H3 =>
        if b = true then te σ2 H3 fun y H4 => ∃ acc, H4 D = some (.lst acc) ∧ acc.length < sizeLine ∧ Nx (upd H4 D (.lst (acc ++ [y]))) else Nx H3) := by
  have keepD : ∀ {b : Addr} {o : HO}, H1 b = some o → b ≠ D := fun e z => by rw [z, hD] at e; cases e
  refine lc_list (K := K) (a := a) (xs := ns.map V.int) (fun j H => H D = some (.lst ((((ns.take j).filter keep).map f).map V.int)) ∧ ∀ b o, H1 b = some o → H b = some o)
    ⟨by rw [List.take_zero]; exact upd_same, fun b o e => by rw [upd_ne (keepD e)]; exact e⟩ (fun j H _ p => Same.seq p.2 hs) ?_ fun H p => ?_
  · rintro j x H hx ⟨p1, p2⟩
    obtain ⟨n, hn, rfl⟩ : ∃ n, ns[j]? = some n ∧ V.int n = x := by
      rw [List.getElem?_map] at hx
      cases e : ns[j]? with
      | none => rw [e] at hx; cases hx
      | some n => rw [e] at hx; exact ⟨n, rfl, Option.some.inj hx⟩
    have hm : n ∈ ns := List.mem_of_getElem? hn
    have tk : ns.take (j + 1) = ns.take j ++ [n] := by
      rw [List.take_add_one, hn]; rfl
    refine ⟨wipe1 σ i _, (st n H hm).1 _ ?_⟩
    cases kn : keep n with
    | true =>
      rw [if_pos rfl]
      refine (st n H hm).2 _ ⟨_, p1, ?_, ?_, fun b o e => ?_⟩
      · rw [List.length_map, List.length_map]
        exact Nat.lt_of_le_of_lt (Nat.le_trans (List.length_filter_le _ _) (List.length_take_le _ _)) (by
          have : j < ns.length := (List.getElem?_eq_some_iff.mp hn).1
          omega)
      · rw [tk, List.filter_append]
        have : [n].filter keep = [n] := by simp [kn]
        rw [this, List.map_append, List.map_append]
        exact upd_same
      · rw [upd_ne (keepD e)]; exact p2 b o e
    | false =>
      rw [if_neg Bool.false_ne_true]
      refine ⟨?_, p2⟩
      rw [tk, List.filter_append]
      have : [n].filter keep = [] := by simp [kn]
      rw [this, List.append_nil]
      exact p1
  · have e : ns.take (ns.map V.int).length = ns := by rw [List.length_map]; exact List.take_length
    obtain ⟨p1, p2⟩ := p
    rw [e] at p1
    exact q H p1 p2
section
variable {σ : L2.St} {H : Hp} {ta tb : TE} {i j : Int}
abbrev rAbs : List V → Hp → VK → Prop := fun xs H Q => ∃ i, xs = [.int i] ∧ Q (.int (if i < 0 then -i else i)) H
theorem v_abs (ha : Val ta σ H (.int i)) : Val (tCB rAbs (tCons ta tNil)) σ H (.int (i.natAbs : Int)) := fun Q q => ha _ ⟨i, rfl, by rw [natAbs_ite]; exact q⟩
theorem v_intb {b : Bool} (ha : Val ta σ H (.bl b)) : Val (tCB rToInt (tCons ta tNil)) σ H (.int (if b then 1 else 0)) := fun Q q => ha _ (.inr ⟨b, rfl, q⟩)
theorem v_ltb (ha : Val ta σ H (.int i)) (hb : Val tb σ H (.int j)) : Val (tOp rLtI ta tb) σ H (.bl (decide (i < j))) := val_op ha hb fun Q q => ⟨_, _, rfl, rfl, q⟩
abbrev rPowI : R2 := rI CPow fun i j => .int (i ^ j.toNat)
theorem v_pow (ha : Val ta σ H (.int i)) (hb : Val tb σ H (.int j)) (c : CPow i j) : Val (tOp rPowI ta tb) σ H (.int (i ^ j.toNat)) := val_op ha hb fun Q q => ⟨_, _, rfl, rfl, c, q⟩
end
/-- xs[:n] of whole numbers, n not below 0 -/
theorem cutV_take (xs : List V) (n : Nat) : cutV xs none (some (n : Int)) = xs.take n := by
  unfold cutV
  have h0 : HT.sIx xs.length 0 none = 0 := rfl
  have h1 : HT.sIx xs.length xs.length (some (n : Int)) = min n xs.length := by
    simp only [HT.sIx]
    by_cases h : (n : Int) < 0
    · omega
    · simp only [h, if_false]
      omega
  rw [h0, h1, List.drop_zero, Nat.sub_zero]
  by_cases h : n ≤ xs.length
  · rw [Nat.min_eq_left h]
  · rw [Nat.min_eq_right (by omega), List.take_length, List.take_of_length_le (by omega)]
end Dl

namespace Dl
open PySem PySem.Spec PyProof.Rows L2

abbrev kS (x : String) : Key := .inr (Str.ofString x)
abbrev kvA (dl : Addr) (s t : Int) : List (Key × V) := [(kS "great", .ref dl), (kS "stirred", .int s), (kS "turn", .int t)]
def dkiA : Addr → HO → HO → Prop := fun dl o1 o2 => ∃ (s t : Int) (gs : List Int), o1 = .dK (kvA dl s t) ∧ o2 = .lst (gs.map V.int) ∧ 0 ≤ s ∧ s < 4294967296 ∧ (∀ g ∈ gs, (0 : Int) ≤ g) ∧ gs.length ≤ 100
/-- the draw's reading -/
def t_drawA (K : PySem.W.Frag) : TS :=
  tSeq (tAsg (tDGet (tVar 0) (tS "great")) (gName 2))
  (tSeq (tIfS (tTest (tOp rLtI (tVar 1) (tC (.int 2)))) (tRet (tC (.int 0))) tNext)
  (tSeq (tIfS (tNeNil K (tVar 2))
    (tSeq (tAsg (tBM0 K "list" rPop (tVar 2)) (gName 3))
    (tSeq (tIfS (tTest (tOp L2.rGe (tVar 3) (tVar 1))) (tDrop (tBM K "list" rAppend (tVar 2) (tCons (tOp rDivI (tVar 3) (tVar 1)) tNil))) tNext)
    (tRet (tOp rModI (tCB rToInt (tCons (tVar 3) tNil)) (tVar 1))))) tNext)
  (tSeq (sDPut (tVar 0) (tS "turn") (tOp rAddI (tDGet (tVar 0) (tS "turn")) (tC (.int 1))))
  (tSeq (tAsg (tOp rModI (tCB rToInt (tCons (tOp rAddI (tDGet (tVar 0) (tS "stirred")) (tOp rMulI (tC (.int 2654435761)) (tDGet (tVar 0) (tS "turn")))) tNil)) (tC (.int 4294967279))) (gName 4))
  (tSeq (tAsg (tOp rModI (tCB rToInt (tCons (tOp rAddI (tOp rAddI (tOp rMulI (tVar 4) (tVar 4)) (tOp rMulI (tC (.int 97)) (tDGet (tVar 0) (tS "turn")))) (tC (.int 53))) tNil)) (tC (.int 4294967231))) (gName 4))
  (tSeq (tAsg (tOp rModI (tCB rToInt (tCons (tOp rAddI (tOp rMulI (tVar 4) (tVar 4)) (tDGet (tVar 0) (tS "stirred"))) tNil)) (tC (.int 4294967197))) (gName 4))
  (tRet (tOp rModI (tCB rToInt (tCons (tOp rDivI (tVar 4) (tC (.int 16))) tNil)) (tVar 1)))))))))
theorem st_asg {te : TE} {σ : L2.St} {H : Hp} {v : V} {i : Nat} {D : Ends} (h : Val te σ H v) (q : D.nx (σ.set i (some v)) H) : tAsg te (gName i) D σ H := h _ q
section
variable {t u t1 : TS} {te : TE} {c : TT} {σ : L2.St} {H : Hp} {v : V} {i : Nat} {D : Ends}
theorem sq_asg (h : Val te σ H v) (q : t D (σ.set i (some v)) H) : tSeq (tAsg te (gName i)) t D σ H := h _ q
theorem sq_pop {K : PySem.W.Frag} {a : Addr} {xs : List V} {y : V} (h : Val te σ H (.ref a)) (e : H a = some (.lst xs)) (hy : xs[xs.length - 1]? = some y) (q : t D (σ.set i (some y)) (upd H a (.lst xs.dropLast))) : tSeq (tAsg (tBM0 K "list" rPop te) (gName i)) t D σ H :=
  st_seq (h _ ⟨.inl ⟨rfl, _, SqL.of e⟩, a, _, y, rfl, rfl, e, hy, q⟩)
theorem sq_app {K : PySem.W.Frag} {a : Addr} {xs : List V} {y : V} {tv : TE} (h : Val te σ H (.ref a)) (h2 : Val tv σ H y) (e : H a = some (.lst xs)) (hl : xs.length < sizeLine) (q : D.nx σ (upd H a (.lst (xs ++ [y])))) : tDrop (tBM K "list" rAppend te (tCons tv tNil)) D σ H :=
  h _ ⟨.inl ⟨rfl, _, SqL.of e⟩, h2 _ ⟨a, _, _, rfl, rfl, e, hl, q⟩⟩
theorem sq_yes (h : Ans c σ H true) (q : t1 { D with nx := t D } σ H) : tSeq (tIfS c t1 u) t D σ H := st_seq (st_yes h q)
theorem sq_no (h : Ans c σ H false) (q : t D σ H) : tSeq (tIfS c t1 tNext) t D σ H := st_seq (st_no h q)
end
theorem getLast_split {α : Type} (l : List α) (h : l ≠ []) : ∃ l' x, l = l' ++ [x] := ⟨l.dropLast, l.getLast h, (List.dropLast_concat_getLast h).symm⟩
theorem pure_drawA {K : PySem.W.Frag} {H : Hp} {da dl : Addr} {o1 o2 : HO} {n : Int} {D : Ends} (h1 : H da = some o1) (h2 : H dl = some o2) (hne : da ≠ dl) (inv : dkiA dl o1 o2) (hn : n < drawMax)
    (hq : ∀ r H' o1' o2', drawOk n r → H' da = some o1' → H' dl = some o2' → dkiA dl o1' o2' → (∀ a, a ≠ da → a ≠ dl → ∀ o, H a = some o → H' a = some o) → D.rt (.int r) H') :
    t_drawA K D [some (.ref da), some (.int n), none, none, none] H := by
  obtain ⟨s, t, gs, rfl, rfl, s0, s1, g0, g1⟩ := inv
  refine sq_asg (v_get (a := da) (k := kS "great") (kvs := kvA dl s t) (v := .ref dl) (val_var rfl) val_c h1 rfl) ?_
  by_cases c : n < 2
  · refine sq_yes ((v_lt (n := n) (i := n) (j := 2) (val_var rfl) val_c).to (decide_eq_true c)) ?_
    exact hq 0 H _ _ ⟨by omega, .inr rfl⟩ h1 h2 ⟨s, t, gs, rfl, rfl, s0, s1, g0, g1⟩ fun _ _ _ _ e => e
  · have hn0 : 0 < n := by omega
    refine sq_no ((v_lt (n := n) (i := n) (j := 2) (val_var rfl) val_c).to (decide_eq_false c)) ?_
    refine st_seq ?_
    refine a_neNil (a := dl) (gs := gs) (val_var rfl) h2 fun p hp => ?_
    have pa : da ≠ p := fun z => by rw [z, hp] at h1; cases h1
    have pl : dl ≠ p := fun z => by rw [z, hp] at h2; cases h2
    have h1' : upd H p (.lst []) da = some (.dK (kvA dl s t)) := by rw [upd_ne pa]; exact h1
    have h2' : upd H p (.lst []) dl = some (.lst (gs.map V.int)) := by rw [upd_ne pl]; exact h2
    have keep : ∀ a, a ≠ da → a ≠ dl → ∀ o, H a = some o → upd H p (.lst []) a = some o := fun a _ _ o e => by
      rw [upd_ne (ne_of_none e hp)]; exact e
    generalize upd H p (.lst []) = H1 at h1' h2' keep
    by_cases cg : gs = []
    · rw [decide_eq_false (not_not_intro cg), if_neg Bool.false_ne_true]
      subst cg
      refine st_seq ?_
      refine v_add (v_get (a := da) (k := kS "turn") (kvs := kvA dl s t) (v := .int t) (val_var rfl) val_c h1' rfl) val_c _ ?_
      refine val_var (i := 0) (v := .ref da) rfl _ ?_
      refine val_c _ ?_
      refine ⟨da, _, rfl, DPut.k (k := kS "turn") h1' (by rw [sizeLine_eq]; show 3 < 16777216; omega), ?_⟩
      have e2 : putK (kvA dl s t) (kS "turn") (.int (t + 1)) = kvA dl s (t + 1) := rfl
      rw [e2]
      have h3 : upd H1 da (.dK (kvA dl s (t + 1))) da = some (.dK (kvA dl s (t + 1))) := upd_same
      have h4 : upd H1 da (.dK (kvA dl s (t + 1))) dl = some (.lst (([] : List Int).map V.int)) := by rw [upd_ne (Ne.symm hne)]; exact h2'
      have keep2 : ∀ a, a ≠ da → a ≠ dl → ∀ o, H a = some o → upd H1 da (.dK (kvA dl s (t + 1))) a = some o := fun a na nl o e => by rw [upd_ne na]; exact keep a na nl o e
      generalize upd H1 da (.dK (kvA dl s (t + 1))) = H2 at h3 h4 keep2
      refine sq_asg (v_mod (v_int (v_add (v_get (a := da) (k := kS "stirred") (kvs := kvA dl s (t + 1)) (v := .int s) (val_var rfl) val_c h3 rfl) (v_mul val_c (v_get (a := da) (k := kS "turn") (kvs := kvA dl s (t + 1)) (v := .int (t + 1)) (val_var rfl) val_c h3 rfl) (mulC_l (by decide))))) val_c (by decide)) ?_
      generalize hx : (s + 2654435761 * (t + 1)).fmod 4294967279 = x
      have bx := fmod_bd (s + 2654435761 * (t + 1)) (j := 4294967279) (by decide)
      rw [hx] at bx
      refine sq_asg (v_mod (v_int (v_add (v_add (v_mul (i := x) (j := x) (val_var rfl) (val_var rfl) (mulC_l (by omega))) (v_mul val_c (v_get (a := da) (k := kS "turn") (kvs := kvA dl s (t + 1)) (v := .int (t + 1)) (val_var rfl) val_c h3 rfl) (mulC_l (by decide)))) val_c)) val_c (by decide)) ?_
      generalize hy : (x * x + 97 * (t + 1) + 53).fmod 4294967231 = y
      have by_ := fmod_bd (x * x + 97 * (t + 1) + 53) (j := 4294967231) (by decide)
      rw [hy] at by_
      refine sq_asg (v_mod (v_int (v_add (v_mul (i := y) (j := y) (val_var rfl) (val_var rfl) (mulC_l (by omega))) (v_get (a := da) (k := kS "stirred") (kvs := kvA dl s (t + 1)) (v := .int s) (val_var rfl) val_c h3 rfl))) val_c (by decide)) ?_
      generalize hz : (y * y + s).fmod 4294967197 = z
      have bz := fmod_bd (y * y + s) (j := 4294967197) (by decide)
      rw [hz] at bz
      refine v_mod (i := z.fdiv 16) (j := n) (v_int (v_div (i := z) (j := 16) (val_var rfl) val_c (divC_small (by decide) (by decide)))) (val_var rfl) (by omega) _ ?_
      have br := fmod_bd (z.fdiv 16) hn0
      exact hq _ H2 _ _ ⟨br.1, .inl br.2⟩ h3 h4 ⟨s, t + 1, [], rfl, rfl, s0, s1, g0, g1⟩ keep2
    · rw [decide_eq_true cg, if_pos rfl]
      obtain ⟨g', x, rfl⟩ := getLast_split gs cg
      have x0 : 0 ≤ x := g0 x (by simp)
      have g0' : ∀ g ∈ g', (0 : Int) ≤ g := fun g hg => g0 g (by simp [hg])
      have g1' : g'.length + 1 ≤ 100 := by rw [List.length_append] at g1; exact g1
      refine sq_pop (a := dl) (y := .int x) (val_var rfl) h2' (by simp) ?_
      have e5 : ((g' ++ [x]).map V.int).dropLast = g'.map V.int := by simp
      rw [e5]
      have h3 : upd H1 dl (.lst (g'.map V.int)) da = some (.dK (kvA dl s t)) := by rw [upd_ne hne]; exact h1'
      have h4 : upd H1 dl (.lst (g'.map V.int)) dl = some (.lst (g'.map V.int)) := upd_same
      have keep2 : ∀ a, a ≠ da → a ≠ dl → ∀ o, H a = some o → upd H1 dl (.lst (g'.map V.int)) a = some o := fun a na nl o e => by rw [upd_ne nl]; exact keep a na nl o e
      generalize upd H1 dl (.lst (g'.map V.int)) = H2 at h3 h4 keep2
      have fin : ∀ (H3 : Hp) (g2 : List Int), H3 da = some (.dK (kvA dl s t)) → H3 dl = some (.lst (g2.map V.int)) → (∀ g ∈ g2, (0 : Int) ≤ g) → g2.length ≤ 100 → (∀ a, a ≠ da → a ≠ dl → ∀ o, H a = some o → H3 a = some o) →
          ∀ D' : Ends, D'.rt = D.rt → tRet (tOp rModI (tCB rToInt (tCons (tVar 3) tNil)) (tVar 1)) D' [some (.ref da), some (.int n), some (.ref dl), some (.int x), none] H3 := fun H3 g2 a1 a2 a3 a4 a5 D' eD => by
        have br := fmod_bd x hn0
        refine v_mod (i := x) (j := n) (v_int (val_var rfl)) (val_var rfl) (by omega) _ ?_
        rw [eD]
        exact hq _ H3 _ _ ⟨br.1, .inl br.2⟩ a1 a2 ⟨s, t, g2, rfl, rfl, s0, s1, a3, a4⟩ a5
      by_cases cx : n ≤ x
      · refine sq_yes ((v_ge (i := x) (j := n) (val_var rfl) (val_var rfl)).to (decide_eq_true cx)) ?_
        refine sq_app (a := dl) (y := .int (x.fdiv n)) (val_var rfl) (v_div (i := x) (j := n) (val_var rfl) (val_var rfl) (divC_small hn0 hn)) h4 (by rw [sizeLine_eq, List.length_map]; omega) ?_
        have e6 : g'.map V.int ++ [V.int (x.fdiv n)] = (g' ++ [x.fdiv n]).map V.int := by simp
        rw [e6]
        refine fin _ (g' ++ [x.fdiv n]) (by rw [upd_ne hne]; exact h3) upd_same (fun g hg => ?_) (by rw [List.length_append]; exact g1') (fun a na nl o e => by rw [upd_ne nl]; exact keep2 a na nl o e) _ rfl
        rcases List.mem_append.mp hg with hg | hg
        · exact g0' g hg
        · rw [List.mem_singleton.mp hg]; exact fdiv_nn x0 hn0
      · refine sq_no ((v_ge (i := x) (j := n) (val_var rfl) (val_var rfl)).to (decide_eq_false cx)) ?_
        exact fin H2 g' h3 h4 g0' (by omega) keep2 _ rfl

/-- a deck's def, told raw -/
theorem draw_spec {g : DG} {da dl : Addr} {dk : Dk} {H H' F : Hp} {o1' o2' : HO} (hdk : dk = some (da, dl)) (s : Sub F H) (d : DeckOk g H F dk) (h1 : H' da = some o1') (h2 : H' dl = some o2') (i : g.dki dl o1' o2')
    (k : ∀ a, a ≠ da → a ≠ dl → ∀ o, H a = some o → H' a = some o) : Aft g dk H F H' F := by
  subst hdk
  obtain ⟨f1, f2, ne, _⟩ := d
  refine ⟨Sub.refl F, fun a o e => k a (fun z => (by rw [z, f1] at e; cases e)) (fun z => (by rw [z, f2] at e; cases e)) o (s a o e), fun a o e z => (by rw [z] at e; cases e), fun a o e f => ?_, f1, f2, ne, _, _, h1, h2, i⟩
  obtain ⟨n1, n2⟩ := f da dl rfl
  exact k a n1 n2 o e
theorem run_drawA {g : DG} (hg : g.dki = dkiA) (x1 x2 x3 x4 x5 : Str) {vs : List V} {H : Hp} {Q : VK} {E : XK} (h : spOf g sDraw vs H Q E) : t_drawA g.K { nx := fun _ H' => Q .non H', rt := Q } (start [x1, x2, x3, x4, x5] vs) H := by
  obtain ⟨F, dk, us, sF, dO, aO, P, Ex, ⟨n, rfl, hn, hP⟩, hQ, _⟩ := h
  match vs, aO with
  | [v1, v2], aO =>
    obtain ⟨⟨da, dl, rfl, rfl⟩, h2, _⟩ := aO
    cases h2
    obtain ⟨f1, f2, ne, o1, o2, e1, e2, iv⟩ := id dO
    rw [hg] at iv
    exact pure_drawA e1 e2 ne iv hn fun r H' o1' o2' hr a1 a2 a3 a4 => hQ (.d (.int r)) _ H' F (hP r hr) (draw_spec rfl sF dO a1 a2 (by rw [hg]; exact a3) a4) (Dq.int r)
  | [], aO => exact aO.elim
  | [_], aO => exact aO.2.elim
  | _ :: _ :: _ :: _, aO => exact aO.2.2.elim
end Dl

namespace Dl
open PySem PySem.Spec PyProof.Rows L2
/-! ### the deck is made -/
abbrev rLenSq (K : PySem.W.Frag) : List V → Hp → VK → Prop := fun xs H Q => ∃ p ys, xs = [.ref p] ∧ (SqL K H p ys ∨ SqT K H p ys) ∧ Q (.int ys.length) H
/-- names: script, cells, stirred, cell -/
def t_deckA (K : PySem.W.Frag) : TS :=
  tSeq (tPar 1 2 (tCons (tLc (iList K (tSl (rSlL K) (tVar 0) tNoPart (tPart (tC (.int 60))))) (gName 3) tYes
      (tOp rAddI (tOp rMulI (tC (.int 2)) (tCB rAbs (tCons (tVar 3) tNil))) (tCB rToInt (tCons (tOp rLtI (tVar 3) (tC (.int 0))) tNil))) [3])
    (tCons (tOp rAddI (tC (.int 3001)) (tCB (rLenSq K) (tCons (tVar 0) tNil))) tNil)))
  (tSeq (tFor (iList K (tVar 1)) (gName 3) (tAsg (tOp rModI (tCB rToInt (tCons (tOp rAddI (tOp rAddI (tOp rMulI (tVar 2) (tC (.int 69069))) (tVar 3)) (tC (.int 7))) tNil)) (tC (.int 4294967291))) (gName 2)))
  (tRet (tDisp [(tS "great", tLc (iList K (tVar 1)) (gName 3) (tTest (tOp L2.rGe (tVar 3) (tOp rPowI (tC (.int 10)) (tC (.int 16))))) (tVar 3) [3]), (tS "stirred", tVar 2), (tS "turn", tC (.int 0))])))
/-- a deck is made -/
def spDeck (g : DG) : Sp := fun vs H Q _ => ∃ (a : Addr) (ns : List Int), vs = [.ref a] ∧ SqL g.K H a (ns.map V.int) ∧ ns.length ≤ 63 ∧
  ∀ da dl H', H da = none → H dl = none → (∀ b o, H b = some o → H' b = some o) → DeckOk g H' (fun _ => none) (some (da, dl)) → Q (.ref da) H'
theorem run_deckA {g : DG} (hg : g.dki = dkiA) (x1 x2 x3 x4 : Str) {vs : List V} {H : Hp} {Q : VK} {E : XK} (h : spDeck g vs H Q E) : t_deckA g.K { nx := fun _ H' => Q .non H', rt := Q } (start [x1, x2, x3, x4] vs) H := by
  obtain ⟨a, ns, rfl, hs, hl, hq⟩ := h
  show tSeq _ _ _ [some (.ref a), none, none, none] H
  refine st_seq ?_
  refine ⟨.ref a, rfl, 60, rfl, a, _, rfl, hs, fun p hp => ?_⟩
  have e60 : cutV (ns.map V.int) none (some 60) = (ns.take 60).map V.int := by
    rw [show (60 : Int) = ((60 : Nat) : Int) from rfl, cutV_take, List.map_take]
  rw [e60]
  have hp1 : upd H p (.lst ((ns.take 60).map V.int)) p = some (.lst ((ns.take 60).map V.int)) := upd_same
  have k1 : ∀ b o, H b = some o → upd H p (.lst ((ns.take 60).map V.int)) b = some o := fun b o e => by rw [upd_ne (ne_of_none e hp)]; exact e
  generalize upd H p (.lst ((ns.take 60).map V.int)) = H1 at hp1 k1
  refine ⟨p, rfl, ⟨_, SqL.of hp1⟩, fun D hD => ?_⟩
  have l60 : (ns.take 60).length < sizeLine := by rw [sizeLine_eq, List.length_take]; omega
  refine raw_lc (f := fun n => 2 * (n.natAbs : Int) + (if decide (n < 0) then 1 else 0)) (keep := fun _ => true) (SqL.of hp1) hD l60 (fun n H' _ => ⟨fun Q q => q, v_add (v_mul val_c (v_abs (val_var rfl)) (mulC_l (by decide))) (v_intb (v_ltb (val_var rfl) val_c))⟩) fun H2 hD2 k2 => ?_
  have hns : SqL g.K H2 a (ns.map V.int) := Same.seq (fun b o e => k2 b o (k1 b o e)) hs
  refine ⟨.ref a, rfl, a, _, rfl, .inl hns, _, _, rfl, rfl, _, _, rfl, ?_⟩
  have ef : (ns.take 60).filter (fun _ => true) = ns.take 60 := List.filter_eq_self.mpr fun _ _ => rfl
  rw [ef] at hD2
  generalize hc : (ns.take 60).map (fun n => 2 * (n.natAbs : Int) + (if decide (n < 0) then 1 else 0)) = cs at hD2
  have c0 : ∀ c ∈ cs, (0 : Int) ≤ c := by
    intro c hm
    rw [← hc] at hm
    obtain ⟨n, _, rfl⟩ := List.mem_map.mp hm
    split <;> omega
  have cl : cs.length ≤ 60 := by rw [← hc, List.length_map, List.length_take]; omega
  have kH : ∀ b o, H b = some o → H2 b = some o := fun b o e => k2 b o (k1 b o e)
  have nD : H D = none := by
    cases q : H D with
    | none => rfl
    | some o => rw [k1 _ _ q] at hD; cases hD
  have s0 : (0 : Int) ≤ 3001 + ((ns.map V.int).length : Int) ∧ 3001 + ((ns.map V.int).length : Int) < 4294967296 := by rw [List.length_map]; omega
  refine ⟨.ref D, rfl, D, rfl, ⟨_, SqL.of hD2⟩, ?_⟩
  refine for_list (K := g.K) (a := D) (xs := cs.map V.int) (fun i σ H' => H' = H2 ∧ ∃ (s : Int) (v : Option V), σ = [some (.ref a), some (.ref D), some (.int s), v] ∧ 0 ≤ s ∧ s < 4294967296) ⟨rfl, 3001 + ((ns.map V.int).length : Int), none, rfl, s0.1, s0.2⟩ (fun i σ H' _ p => by rw [p.1]; exact SqL.of hD2) ?_ ?_
  · rintro i x σ H' hx ⟨rfl, s, v, rfl, s1, s2⟩
    obtain ⟨n, hn, rfl⟩ : ∃ n, cs[i]? = some n ∧ V.int n = x := by
      rw [List.getElem?_map] at hx
      cases e : cs[i]? with
      | none => rw [e] at hx; cases hx
      | some n => rw [e] at hx; exact ⟨n, rfl, Option.some.inj hx⟩
    refine v_mod (v_int (v_add (v_add (v_mul (i := s) (val_var rfl) val_c (mulC_r (by decide))) (val_var (v := .int n) rfl)) val_c)) val_c (by decide) _ ?_
    have b := fmod_bd (s * 69069 + n + 7) (j := 4294967291) (by decide)
    exact ⟨rfl, _, _, rfl, b.1, by omega⟩
  · rintro σ H' ⟨rfl, s, v, rfl, s1, s2⟩
    intro q hq0
    have hD3 : upd H' q (.dK []) D = some (.lst (cs.map V.int)) := by rw [upd_ne (ne_of_none hD2 hq0)]; exact hD2
    have hq3 : upd H' q (.dK []) q = some (.dK []) := upd_same
    have kq : ∀ b o, H' b = some o → upd H' q (.dK []) b = some o := fun b o e => by rw [upd_ne (ne_of_none e hq0)]; exact e
    have nq : H q = none := by
      cases z : H q with
      | none => rfl
      | some o => rw [kH _ _ z] at hq0; cases hq0
    generalize upd H' q (.dK []) = H3 at hD3 hq3 kq
    refine ⟨.ref D, rfl, D, rfl, ⟨_, SqL.of hD3⟩, fun D2 hD2n => ?_⟩
    have nD2 : H D2 = none := by
      cases z : H D2 with
      | none => rfl
      | some o => rw [kq _ _ (kH _ _ z)] at hD2n; cases hD2n
    refine raw_lc (f := fun n => n) (keep := fun n => decide (10 ^ (16 : Int).toNat ≤ n)) (SqL.of hD3) hD2n (by rw [sizeLine_eq]; omega) (fun n H4 _ => ⟨v_ge (i := n) (j := 10 ^ (16 : Int).toNat) (val_var rfl) (v_pow (i := 10) (j := 16) val_c val_c ⟨by decide, by decide, by decide⟩), val_var (v := .int n) rfl⟩) fun H4 hg4 k4 => ?_
    refine ⟨.int s, rfl, k4 _ _ hq3, [(kS "great", .ref D2), (kS "stirred", .int s), (kS "turn", .int 0)], rfl, (show 3 ≤ 15 by decide), ?_⟩
    have em : mergeK [] [(kS "great", V.ref D2), (kS "stirred", .int s), (kS "turn", .int 0)] = kvA D2 s 0 := rfl
    rw [em]
    have nqD : q ≠ D2 := fun z => by rw [← z, hq3] at hD2n; cases hD2n
    refine hq q D2 _ nq nD2 (fun b o e => ?_) ⟨rfl, rfl, nqD, _, _, upd_same, by rw [upd_ne (Ne.symm nqD)]; exact hg4, ?_⟩
    · rw [upd_ne (fun z => by rw [z, nq] at e; cases e)]
      exact k4 _ _ (kq _ _ (kH _ _ e))
    · rw [hg]
      refine ⟨s, 0, _, rfl, rfl, s1, s2, fun x hx => ?_, ?_⟩
      · rw [List.map_id'] at hx
        exact c0 x (List.mem_filter.mp hx).1
      · rw [List.length_map]
        exact Nat.le_trans (List.length_filter_le _ _) (by omega)
end Dl

namespace Dl
open PySem PySem.Spec PyProof.Rows L2
open PySem.W (Frag)

/-! ### an own error whose __init__ says super().__init__(text) -/
def sA (p1 : Pos) : Arguments := { posonlyargs := [], args := [{ arg := "self", annotation := none, pos := p1 }], vararg := none, kwonlyargs := [], kw_defaults := [], kwarg := none, defaults := [] }
def sA1 (f : Str) (p1 p2 : Pos) : Arguments := { posonlyargs := [], args := [{ arg := "self", annotation := none, pos := p1 }, { arg := f, annotation := none, pos := p2 }], vararg := none, kwonlyargs := [], kw_defaults := [], kwarg := none, defaults := [] }
def sLine (m : Str) (p0 p1 p2 p3 p4 p5 : Pos) (j : Nat) : Stmt := .Expr (.Call (.Attribute (.Call (.Name "super" p0) [] [] p1) "__init__" p2) [.Constant (.str m) j p3] [] p4) p5
def sSet (f : Str) (q1 q2 q3 q4 : Pos) : Stmt := .Assign [.Attribute (.Name "self" q1) f q2] (.Name f q3) q4
def sSc : Scope := { kind := .function, names := [(PySem.Str.ofString "self", .local), (PySem.Str.ofString "__class__", .free), (PySem.Str.ofString "super", .globalImplicit)], isGenerator := false, isCoroutine := false, more := [] }
def sSc1 (f : Str) : Scope := { kind := .function, names := [(PySem.Str.ofString "self", .local), (f, .local), (PySem.Str.ofString "__class__", .free), (PySem.Str.ofString "super", .globalImplicit)], isGenerator := false, isCoroutine := false, more := [] }

/-- what the class at C and its __init__ at fI say -/
structure SupC (K : Frag) (mg : Str → Option Value) (cn : Str) (C fI : Addr) : Prop where
  gC : mg cn = some (.ref C)
  kC : PySem.W.keepIn K (.ref C) = true
  cls : ∃ nm q N bs bm sn sub ab col dd k0 k1 k2 k3 k5, K.lookup C = some (excClassObj nm q C N bs bm true sn sub ab col dd k0 k1 k2 k3 k5 "ValueError.__new__") ∧ HandSPX.refsVE bm = true
  iC : PySem.W.findIn K (.ref C) "__init__" = some (some (.ref fI))
  tI : PySem.W.typeIn K (.ref fI) = some (.type "function")
  exC : PySem.W.subIn K (.ref C) (.type "BaseException") = some true
  tyC : PySem.W.typeIn K (.ref C) = some (.type "type")
  sup : PySem.W.ks_superIn K C C "__init__" = some (some (.builtin "ValueError.__init__"))
  subV : PySem.W.subIn K (.ref C) (.type "ValueError") = some true
  self : PySem.W.mroIn K C (.ref C) = some true
  opq : PySem.W.nsIn K cStatics "thirdparty.any" = some none
  nosup : mg "super" = none
/-- its __init__'s text -/
structure SupF (K : Frag) (prog : Program) (C fI : Addr) (params : Arguments) (body : List Stmt) (scope : Scope) : Prop where
  ex : ∃ (oc : Value) (od : Option Addr) (osl : Array (Option Value)) (qual : Str) (kV doc pm ct : Value) (an : Option Addr) (cda cc : Addr) (ccl : Value) (cdd : Option Addr) (vs : Array Value) (ccs : Array (Option Value)) (file : Str) (tf : Tok) (cl : Value) (cld : Option Addr) (csl : Array (Option Value)),
    K.lookup fI = some ⟨oc, od, .func (PySem.W.ksFn "__init__" qual params body scope .none kV doc pm an (.ref cda) ct cc), osl⟩ ∧ PySem.W.codeIn K (.ref cda) qual = true ∧ K.lookup cda = some ⟨ccl, cdd, .fields vs, ccs⟩ ∧ vs[2]? = some (.str file tf) ∧
    ((prog.main.file : Str) == file) = true ∧ K.lookup cc = some ⟨cl, cld, .cell (some (.ref C)), csl⟩ ∧ (prog.main.scope.names.lookup ("super" : Str)).isSome = false
/-- what stands around -/
structure Ard (K : Frag) (mg : Str → Option Value) (h : Heap) : Prop where
  kin : K.In h
  glob : h.Ns mainGlobals mg
  blt : ∃ mb, h.Ns builtinsNs mb ∧ ∀ x : Str, x ≠ "__name__" → mb x = bootBuiltins x
  nolimit : h.NoLimit
theorem Ard.keeps {K : Frag} {mg : Str → Option Value} {h h' : Heap} (a : Ard K mg h) (k : ∀ b o, h.get? b = some o → h'.get? b = some o) : Ard K mg h' :=
  ⟨a.kin.keeps k, a.glob.keeps k, let ⟨mb, h1, h2⟩ := a.blt; ⟨mb, h1.keeps k, h2⟩, a.nolimit.keeps k⟩
theorem one_le (v : Value) : [v].length ≤ sizeLine := by rw [sizeLine_eq]; exact (by decide : 1 ≤ 16777216)
theorem nil_le : ([] : List Value).length ≤ sizeLine := by rw [sizeLine_eq]; exact (by decide : 0 ≤ 16777216)
section
variable {prog : Program} {w : World} {A : Around} {E : Value → Shared → Prop} {h : Heap} {g : Array GenState} {d : Drawn} {t : Nat} {os : OsState}
variable {nm q : Str} {C N : Addr} {bs bm : List Value} {hdct : Bool} {sn : List Str} {sub : List Value} {ab : Bool} {col : Option Bool} {dd : Option Addr} {k0 k1 k2 k3 k5 : Option Value}
/-- the bound built-in __init__ is called -/
theorem call_mw {u e t0 : Addr} {rest : List Value} {Q : Value → Shared → Prop} (hC : h.get? C = some (excClassObj nm q C N bs bm hdct sn sub ab col dd k0 k1 k2 k3 k5 "ValueError.__new__")) (he : h.get? e = some (HandSPX.excO C t0))
    (hu : h.get? u = some (PySem.W.kxs_mw "ValueError.__init__" e)) (hrest : rest.length ≤ sizeLine)
    (hq : ∀ h' t1, (∀ b o, b ≠ e → h.get? b = some o → h'.get? b = some o) → h'.get? e = some (HandSPX.excO C t1) → Q .none ⟨h', g, d, t, os⟩) : wpAny (model prog w) A (call (.ref u) rest) Q E ⟨h, g, d, t, os⟩ := by
  refine wpAny_call (codeAny_of_tree ?_)
  show wpAny _ A.in1 (callAny (.ref u) ⟨rest, []⟩) _ _ _
  simp only [callAny]
  refine wpAny_bind (wpAny_load hu ?_)
  simp only [PySem.W.kxs_mw, show (Value.type "method-wrapper" == Value.type "method" || Value.type "method-wrapper" == Value.type "builtin_function_or_method" || Value.type "method-wrapper" == Value.type "method-wrapper") = true by decide, if_true]
  refine W.KFB.if_so (by decide) ?_
  refine wpAny_bind (W.check_bound_init PySem.F.excBase_ValueError.toExcCallFacts hC he rfl ?_)
  refine wpAny_bind (wpAny_pure (wpAny_pure ?_))
  refine ⟨Code.quiet_builtin _ (by decide +kernel), codeAny_builtin PySem.F.excBase_ValueError.initEntry ?_⟩
  rw [Around.under_plainId PySem.F.excBase_ValueError.init.plain _]
  wp_walk
  refine hq _ h.objs.size (fun b o hb ho => ?_) ?_
  · rw [Heap.get?_update_other _ _ (Ne.symm hb)]
    exact Heap.get?_push_of_some _ ho
  · rw [Heap.get?_update_self _ (Heap.get?_push_of_some _ he) rfl]
    rfl
end
section
variable {prog : Program} {w : World} {A : Around} {E : Value → Shared → Prop} {R : Result → Shared → Prop} {s : Shared} {K : Frag} {mg : Str → Option Value} {cn : Str} {C fI : Addr}
/-- the line super().__init__(text) in a frame whose self is x -/
theorem sup_line {params : Arguments} {body0 : List Stmt} {scope : Scope} {qual : Str} {dV kV doc pm ct : Value} {an : Option Addr} {cda cc L : Addr} {m : Str → Option Value} {txt : Str} {p0 p1 p2 p3 p4 p5 : Pos} {j : Nat} {x t0 : Addr} {ar : Arg} {body : List Stmt} {Q : Flow → Shared → Prop}
    {oc : Value} {od : Option Addr} {osl : Array (Option Value)} {ccl : Value} {cdd : Option Addr} {vs : Array Value} {ccs : Array (Option Value)} {file : Str} {tf : Tok} {cl : Value} {cld : Option Addr} {csl : Array (Option Value)}
    (T : SupC K mg cn C fI) (hf : K.lookup fI = some ⟨oc, od, .func (PySem.W.ksFn "__init__" qual params body0 scope dV kV doc pm an (.ref cda) ct cc), osl⟩) (hcode : K.lookup cda = some ⟨ccl, cdd, .fields vs, ccs⟩) (hvs : vs[2]? = some (.str file tf)) (hfile : ((prog.main.file : Str) == file) = true)
    (hcell : K.lookup cc = some ⟨cl, cld, .cell (some (.ref C)), csl⟩) (htop : (prog.main.scope.names.lookup ("super" : Str)).isSome = false) (hp : (params.posonlyargs ++ params.args).head? = some ar) (har : ar.arg = "self")
    (hk : scope.kind = .function) (hks : scope.names.lookup ("super" : Str) = some .globalImplicit) (hkc : scope.names.lookup ("__class__" : Str) = some .free) (hka : scope.names.lookup ("self" : Str) = some .local)
    (Y : Ard K mg s.heap) (hx : s.heap.get? x = some (HandSPX.excO C t0)) (hn : s.heap.Ns L m) (hm : m "self" = some (.ref x))
    (hpl : interactive (PySem.W.ksEnv qual scope L fI (.ref cda) cc) = false) (hsw : swapsWith (.Call (.Attribute (.Call (.Name "super" p0) [] [] p1) "__init__" p2) [.Constant (.str txt) j p3] [] p4) none p5.line (PySem.W.ksEnv qual scope L fI (.ref cda) cc) = pure false)
    (hee : eval (.Call (.Attribute (.Call (.Name "super" p0) [] [] p1) "__init__" p2) [.Constant (.str txt) j p3] [] p4) (PySem.W.ksEnv qual scope L fI (.ref cda) cc) = (do
      let ov ← attributeBase (.Call (.Name "super" p0) [] [] p1) "__init__" (PySem.W.ksEnv qual scope L fI (.ref cda) cc) (eval (.Call (.Name "super" p0) [] [] p1) (PySem.W.ksEnv qual scope L fI (.ref cda) cc))
      standAt p2.atName
      let (f, first) ← holding [ov] (getMethod ov "__init__" (plainOf (.Call (.Name "super" p0) [] [] p1) (PySem.W.ksEnv qual scope L fI (.ref cda) cc)))
      callWith p4 f first (backTo p4 (starEach [.Constant (.str txt) j p3] (PySem.W.ksEnv qual scope L fI (.ref cda) cc))) []))
    (hq : ∀ h' tk t1, (∀ b o, b ≠ x → s.heap.get? b = some o → h'.get? b = some o) → h'.get? x = some (HandSPX.excO C t1) → Q .next { s with heap := h', toks := tk }) :
    _root_.PySem.wpAt (model prog w) A (.func body (PySem.W.ksEnv qual scope L fI (.ref cda) cc)) (exec (sLine txt p0 p1 p2 p3 p4 p5 j) (PySem.W.ksEnv qual scope L fI (.ref cda) cc)) Q E s := by
  obtain ⟨nm, q, N, bs, bm, sn, sub, ab, col, dd, k0, k1, k2, k3, k5, hC, hbm⟩ := T.cls
  obtain ⟨hh, g, d, t, os⟩ := s
  have X := Y.kin
  have I : PySem.W.InstAt hh x (HandSPX.excO C t0) C none := ⟨hx, rfl, rfl, trivial⟩
  have hD : hh.get? C = some (excClassObj nm q C N bs bm true sn sub ab col dd k0 k1 k2 k3 k5 "ValueError.__new__") := X _ _ hC
  refine PySem.ks_wpAt_Expr_any ?_ hpl hsw
  refine PySem.ks_wpAt_MethodCall (pl := plainOf (.Call (.Name "super" p0) [] [] p1) (PySem.W.ksEnv qual scope L fI (.ref cda) cc)) ?_ hee
  refine PySem.ks_wpAt_super_base (env := PySem.W.ksEnv qual scope L fI (.ref cda) cc) hks hkc (by decide) rfl (X _ _ hf) rfl hp rfl (X _ _ hcode) rfl hvs hfile htop ?_
  obtain ⟨mb, b1, b2⟩ := Y.blt
  refine PySem.W.ks_loadName_global hk hks (Calls.loadGlobal_builtin (env := PySem.W.ksEnv qual scope L fI (.ref cda) cc) Y.glob T.nosup b1 ((b2 "super" (by decide)).trans (by decide +kernel)) ⟨rfl, ?_⟩)
  refine wpAny_loadName_free hk hkc rfl ⟨_, X _ _ hcell, rfl⟩ ?_
  rw [har]
  refine wpAny_loadName_local hk hka hn hm ?_
  refine PySem.ks_wpAny_isType_cls hD rfl ⟨rfl, ?_⟩
  refine PySem.ks_wpAny_call_super hD rfl hx rfl (fun c e => ?_) (PySem.W.looks_mroIn X T.self) (fun h1 e1 k1 => ?_)
  · cases e
  have X1 : K.In h1 := X.keeps k1
  cases hc : PySem.W.clsIn K C with
  | none => have := T.sup; unfold PySem.W.ks_superIn at this; rw [hc] at this; cases this
  | some cd =>
    have hm2 := T.sup
    unfold PySem.W.ks_superIn at hm2
    rw [hc] at hm2
    have I1 : PySem.W.InstAt h1 x (HandSPX.excO C t0) C none := ⟨k1 _ _ hx, rfl, rfl, trivial⟩
    refine PySem.W.kxs_getMethod PySem.W.kxs_ValueError e1 (PySem.W.looks_opaque X1 T.opq) (l₀ := cd.mro) (fun A Q E s k q => wpAny_bind ((PySem.W.looks_clsIn X1 hc) A _ E s k (wpAny_pure q))) rfl X1 hm2 (I1.type.andThen (PySem.W.looks_subIn X1 T.subV)) (PySem.W.ks_ne X1 I1 hc) (by decide) ?_
    have e2 : (h1.push (PySem.W.kxs_mw "ValueError.__init__" x)).get? h1.objs.size = some (PySem.W.kxs_mw "ValueError.__init__" x) := Heap.get?_push_at rfl rfl
    have k2' : ∀ b o, h1.get? b = some o → (h1.push (PySem.W.kxs_mw "ValueError.__init__" x)).get? b = some o := fun b o e => Heap.get?_push_of_some _ e
    generalize h1.push (PySem.W.kxs_mw "ValueError.__init__" x) = h2 at e2 k2'
    generalize h1.objs.size = u at e2
    show wpAny (model prog w) A (callWith p4 (.ref u) [] ((false, eval (.Constant (.str txt) j p3) (PySem.W.ksEnv qual scope L fI (.ref cda) cc)) :: backTo p4 (starEach [] (PySem.W.ksEnv qual scope L fI (.ref cda) cc))) []) _ _ _
    refine PySem.W.kxs_callWith (i := "ValueError.__init__") (x := x) rfl (Calls.evalArgs_plain ?_)
    refine Calls.spliced_cons (wpAny_Constant_str (Calls.spliced_nil ?_))
    refine ⟨e2, ?_⟩
    refine call_mw (k2' _ _ (k1 _ _ hD)) (k2' _ _ (k1 _ _ hx)) e2 (one_le _) fun h' t1 kk hx' => ?_
    exact hq h' _ t1 (fun b o hb e => kk b o hb (k2' _ _ (k1 _ _ e))) hx'
end
end Dl

namespace Dl
open PySem PySem.Spec PyProof.Rows L2
open PySem.W (Frag)
theorem in_but {K : Frag} {h h' : Heap} {x : Addr} (X : K.In h) (hx : K.lookup x = none) (k : ∀ b o, b ≠ x → h.get? b = some o → h'.get? b = some o) : K.In h' := fun a o e =>
  k a o (fun z => by rw [z, hx] at e; cases e) (X a o e)
theorem sSc_cell : ∀ x ∈ sSc.names, x.2 ≠ .cell := by decide
section
variable {prog : Program} {w : World} {A : Around} {E : Value → Shared → Prop} {R : Result → Shared → Prop} {s : Shared} {K : Frag} {mg : Str → Option Value} {cn : Str} {C fI : Addr}
theorem init0 {txt : Str} {pp p0 p1 p2 p3 p4 p5 : Pos} {j : Nat} (T : SupC K mg cn C fI) (S : SupF K prog C fI (sA pp) [sLine txt p0 p1 p2 p3 p4 p5 j] sSc) {x t0 : Addr} (Y : Ard K mg s.heap) (hx : s.heap.get? x = some (HandSPX.excO C t0)) (hroom : A.depth < recursionLimit)
    (hq : ∀ h' tk t1, (∀ b o, b ≠ x → s.heap.get? b = some o → h'.get? b = some o) → h'.get? x = some (HandSPX.excO C t1) → R (.ok (.ret .none)) { s with heap := h', toks := tk })
    (hl : (p2.endLine == p4.line) = true := by rfl) :
    codeAny (model prog w) A (.call (.ref fI) ⟨[.ref x], []⟩) R s := by
  obtain ⟨oc, od, osl, qual, kV, doc, pm, ct, an, cda, cc, ccl, cdd, vs, ccs, file, tf, cl, cld, csl, hf, hcd, hcode, hvs, hfile, hcell, htop⟩ := S.ex
  refine PySem.ks_codeAny_call_defAt (fd := PySem.W.ksFn "__init__" qual (sA pp) [sLine txt p0 p1 p2 p3 p4 p5 j] sSc .none kV doc pm an (.ref cda) ct cc) (body := [sLine txt p0 p1 p2 p3 p4 p5 j]) (binds := [("self", .ref x)]) hroom (Y.kin _ _ hf) rfl Y.nolimit (PySem.W.codeRec_of Y.kin hcd) rfl
    (BindsTo.of_eq (by first | rfl | with_unfolding_all rfl)) sSc_cell (fun y hy => by rw [List.mem_singleton.mp hy]; rfl) (fun h0 hns keep => ?_)
  refine PySem.ks_wpAt_execs_cons ?_
  have Y0 : Ard K mg h0 := Y.keeps keep
  refine sup_line (s := ⟨h0, s.gens, s.drawn, s.toks + 1, s.os⟩) (L := s.heap.objs.size) T hf hcode hvs hfile hcell htop rfl rfl rfl rfl rfl rfl Y0 (keep _ _ hx) hns (by first | rfl | with_unfolding_all rfl | decide) rfl rfl ?_ fun h1 tk t1 k1 e1 => ?_
  · rw [PySem.arm_eval_Call]
    refine bind_congr fun ov => bind_congr fun _ => ?_
    exact mcall_line rfl hl
  · exact PySem.wpAt_of_wpAny (wpAny_execs_nil (hq h1 tk t1 (fun b o hb e => k1 b o hb (keep _ _ e)) e1))

theorem init1 {f txt : Str} {pp pq p0 p1 p2 p3 p4 p5 q1 q2 q3 q4 : Pos} {j : Nat} (T : SupC K mg cn C fI) (S : SupF K prog C fI (sA1 f pp pq) [sLine txt p0 p1 p2 p3 p4 p5 j, sSet f q1 q2 q3 q4] (sSc1 f)) {x t0 : Addr} {v : Value} (Y : Ard K mg s.heap) (hnx : K.lookup x = none)
    (hx : s.heap.get? x = some (HandSPX.excO C t0)) (hroom : A.depth < recursionLimit) (hsa : PySem.W.findIn K (.ref C) "__setattr__" = some (some (.builtin "object.__setattr__"))) (hno : PySem.W.findIn K (.ref C) f = some none)
    (hb : ∀ (qual : Str) (kV doc pm ct : Value) (an : Option Addr) (cda cc : Addr), bindArgs (PySem.W.ksFn "__init__" qual (sA1 f pp pq) [sLine txt p0 p1 p2 p3 p4 p5 j, sSet f q1 q2 q3 q4] (sSc1 f) .none kV doc pm an (.ref cda) ct cc) ⟨[.ref x, v], []⟩ = pure [(("self" : Str), Value.ref x), (f, v)])
    (hf1 : (sSc1 f).names.lookup f = some .local) (hfs : (f == ("self" : Str)) = false) (hfd : (f == ("__debug__" : Str)) = false) (hcl : (sSc1 f).names.lookup ("__class__" : Str) = some .free) (hsu : (sSc1 f).names.lookup ("super" : Str) = some .globalImplicit)
    (hq : ∀ h' tk t1 dx, (∀ b o, b ≠ x → s.heap.get? b = some o → h'.get? b = some o) → h'.get? x = some { cls := .ref C, dict := some dx, data := .fields #[.ref t1, .none, .none, .none, .bool false, .none] } → s.heap.objs.size ≤ dx → dx ≠ x →
      h'.Ns1 dx (fun y => if y = f then some v else none) → R (.ok (.ret .none)) { s with heap := h', toks := tk })
    (hl : (p2.endLine == p4.line) = true := by rfl) :
    codeAny (model prog w) A (.call (.ref fI) ⟨[.ref x, v], []⟩) R s := by
  obtain ⟨oc, od, osl, qual, kV, doc, pm, ct, an, cda, cc, ccl, cdd, vs, ccs, file, tf, cl, cld, csl, hf, hcd, hcode, hvs, hfile, hcell, htop⟩ := S.ex
  obtain ⟨nm, q, N, bs, bm, sn, sub, ab, col, dd, k0, k1', k2, k3, k5, hC, hbm⟩ := T.cls
  have hcl2 : PySem.W.clsIn K C = some { name := nm, bases := bs, mro := .ref C :: bm, ns := N, qualname := q, hasDict := true, slotNames := sn, subclasses := sub, abstract := ab, collection := col, hasDel := false } := by unfold PySem.W.clsIn; rw [hC] <;> rfl
  refine PySem.ks_codeAny_call_defAt (fd := PySem.W.ksFn "__init__" qual (sA1 f pp pq) [sLine txt p0 p1 p2 p3 p4 p5 j, sSet f q1 q2 q3 q4] (sSc1 f) .none kV doc pm an (.ref cda) ct cc) (body := [sLine txt p0 p1 p2 p3 p4 p5 j, sSet f q1 q2 q3 q4]) (binds := [("self", .ref x), (f, v)]) hroom (Y.kin _ _ hf) rfl Y.nolimit (PySem.W.codeRec_of Y.kin hcd) rfl
    (BindsTo.of_eq (hb _ _ _ _ _ _ _ _)) (fun y hy => by
      rcases List.mem_cons.mp hy with rfl | hy
      · exact fun z => nomatch z
      rcases List.mem_cons.mp hy with rfl | hy
      · exact fun z => nomatch z
      rcases List.mem_cons.mp hy with rfl | hy
      · exact fun z => nomatch z
      rw [List.mem_singleton.mp hy]
      exact fun z => nomatch z) (fun y hy => by
      rcases List.mem_cons.mp hy with rfl | hy
      · rfl
      · rw [List.mem_singleton.mp hy]; exact hf1) (fun h0 hns keep => ?_)
  refine PySem.ks_wpAt_execs_cons ?_
  have Y0 : Ard K mg h0 := Y.keeps keep
  have sel : List.lookup ("self" : Str) [(f, v), (("self" : Str), Value.ref x)] = some (.ref x) := by
    show (match (("self" : Str) == f) with | true => some v | false => List.lookup ("self" : Str) [(("self" : Str), Value.ref x)]) = _
    have e : (("self" : Str) == f) = false := by
      cases q : (("self" : Str) == f) with
      | false => rfl
      | true => rw [beq_iff_eq.mp q, beq_self_eq_true] at hfs; cases hfs
    rw [e]; rfl
  have fel : List.lookup f [(f, v), (("self" : Str), Value.ref x)] = some v := by
    show (match (f == f) with | true => some v | false => _) = _
    rw [beq_self_eq_true]
  refine sup_line (s := ⟨h0, s.gens, s.drawn, s.toks + 2, s.os⟩) (L := s.heap.objs.size) T hf hcode hvs hfile hcell htop rfl rfl rfl hsu hcl rfl Y0 (keep _ _ hx) hns sel rfl rfl ?_ fun h1 tk t1 kk e1 => ?_
  · rw [PySem.arm_eval_Call]
    refine bind_congr fun ov => bind_congr fun _ => ?_
    exact mcall_line rfl hl
  · refine PySem.wpAt_of_wpAny ?_
    have hxL : s.heap.objs.size ≠ x := Nat.ne_of_gt (Heap.lt_size hx)
    have hn1 : h1.Ns s.heap.objs.size (fun y => List.lookup y [(f, v), (("self" : Str), Value.ref x)]) := hns.at fun o e => kk _ _ hxL e
    have X1 : K.In h1 := in_but Y0.kin hnx kk
    refine wpAny_execs_cons (plainObj_wpAny_Assign_Attribute ?_)
    refine wpAny_Name (wpAny_loadName_local rfl hf1 hn1 fel ?_) hfd
    refine wpAny_Name (wpAny_loadName_local rfl rfl hn1 sel ?_) (by decide)
    refine PySem.W.set_plain X1 (ox := HandSPX.excO C t1) (od := none) ⟨e1, rfl, rfl, trivial⟩ hsa ?_
    refine HandSPX.exc_osa X1 e1 hcl2 (show HandSPX.refsVE (.ref C :: bm) = true from hbm) rfl hno fun h3 tk3 dx k3 dn dne hx3 hn3 => ?_
    show wpAny _ _ (execs _ _) _ _ _
    have z : s.heap.objs.size < h1.objs.size := hn1.lt
    exact wpAny_execs_nil (hq h3 tk3 t1 dx (fun b o hb e => k3 b o hb (kk b o hb (keep _ _ e))) hx3 (Nat.le_of_lt (Nat.lt_of_lt_of_le z dn)) dne hn3)
/-- C() -/
theorem made0 {txt : Str} {pp p0 p1 p2 p3 p4 p5 : Pos} {j : Nat} (T : SupC K mg cn C fI) (S : SupF K prog C fI (sA pp) [sLine txt p0 p1 p2 p3 p4 p5 j] sSc) (Y : Ard K mg s.heap) (hroom : A.depth + 1 < recursionLimit)
    (hq : ∀ h' tk t1, (∀ b o, s.heap.get? b = some o → h'.get? b = some o) → h'.get? (s.heap.objs.size + 1) = some (HandSPX.excO C t1) → R (.ok (.ret (.ref (s.heap.objs.size + 1)))) { s with heap := h', toks := tk })
    (hl : (p2.endLine == p4.line) = true := by rfl) : codeAny (model prog w) A (.call (.ref C) ⟨[], []⟩) R s := by
  obtain ⟨nm, q, N, bs, bm, sn, sub, ab, col, dd, k0, k1, k2, k3, k5, hC, hbm⟩ := T.cls
  obtain ⟨hp, g, dr, tk, os⟩ := s
  have k : ∀ b o, hp.get? b = some o → ((hp.push (PySem.W.kdv_tup [])).push (HandSPX.excO C hp.objs.size)).get? b = some o := fun b o e => Heap.get?_push_of_some _ (Heap.get?_push_of_some _ e)
  have hget : ((hp.push (PySem.W.kdv_tup [])).push (HandSPX.excO C hp.objs.size)).get? (hp.objs.size + 1) = some (HandSPX.excO C hp.objs.size) := by heap_get
  refine HandSPX.call_own PySem.F.excBase_ValueError (fun X => HandSPX.refsVE_contains X bm hbm) (Y.kin _ _ hC) (PySem.W.looks_findIn Y.kin T.iC) (fun self => PySem.W.bind_fn Y.kin self T.tI) nil_le ?_
  refine init0 (s := ⟨(hp.push (PySem.W.kdv_tup [])).push (HandSPX.excO C hp.objs.size), g, dr, tk, os⟩) T S (Y.keeps k) hget ?_ (fun h' tk' t1 k' hx => ?_) hl
  · show A.depth + 1 < recursionLimit
    exact hroom
  · exact ⟨rfl, hq h' tk' t1 (fun b o e => k' b o (Nat.ne_of_lt (Nat.lt_succ_of_lt (Heap.lt_size e))) (k b o e)) hx⟩
/-- C(v) -/
theorem made1 {f txt : Str} {pp pq p0 p1 p2 p3 p4 p5 q1 q2 q3 q4 : Pos} {j : Nat} (T : SupC K mg cn C fI) (S : SupF K prog C fI (sA1 f pp pq) [sLine txt p0 p1 p2 p3 p4 p5 j, sSet f q1 q2 q3 q4] (sSc1 f)) {v : Value} (Y : Ard K mg s.heap) (hroom : A.depth + 1 < recursionLimit)
    (hsa : PySem.W.findIn K (.ref C) "__setattr__" = some (some (.builtin "object.__setattr__"))) (hno : PySem.W.findIn K (.ref C) f = some none)
    (hb : ∀ (x : Addr) (qual : Str) (kV doc pm ct : Value) (an : Option Addr) (cda cc : Addr), bindArgs (PySem.W.ksFn "__init__" qual (sA1 f pp pq) [sLine txt p0 p1 p2 p3 p4 p5 j, sSet f q1 q2 q3 q4] (sSc1 f) .none kV doc pm an (.ref cda) ct cc) ⟨[.ref x, v], []⟩ = pure [(("self" : Str), Value.ref x), (f, v)])
    (hf1 : (sSc1 f).names.lookup f = some .local) (hfs : (f == ("self" : Str)) = false) (hfd : (f == ("__debug__" : Str)) = false) (hcl : (sSc1 f).names.lookup ("__class__" : Str) = some .free) (hsu : (sSc1 f).names.lookup ("super" : Str) = some .globalImplicit)
    (hq : ∀ h' tk t1 dx, (∀ b o, s.heap.get? b = some o → h'.get? b = some o) → h'.get? (s.heap.objs.size + 1) = some { cls := .ref C, dict := some dx, data := .fields #[.ref t1, .none, .none, .none, .bool false, .none] } → s.heap.objs.size ≤ dx → dx ≠ s.heap.objs.size + 1 →
      h'.Ns1 dx (fun y => if y = f then some v else none) → R (.ok (.ret (.ref (s.heap.objs.size + 1)))) { s with heap := h', toks := tk })
    (hl : (p2.endLine == p4.line) = true := by rfl) : codeAny (model prog w) A (.call (.ref C) ⟨[v], []⟩) R s := by
  obtain ⟨nm, q, N, bs, bm, sn, sub, ab, col, dd, k0, k1, k2, k3, k5, hC, hbm⟩ := T.cls
  obtain ⟨hp, g, dr, tk, os⟩ := s
  have k : ∀ b o, hp.get? b = some o → ((hp.push (PySem.W.kdv_tup [v])).push (HandSPX.excO C hp.objs.size)).get? b = some o := fun b o e => Heap.get?_push_of_some _ (Heap.get?_push_of_some _ e)
  have hget : ((hp.push (PySem.W.kdv_tup [v])).push (HandSPX.excO C hp.objs.size)).get? (hp.objs.size + 1) = some (HandSPX.excO C hp.objs.size) := by heap_get
  have hnx : K.lookup (hp.objs.size + 1) = none := by
    cases e : K.lookup (hp.objs.size + 1) with
    | none => rfl
    | some o => exact absurd (Nat.lt_of_succ_lt (Heap.lt_size (show hp.get? (hp.objs.size + 1) = some o from Y.kin _ _ e))) (Nat.lt_irrefl _)
  refine HandSPX.call_own PySem.F.excBase_ValueError (fun X => HandSPX.refsVE_contains X bm hbm) (Y.kin _ _ hC) (PySem.W.looks_findIn Y.kin T.iC) (fun self => PySem.W.bind_fn Y.kin self T.tI) (one_le v) ?_
  refine init1 (s := ⟨(hp.push (PySem.W.kdv_tup [v])).push (HandSPX.excO C hp.objs.size), g, dr, tk, os⟩) T S (Y.keeps k) hnx hget ?_ hsa hno (hb _) hf1 hfs hfd hcl hsu (fun h' tk' t1 dx k' hx dn dne hns => ?_) hl
  · show A.depth + 1 < recursionLimit
    exact hroom
  · have z : hp.objs.size + 1 + 1 ≤ dx := by
      have q := dn
      rw [Heap.size_push, Heap.size_push] at q
      exact q
    exact ⟨rfl, hq h' tk' t1 dx (fun b o e => k' b o (Nat.ne_of_lt (Nat.lt_succ_of_lt (Heap.lt_size e))) (k b o e)) hx (Nat.le_trans (Nat.le_trans (Nat.le_succ _) (Nat.le_succ _)) z) dne hns⟩
end
end Dl

namespace Dl
open PySem PySem.Spec PyProof.Rows L2
open PySem.W (Frag)
section
variable {X : Cx} {C fI : Addr} {cn : Str} {k : Nat} {p pos pos2 : Pos}
theorem Inv.ard {pins : List (Addr × Obj)} {σ : L2.St} {H : Hp} {s : Shared} (I : Inv X pins σ H s) : Ard X.K X.mg s.heap :=
  ⟨I.kIn, I.mod.glob.keeps I.bk, let ⟨mb, h1, h2⟩ := I.mod.blt; ⟨mb, h1.keeps I.bk, h2⟩, I.nolimit⟩
/-- C() -/
theorem pmk0 {txt : Str} {pp p0 p1 p2 p3 p4 p5 : Pos} {j : Nat} (T : SupC X.K X.mg cn C fI) (S : SupF X.K X.prog C fI (sA pp) [sLine txt p0 p1 p2 p3 p4 p5 j] sSc) (hr : Room k X.A) (hg : Gl X cn := by rfl) (hd : (cn == ("__debug__" : Str)) = false := by decide) (hl : (p2.endLine == p4.line) = true := by rfl) :
    PMk X (.Call (.Name cn p) [] [] pos) (fun _ H Q => Q (.ref C) none H) := by
  intro pins s σ H Q I h
  refine wpAny_Call_Name_kw (ld_glob I hg T.gC ?_ hd)
  refine PySem.W.callWith_K0 I.kIn T.kC ?_
  show wpAny _ _ (call (.ref C) []) _ _ _
  have Y := Dl.Inv.ard I
  obtain ⟨hp, g, dr, tk, os⟩ := s
  refine wpAny_call (made0 T S Y (by have := hr.dp; omega) (fun h' tk' t1 k' hx => ?_) hl)
  exact ⟨_, _, _, ⟨hp, g, dr, tk, os⟩, H, .ref C, none, rfl, I, k', by
    cases e : hp.get? (hp.objs.size + 1) with
    | none => rfl
    | some o => exact absurd (Nat.lt_of_succ_lt (Heap.lt_size e)) (Nat.lt_irrefl _), hx, ⟨rfl, rfl⟩, rfl, rfl, I.hok.fresh (Nat.le_succ _), rfl, I.bare, raises_own T.exC T.tyC, h⟩
variable {G : DG} {W : WX}
/-- raise C() -/
theorem evs_raise0 {txt : Str} {pp p0 p1 p2 p3 p4 p5 : Pos} {j : Nat} (c : Ctx0 G X) (T : SupC G.K G.mg cn C fI) (S : SupF G.K X.prog C fI (sA pp) [sLine txt p0 p1 p2 p3 p4 p5 j] sSc) (hr : Room k X.A) (tk : Takes X W) (hc : X.calm = true := by rfl) (hg : Gl X cn := by rfl)
    (hd : (cn == ("__debug__" : Str)) = false := by decide) (hl : (p2.endLine == p4.line) = true := by rfl) : EvS G W X (.Raise (some (.Call (.Name cn p) [] [] pos)) none pos2) (fun env P => P.ex ⟨cn, []⟩ env) := ⟨PS.imp (ps_raise hc tk (pmk0 (by rw [c.K, c.mg]; exact T) (by rw [c.K]; exact S) hr hg hd hl)) fun D σ H q => by
  obtain ⟨C', dk, F, env, P, rfl, o, hw, f⟩ := q
  exact f.ex _ _ _ _ _ _ _ _ hw o ⟨C, T.gC, rfl, rfl⟩⟩
end
/-! ### try .. except X as n -/
section
variable {G : DG} {W : WX} {X : Cx} {x n : Str} {c : Value} {i : Nat} {body suite : List Stmt} {b₀ : Stmt} {np pos pos' : Pos}
/-- what the suite is to reach -/
def Pd.sub (P : Pd) (i : Nat) : Pd := { nx := fun e => P.nx (e.set i .no), rt := P.rt, bk := fun e => P.bk (e.set i .no), ct := fun e => P.ct (e.set i .no), ex := fun _ _ => False }
def wTryAs (g : DG) (em : Str → Option Bool) (i : Nat) (wb : WS) (ws : Addr → Value → Option Addr → WS) : WS := fun env P => wb env { P with ex := fun x e => match em x.cls with
  | some true => ∀ a cls d, (∃ ax, g.mg x.cls = some (.ref ax) ∧ cls = .ref ax) → (x.val = [] → d = none) → ws a cls d (e.set i (.opq (.ref a))) (P.sub i)
  | some false => P.ex x e
  | none => False }
theorem XOk.cls {C : DC} {F H : Hp} {x : Exn} {cls : Value} {d : Option Addr} (h : XOk C F H x cls d) : (∃ ax, C.g.mg x.cls = some (.ref ax) ∧ cls = .ref ax) ∧ (x.val = [] → d = none) := by
  obtain ⟨a, h1, h2, h3⟩ := h
  refine ⟨⟨a, h1, h2⟩, fun e => ?_⟩
  rw [e] at h3
  exact h3
theorem evs_tryAs {em : Str → Option Bool} {wb : WS} {ws : Addr → Value → Option Addr → WS} (hC : Ctx0 G X) (hN : X.N.Nodup) (hc : Names X x c) (tk : Takes X W) (hem : ∀ m b ax, em m = some b → G.mg m = some (.ref ax) → PySem.W.exmOne G.K (.ref ax) c = some b)
    (hb : ∀ (W' : WX) (pn : List (Addr × Obj)) (xe : Value → Shared → Prop), Takes (X.tr pn xe) W' → PassesOwn (model X.prog X.w) X.A X.env xe → EvB G W' (X.tr pn xe) body wb)
    (hsu : ∀ (a : Addr) (oe : Obj) (cls : Value) (d : Option Addr) (pn : List (Addr × Obj)), Zc cls d oe → (∃ vs, oe.data = .fields vs) → EvB G W0 (X.suite a ((a, oe) :: pn)) (b₀ :: suite) (ws a cls d))
    (hs : X.stack = X.env :: X.outer := by rfl) (hf : X.env.frame = some X.env.locals := by rfl) (hi : X.N[i]? = some n := by rfl) (hln : X.env.kindOf n = some .local := by rfl) :
    EvS G W X (.Try body [.ExceptHandler (some (.Name x np)) (some n) (b₀ :: suite) pos'] [] [] pos) (wTryAs G em i wb ws) :=
  ⟨PS.imp (ps_try_as (tb := fun W' => LS G W' wb) (ts := fun a cls d => LS G W0 (ws a cls d)) (Wout := W) hs hf hN hi hln hc tk (fun W' pn xe t p => (hb W' pn xe t p).ps) (fun a oe cls d pn z v => (hsu a oe cls d pn z v).ps)) fun D σ H q => by
    obtain ⟨C, dk, F, env, P, rfl, o, hw, f⟩ := q
    refine ⟨C, dk, F, env, _, rfl, o, hw, ⟨f.nx, f.bk, f.ct, f.rt, fun x e cls d σ1 H1 F1 dk1 p o1 k1 => ?_⟩⟩
    have p' : (match em x.cls with
      | some true => ∀ a cls d, (∃ ax, C.g.mg x.cls = some (.ref ax) ∧ cls = .ref ax) → (x.val = [] → d = none) → ws a cls d (e.set i (.opq (.ref a))) (P.sub i)
      | some false => P.ex x e
      | none => False) := p
    obtain ⟨⟨ax, m1, rfl⟩, m2⟩ := XOk.cls k1
    cases z : em x.cls with
    | none => rw [z] at p'; exact p'.elim
    | some b =>
      rw [z] at p'
      refine ⟨b, by rw [hC.K]; exact hem _ _ _ z m1, fun eb a na => ?_, fun eb => ?_⟩
      · subst eb
        refine ⟨C, dk1, F1, e.set i (.opq (.ref a)), P.sub i, rfl, o1.store (s := .opq (.ref a)) rfl (fun c e => by cases e), p' a _ d ⟨ax, m1, rfl⟩ m2, ⟨?_, ?_, ?_, ?_, fun _ _ _ _ _ _ _ _ z => z.elim⟩⟩
        · exact fun env2 σ2 H2 F2 dk2 p2 o2 => f.nx _ _ _ _ _ p2 (o2.clear i)
        · exact fun env2 σ2 H2 F2 dk2 p2 o2 => f.bk _ _ _ _ _ p2 (o2.clear i)
        · exact fun env2 σ2 H2 F2 dk2 p2 o2 => f.ct _ _ _ _ _ p2 (o2.clear i)
        · exact f.rt
      · subst eb
        exact f.ex _ _ _ _ _ _ _ _ p' o1 k1⟩
/-- isinstance(n, D2), n the error of the suite, of the class D -/
def wIsE (i : Nat) (a D : Addr) (b : Bool) (cls : Value) (d : Option Addr) : WE := fun env P _ => (cls = .ref D ∧ d = none) ∧ env[i]? = some (.opq (.ref a)) ∧ P (.d (.bool b)) env
theorem ev_isE {a D D2 : Addr} {oe : Obj} {cls : Value} {d : Option Addr} {pn : List (Addr × Obj)} {n x2 : Str} {p p1 p2 ps : Pos} {b : Bool} (i : Nat) (hC : Ctx0 G X) (hz : Zc cls d oe) (hf : ∃ vs, oe.data = .fields vs) (ec : ExcC G.K D) (hk : PySem.W.kitOne G.K (.ref D) (.ref D2) = some b) (g2 : G.mg x2 = some (.ref D2)) (gi : G.mg "isinstance" = none)
    (hN : X.N[i]? = some n := by rfl) (hv : Vis X.env.scope n := by first | exact Or.inl rfl | exact Or.inr (Or.inl rfl) | exact Or.inr (Or.inr rfl)) (hg : Gl X "isinstance" := by rfl) (hg2 : Gl X x2 := by rfl)
    (hd : (n == ("__debug__" : Str)) = false := by decide) (hcd : (n == ("__classdict__" : Str)) = false := by decide) (hd2 : (x2 == ("__debug__" : Str)) = false := by decide)
    (he : starEach [.Name n p1, .Name x2 p2] X.env = (false, eval (.Name n p1) X.env) :: starEach [.Name x2 p2] X.env := by rfl) (he2 : starEach [.Name x2 p2] X.env = (false, eval (.Name x2 p2) X.env) :: starEach [] X.env := by rfl)
    (hpl : (backTo ps (starEach [.Name x2 p2] X.env)).any (·.1) = false := by rfl) :
    Ev G W (X.suite a ((a, oe) :: pn)) (.Call (.Name "isinstance" p) [.Name n p1, .Name x2 p2] [] ps) (wIsE i a D b cls d) := by
  refine Ev.of (t := fun σ H Q => (cls = .ref D ∧ d = none) ∧ tCB (rIsE G.K D a) (tCons (tVar i) (tCons (tC (.ref D2)) tNil)) σ H Q) ⟨fun pins s σ H Q I q => ?_⟩ fun C e dk σ H F env P Ex Q o h f => ?_
  · obtain ⟨⟨rfl, rfl⟩, q⟩ := q
    refine (pe_callB (X := X.suite a ((a, oe) :: pn)) (by have := call_isE (X := X) (a := a) (D := D) (oe := oe) (pn := pn) (by rw [hC.K]; exact ec) hz hf; rw [hC.K] at this; exact this) hg (show X.mg "isinstance" = none by rw [hC.mg]; exact gi) (by decide +kernel) (pa_cons (pv i hN hv hd hcd) (pa_cons (pe_glob (v := .ref D2) hg2 (show X.mg x2 = some (.ref D2) by rw [hC.mg]; exact g2) rfl hd2) pa_nil he2) he) (by decide) (by decide) he hpl).run pins s σ H Q I q
  · obtain ⟨h1, h2, h3⟩ := h
    have z := o.slot _ _ h2
    exact ⟨h1, _, gt_of z, _, _, b, rfl, fun u r => r, hk, f.1 _ _ _ _ _ h3 (Sub.refl F) (EnLe.refl env) o (Dq.bl b)⟩
end
end Dl

namespace Dl
open PySem PySem.Spec PyProof.Rows L2
open PySem.W (Frag)
/-- what an error class with one field says beyond SupC -/
structure FldC (K : Frag) (C : Addr) (f : Str) : Prop where
  sa : PySem.W.findIn K (.ref C) "__setattr__" = some (some (.builtin "object.__setattr__"))
  no : PySem.W.findIn K (.ref C) f = some none
section
variable {X : Cx} {C fI : Addr} {cn : Str} {k : Nat} {p pos pos2 : Pos}
/-- C(e): the reading -/
def tMk1 (C : Addr) (f : Str) (ta : TA) : L2.St → Hp → XK → Prop := fun σ H Q => ta σ H fun vs H1 => ∃ v, vs = [v] ∧ ∀ dx, H1 dx = none → Q (.ref C) (some dx) (upd H1 dx (.xd [(f, v)]))
theorem ns1_at {h G : Heap} {dx : Addr} {m : Str → Option Value} (n : h.Ns1 dx m) (e : G.get? dx = h.get? dx) : G.Ns1 dx m := by
  obtain ⟨o, es, ep, q, r⟩ := n
  exact ⟨o, es, ep, by rw [e]; exact q, r⟩
/-- C(e) -/
theorem pmk1 {f txt : Str} {pp pq p0 p1 p2 p3 p4 p5 q1 q2 q3 q4 : Pos} {j : Nat} {e : Expr} {ta : TA} (T : SupC X.K X.mg cn C fI) (Fl : FldC X.K C f) (S : SupF X.K X.prog C fI (sA1 f pp pq) [sLine txt p0 p1 p2 p3 p4 p5 j, sSet f q1 q2 q3 q4] (sSc1 f)) (hr : Room k X.A) (ha : PA X [e] ta)
    (hb : ∀ (x : Addr) (v : Value) (qual : Str) (kV doc pm ct : Value) (an : Option Addr) (cda cc : Addr), bindArgs (PySem.W.ksFn "__init__" qual (sA1 f pp pq) [sLine txt p0 p1 p2 p3 p4 p5 j, sSet f q1 q2 q3 q4] (sSc1 f) .none kV doc pm an (.ref cda) ct cc) ⟨[.ref x, v], []⟩ = pure [(("self" : Str), Value.ref x), (f, v)])
    (hg : Gl X cn := by rfl) (hd : (cn == ("__debug__" : Str)) = false := by decide) (hl : (p2.endLine == p4.line) = true := by rfl)
    (hf1 : (sSc1 f).names.lookup f = some .local := by decide) (hfs : (f == ("self" : Str)) = false := by decide) (hfd : (f == ("__debug__" : Str)) = false := by decide) (hcl : (sSc1 f).names.lookup ("__class__" : Str) = some .free := by decide) (hsu : (sSc1 f).names.lookup ("super" : Str) = some .globalImplicit := by decide)
    (he : starEach [e] X.env = (false, eval e X.env) :: starEach [] X.env := by rfl) :
    PMk X (.Call (.Name cn p) [e] [] pos) (tMk1 C f ta) := by
  intro pins s σ H Q I h
  refine wpAny_Call_Name_kw (ld_glob I hg T.gC ?_ hd)
  refine PySem.W.callWith_K (h₀ := X.base) I.ok.mod.kin T.kC (thn (ha.run pos pins s σ H _ I h) fun us s1 hh => ?_) he
  obtain ⟨vs, H1, I1, r1, v, rfl, q2⟩ := hh
  refine ⟨I1.kIn, ?_⟩
  cases r1 with
  | cons rv rr =>
    rename_i u us
    cases rr
    show wpAny _ _ (call (.ref C) [u]) _ _ _
    have Y := Dl.Inv.ard I1
    obtain ⟨hp, g, dr, tk, os⟩ := s1
    refine wpAny_call (made1 T S Y (by have := hr.dp; omega) Fl.sa Fl.no (fun x => hb x u) hf1 hfs hfd hcl hsu (fun h' tk' t1 dx k' hx dn dne hns => ?_) hl)
    have hdx : H1 dx = none := I1.hok.fresh dn
    have hxn : H1 (hp.objs.size + 1) = none := I1.hok.fresh (Nat.le_succ _)
    obtain ⟨G, g1, g2⟩ := restrict h' fun b => decide (b ≠ hp.objs.size + 1)
    have gk : ∀ b, b ≠ hp.objs.size + 1 → G.get? b = h'.get? b := fun b hb => g1 b (decide_eq_true hb)
    have kG : ∀ b o, hp.get? b = some o → G.get? b = some o := fun b o e => by
      rw [gk b (Nat.ne_of_lt (Nat.lt_succ_of_lt (Heap.lt_size e)))]; exact k' b o e
    have J : Inv X pins σ (upd H1 dx (.xd [(f, v)])) ⟨G, g, dr, tk', os⟩ :=
      I1.laid (t' := tk') (a := dx) (h' := G) kG dn ⟨_, ns1_at hns (gk dx dne), fun y => by
        show RelO (List.lookup y [(f, v)]) (if y = f then some u else none)
        by_cases hy : y = f
        · subst hy
          rw [if_pos rfl]
          show RelO (match y == y with | true => some v | false => none) _
          rw [beq_self_eq_true]
          exact rv
        · rw [if_neg hy]
          show RelO (match y == f with | true => some v | false => none) _
          rw [beq_eq_false_iff_ne.mpr hy]
          trivial⟩
    refine ⟨hp.objs.size + 1, _, _, ⟨G, g, dr, tk', os⟩, _, .ref C, some dx, rfl, J, fun b o e => ?_, g2 _ (by simp), hx, ⟨rfl, rfl⟩, rfl, rfl, ?_, rfl, I1.bare, raises_own T.exC T.tyC, q2 dx hdx⟩
    · by_cases hb : b = hp.objs.size + 1
      · subst hb
        have z := g2 (hp.objs.size + 1) (by simp)
        have e' : G.get? (hp.objs.size + 1) = some o := e
        rw [z] at e'; cases e'
      · rw [← gk b hb]; exact e
    · rw [upd_ne (Ne.symm dne)]; exact hxn
variable {G : DG} {W : WX}
/-- raise C(e) -/
def wRaise1 (cn f : Str) (w : WE) : WS := fun env P => wA [w] env (fun rs e => match toDs rs with
  | some [x] => P.ex ⟨cn, [(f, x)]⟩ (holdAll rs e)
  | _ => False) P.ex
theorem evs_raise1 {f txt : Str} {pp pq p0 p1 p2 p3 p4 p5 q1 q2 q3 q4 : Pos} {j : Nat} {e : Expr} {w : WE} (c : Ctx0 G X) (T : SupC G.K G.mg cn C fI) (Fl : FldC G.K C f) (S : SupF G.K X.prog C fI (sA1 f pp pq) [sLine txt p0 p1 p2 p3 p4 p5 j, sSet f q1 q2 q3 q4] (sSc1 f)) (hr : Room k X.A) (tk : Takes X W) (ha : EvA G W X [e] [w])
    (hb : ∀ (x : Addr) (v : Value) (qual : Str) (kV doc pm ct : Value) (an : Option Addr) (cda cc : Addr), bindArgs (PySem.W.ksFn "__init__" qual (sA1 f pp pq) [sLine txt p0 p1 p2 p3 p4 p5 j, sSet f q1 q2 q3 q4] (sSc1 f) .none kV doc pm an (.ref cda) ct cc) ⟨[.ref x, v], []⟩ = pure [(("self" : Str), Value.ref x), (f, v)] := by first | exact fun _ _ _ _ _ _ _ _ _ _ => rfl | (intros; with_unfolding_all rfl))
    (hc : X.calm = true := by rfl) (hg : Gl X cn := by rfl) (hd : (cn == ("__debug__" : Str)) = false := by decide) (hl : (p2.endLine == p4.line) = true := by rfl)
    (hf1 : (sSc1 f).names.lookup f = some .local := by decide) (hfs : (f == ("self" : Str)) = false := by decide) (hfd : (f == ("__debug__" : Str)) = false := by decide) (hcl : (sSc1 f).names.lookup ("__class__" : Str) = some .free := by decide) (hsu : (sSc1 f).names.lookup ("super" : Str) = some .globalImplicit := by decide)
    (he : starEach [e] X.env = (false, eval e X.env) :: starEach [] X.env := by rfl) : EvS G W X (.Raise (some (.Call (.Name cn p) [e] [] pos)) none pos2) (wRaise1 cn f w) := ⟨PS.imp (ps_raise hc tk (pmk1 (by rw [c.K, c.mg]; exact T) (by rw [c.K]; exact Fl) (by rw [c.K]; exact S) hr ha.pa hb hg hd hl hf1 hfs hfd hcl hsu he)) fun D σ H q => by
  obtain ⟨C', dk, F, env, P, rfl, o, hw, fi⟩ := q
  refine ⟨C', dk, F, env, _, P.ex, rfl, o, hw, fun rs e vs H' F' p n s l o' k => ?_, fun x e c d H' F' p _ _ o' q => fi.ex x e c d σ H' F' dk p o' q⟩
  cases z : toDs rs with
  | none => rw [z] at p; exact p.elim
  | some xs =>
    rw [z] at p
    obtain ⟨F2, s2, o2, l2, k2⟩ := k.held o' z
    match xs, p, k2 with
    | [x], p, k2 =>
      have p' : P.ex ⟨cn, [(f, x)]⟩ (holdAll rs e) := p
      match vs, k2 with
      | [v], .cons kv .nil =>
        refine ⟨v, rfl, fun dx hdx => ?_⟩
        have nf := o2.sub.free0 hdx
        have o3 := (o2.newCell (.xd [(f, v)]) hdx).hold upd_same nf (o2.nb hdx) (o2.offNew hdx) (o2.ownNe hdx)
        exact fi.ex _ _ _ _ _ _ _ _ p' o3 ⟨C, T.gC, rfl, dx, [(f, v)], rfl, upd_same, rfl, .cons (kv.mono (Sub.put nf)) .nil⟩⟩
end
/-! ### try .. except X as n, the error has a field -/
section
variable {G : DG} {W : WX} {X : Cx} {x n : Str} {c : Value} {i : Nat} {body suite : List Stmt} {b₀ : Stmt} {np pos pos' : Pos}
/-- the suite, the error has one field -/
def wAsF (g : DG) (ws : Addr → Value → Option Addr → WS) (i : Nat) (P : Pd) (e : En) (c : Str) : List (Str × PyData) → Prop
  | [(f, y)] => ∀ a cls dd, (∃ ax, g.mg c = some (.ref ax) ∧ cls = .ref ax) → ws a cls (some dd) (e.set i (.d (.dict (excD a dd [f] [y])))) (P.sub i)
  | _ => False
def wTryAsF (g : DG) (em : Str → Option Bool) (i : Nat) (wb : WS) (ws : Addr → Value → Option Addr → WS) : WS := fun env P => wb env { P with ex := fun x e => match em x.cls with
  | some true => wAsF g ws i P e x.cls x.val
  | some false => P.ex x e
  | none => False }
theorem evs_tryAsF {em : Str → Option Bool} {wb : WS} {ws : Addr → Value → Option Addr → WS} (hC : Ctx0 G X) (hN : X.N.Nodup) (hc : Names X x c) (tk : Takes X W) (hem : ∀ m b ax, em m = some b → G.mg m = some (.ref ax) → PySem.W.exmOne G.K (.ref ax) c = some b)
    (hb : ∀ (W' : WX) (pn : List (Addr × Obj)) (xe : Value → Shared → Prop), Takes (X.tr pn xe) W' → PassesOwn (model X.prog X.w) X.A X.env xe → EvB G W' (X.tr pn xe) body wb)
    (hsu : ∀ (a : Addr) (oe : Obj) (cls : Value) (d : Option Addr) (pn : List (Addr × Obj)), Zc cls d oe → (∃ vs, oe.data = .fields vs) → EvB G W0 (X.suite a ((a, oe) :: pn)) (b₀ :: suite) (ws a cls d))
    (hs : X.stack = X.env :: X.outer := by rfl) (hf : X.env.frame = some X.env.locals := by rfl) (hi : X.N[i]? = some n := by rfl) (hln : X.env.kindOf n = some .local := by rfl) :
    EvS G W X (.Try body [.ExceptHandler (some (.Name x np)) (some n) (b₀ :: suite) pos'] [] [] pos) (wTryAsF G em i wb ws) :=
  ⟨PS.imp (ps_try_as (tb := fun W' => LS G W' wb) (ts := fun a cls d => LS G W0 (ws a cls d)) (Wout := W) hs hf hN hi hln hc tk (fun W' pn xe t p => (hb W' pn xe t p).ps) (fun a oe cls d pn z v => (hsu a oe cls d pn z v).ps)) fun D σ H q => by
    obtain ⟨C, dk, F, env, P, rfl, o, hw, f⟩ := q
    refine ⟨C, dk, F, env, _, rfl, o, hw, ⟨f.nx, f.bk, f.ct, f.rt, fun x e cls d σ1 H1 F1 dk1 p o1 k1 => ?_⟩⟩
    obtain ⟨xc, xv⟩ := x
    have p' : (match em xc with
      | some true => wAsF C.g ws i P e xc xv
      | some false => P.ex ⟨xc, xv⟩ e
      | none => False) := p
    obtain ⟨ax, m1, m2, k2⟩ := id k1
    cases m2
    cases z : em xc with
    | none => rw [z] at p'; exact p'.elim
    | some b =>
      rw [z] at p'
      refine ⟨b, by rw [hC.K]; exact hem _ _ _ z m1, fun eb a na => ?_, fun eb => ?_⟩
      · subst eb
        match xv, p', k2 with
        | [], p', _ => exact p'.elim
        | _ :: _ :: _, p', _ => exact p'.elim
        | [(g, y)], p', k2 =>
          obtain ⟨dd, vs, rfl, k3, k4, k5⟩ := k2
          have kd : Dq C.g.K F1 (.ref a) (.dict (excD a dd [g] [y])) := .exc k3 k5 (by rw [k4]; rfl)
          refine ⟨C, dk1, F1, e.set i (.d (.dict (excD a dd [g] [y]))), P.sub i, rfl, o1.store (s := .d (.dict (excD a dd [g] [y]))) ⟨_, rfl, kd⟩ (fun c e => by cases e), p' a _ dd ⟨ax, m1, rfl⟩, ⟨?_, ?_, ?_, ?_, fun _ _ _ _ _ _ _ _ z => z.elim⟩⟩
          · exact fun env2 σ2 H2 F2 dk2 p2 o2 => f.nx _ _ _ _ _ p2 (o2.clear i)
          · exact fun env2 σ2 H2 F2 dk2 p2 o2 => f.bk _ _ _ _ _ p2 (o2.clear i)
          · exact fun env2 σ2 H2 F2 dk2 p2 o2 => f.ct _ _ _ _ _ p2 (o2.clear i)
          · exact f.rt
      · subst eb
        exact f.ex _ _ _ _ _ _ _ _ p' o1 k1⟩
/-- what a caught error with a field is -/
theorem Dq.exc1 {K : Frag} {F : Hp} {v : V} {a dd : Addr} {f : Str} {y : PyData} (h : Dq K F v (.dict (excD a dd [f] [y]))) : ∃ u : V, v = v ∧ F dd = some (.xd [(f, u)]) ∧ Dq K F u y := by
  generalize e : PyData.dict (excD a dd [f] [y]) = D at h
  have nk : ∀ k : Key, kD k ≠ PyData.none := fun k => by cases k <;> exact fun z => nomatch z
  have nt : ∀ k : List Key, tD k ≠ PyData.none := fun k z => nomatch z
  cases h with
  | non => cases e
  | bl => cases e
  | int => cases e
  | str => cases e
  | lst => cases e
  | tup => cases e
  | dic h1 h2 h3 =>
    rename_i kvs xs ds
    have e := PyData.dict.inj e
    subst h3
    exfalso
    match kvs, xs, e with
    | [], _, e => cases e
    | _ :: _, [], e => cases e
    | k :: _, _ :: _, e =>
      have z := (List.cons.inj e).1
      exact nk _ (congrArg Prod.fst z).symm
  | dct h0 h1 h2 h3 =>
    rename_i kvs xs ds
    have e := PyData.dict.inj e
    subst h3
    exfalso
    match kvs, xs, e with
    | [], _, e => cases e
    | _ :: _, [], e => cases e
    | k :: _, _ :: _, e =>
      have z := (List.cons.inj e).1
      exact nt _ (congrArg Prod.fst z).symm
  | ins h0 h1 h2 h3 =>
    have e := PyData.dict.inj e
    subst h3
    have z := (List.cons.inj e).1
    cases congrArg Prod.snd z
  | exc h1 h2 h3 =>
    rename_i a' dd' vs xs ds
    have e := PyData.dict.inj e
    subst h3
    obtain ⟨z1, z2⟩ := List.cons.inj e
    have z3 := PyData.tuple.inj (congrArg Prod.snd z1)
    have z4 : (dd : Int) = (dd' : Int) := PyData.int.inj (List.cons.inj (List.cons.inj z3).2).1
    have z5 : dd = dd' := Int.ofNat.inj z4
    subst z5
    match vs, xs, h2, z2, h1 with
    | [], _, _, z2, _ => cases z2
    | _ :: _, [], h2, _, _ => cases h2
    | (g, u) :: vs, y' :: xs, .cons h4 h5, z2, h1 =>
      obtain ⟨z6, z7⟩ := List.cons.inj z2
      have z8 : f = g := PyData.str.inj (congrArg Prod.fst z6)
      have z9 : y = y' := congrArg Prod.snd z6
      subst z8 z9
      match vs, xs, h5, z7 with
      | [], _, _, _ => exact ⟨u, rfl, h1, h4⟩
      | _ :: _, _ :: _, _, z7 => cases z7
end
end Dl

namespace Dl
open PySem PySem.Spec PyProof.Rows L2
open PySem.W (Frag)
/-! ### the class of an error that has a dict -/
section
open PySem.W PySem.Calls
variable {prog : Program} {w : World} {A : Around} {E : Value → Shared → Prop} {s : Shared} {K : Frag} {x D : Addr} {ox : Obj} {od : Option Obj}
theorem find_cls (C : ExcC K D) : findObj K D od "__class__" = some (.bind (.builtin "getset_descriptor.__get__") (.builtin "object.__class__")) := by
  obtain ⟨cd, hc, _⟩ := any_some C.hd
  unfold findObj
  rw [hc, Option.bind_some, C.ha, Option.bind_some]
  simp [C.hn, C.ht]
theorem cls_of {Q : Option Value → Shared → Prop} (C : ExcC K D) (X : K.In s.heap) (I : InstAt s.heap x ox D od) (h : Q (some (.ref D)) { s with toks := s.toks + 1 }) : wpAny (model prog w) A (getAttr? (.ref x) "__class__") Q E s := by
  obtain ⟨hp, g, d, t, os⟩ := s
  have M0 := I.type (M := model prog w)
  have M1 := looks_findIn (M := model prog w) X C.hg
  have M2 := looks_findIn (M := model prog w) X C.hk
  have M3 := looks_find (M := model prog w) X I (find_cls C)
  have sub : Looks (model prog w) hp (isInstance (.ref x) (.type "BaseException")) true := M0.andThen (looks_subIn X C.hs)
  have n0 : (false && onTheHeap (Value.builtin "BaseException.__getattribute__")) = false := rfl
  have n2 : (Value.builtin "BaseException.__getattribute__" == Value.builtin "object.__getattribute__") = false := by decide +kernel
  have n1 : (onTheHeap (Value.ref D) && Value.builtin "BaseException.__getattribute__" == Value.builtin "object.__getattribute__") = false := by rw [n2]; rfl
  unfold getAttr? getAttrBy? getAttrBy
  refine wpAny_bind (wpAny_mkText (wpAny_bind (wpAny_attempt (wpAny_holding (wpAny_bind (M0.at (wpAny_bind (M1.at ?_))))))))
  show wpAny _ _ (if (onTheHeap (Value.ref D) && Value.builtin "BaseException.__getattribute__" == Value.builtin "object.__getattribute__") = true then _ else _) _ _ _
  rw [n1, if_neg Bool.false_ne_true]
  unfold getAttrByItsOwn hookBefore
  refine wpAny_bind ?_
  rw [if_pos (show onTheHeap (Value.ref D) = true from rfl)]
  refine M2.at ?_
  refine wpAny_bind (wpAny_attempt (wpAny_holding ?_))
  unfold callGetattribute
  rw [n0, if_neg Bool.false_ne_true]
  unfold boundAndCalled
  rw [PySem.F.excAttr_ValueError.ga.bind (.ref x)]
  refine wpAny_bind (wpAny_pure ?_)
  show wpAny _ _ (call (.builtin "BaseException.__getattribute__") [.ref x, .str "__class__" t]) _ _ _
  refine wpAny_call (codeAny_call_builtin PySem.F.excAttr_ValueError.ga.plain PySem.F.entry_bexc_ga ?_)
  refine @check_slot (model prog w) _ _ ⟨hp, g, d, t + 1, os⟩ "BaseException.__getattribute__" "BaseException" "__getattribute__" (.ref x) [.str "__class__" t] [] _ (by decide +kernel) (by decide +kernel) sub (PySem.F.args_bexc_ga (.ref x) (.str "__class__" t)) ?_
  unfold Builtin.«object.__getattribute__»
  refine wpAny_bind (wpAny_of_eq (a := ((Value.ref x : Value), [Value.str "__class__" t])) (by first | rfl | (simp only [slotArgs]; rfl)) ?_)
  refine wpAny_bind (wpAny_pure (wpAny_bind (M0.at (wpAny_bind (M3.at ?_)))))
  show wpAny _ _ (holding [Value.builtin "object.__class__"] (call (.builtin "getset_descriptor.__get__") [.builtin "object.__class__", .ref x, .ref D]) >>= ret) _ _ _
  refine wpAny_bind (wpAny_holding (wpAny_call (class_get (s := ⟨hp, g, d, t + 1, os⟩) (ox := ox) (od := od) X I C.hm ?_)))
  refine wpAny_pure ?_
  show wpAny _ _ (handedOut (.ref D)) _ _ _
  rw [handedOut_of (v := .ref D) rfl]
  first
    | exact wpAny_pure (wpAny_pure h)
    | exact wpAny_pure h
    | exact wpAny_pure (wpAny_bind (wpAny_pure (wpAny_pure h)))
theorem clsObj (C : ExcC K D) : ∃ c' d' cd' sl', K.lookup D = some ⟨c', d', .cls cd', sl'⟩ := by
  obtain ⟨cd, hc, _⟩ := any_some C.hd
  unfold clsIn at hc
  split at hc
  · rename_i c' d' cd' sl' ho
    exact ⟨_, _, _, _, ho⟩
  · cases hc
theorem kitx_exd (C : ExcC K D) : KitX K (.ref x) (.ref D) (fun h => InstAt h x ox D od) where
  ty := fun _ _ _ I => I.type
  it := fun _ _ X _ => by
    obtain ⟨c', d', cd', sl', ho⟩ := clsObj C
    intro A' Q' E' s' k q
    unfold isType loadHead
    exact wpAny_bind (wpAny_loadPart (k _ _ (X _ _ ho)) (wpAny_pure q))
  ne := fun h tp dd its n sl X htp => by
    obtain ⟨c', d', cd', sl', ho⟩ := clsObj C
    refine Bool.eq_false_iff.mpr fun q => ?_
    have e : D = tp := Value.ref.inj (beq_iff_eq.mp q)
    subst e
    have z := (X _ _ ho).symm.trans htp
    cases z
  ca := fun X I k => cls_of C X I k
end
section
variable {G : DG} {W : WX} {X : Cx}
/-- isinstance(e, c), e the error of the suite, it has a dict -/
def rIsF (K : Frag) (D a : Addr) (cls : Value) (d : Option Addr) : List V → Hp → VK → Prop := fun xs H Q => ∃ (c : V) (cv : Value) (b : Bool) (dd : Addr) (fs : List (Str × V)), xs = [.ref a, c] ∧ (∀ u, RelV c u → u = cv) ∧ cls = .ref D ∧ d = some dd ∧ H dd = some (.xd fs) ∧ PySem.W.kitOne K (.ref D) cv = some b ∧ Q (.bl b) H
theorem call_isF {a D : Addr} {oe : Obj} {cls : Value} {d : Option Addr} {pn : List (Addr × Obj)} (C : ExcC X.K D) (hz : Zc cls d oe) (hf : ∃ vs, oe.data = .fields vs) : CallR (X.suite a ((a, oe) :: pn)) (.builtin "isinstance") (rIsF X.K D a cls d) := by
  intro pins s σ H xs us Q I r h
  obtain ⟨c, cv, b, dd, fs, rfl, hcv, rfl, rfl, hx, e, q⟩ := h
  cases r with
  | cons rx rr =>
    cases rr with
    | cons rt rr =>
      cases rr
      cases rx
      have ec := hcv _ rt
      subst ec
      obtain ⟨hget, _⟩ := I.pin (a, oe) (List.mem_append.mpr (.inl List.mem_cons_self))
      obtain ⟨vs, hv⟩ := hf
      have hx' : ObjOk X.prog X.w H s.heap dd (.xd fs) := I.hok dd _ hx
      obtain ⟨mA, hns, hr⟩ := hx'
      obtain ⟨od, ho, hl⟩ := lookIn_ns hns
      have J : PySem.W.InstAt s.heap a oe D (some od) := ⟨hget, hz.1, by unfold PySem.W.notCls; rw [hv] <;> rfl, by rw [hz.2]; exact ho⟩
      exact PySem.W.kia_one (kitx_exd C) I.kIn J e (fun z => nomatch z) fun tk => ⟨.bl b, H, I.kept (t' := tk) fun _ _ z => z, rfl, q⟩
/-- isinstance(n, D2), n the error of the suite, of the class D, with a field -/
def wIsF (i : Nat) (a D : Addr) (b : Bool) (cls : Value) (d : Option Addr) : WE := fun env P _ => cls = .ref D ∧ (∃ dd f y, d = some dd ∧ env[i]? = some (.d (.dict (excD a dd [f] [y])))) ∧ P (.d (.bool b)) env
/-- n.f, n the error of the suite -/
def wXf (i : Nat) (a D : Addr) (f : Str) (cls : Value) (d : Option Addr) : WE := fun env P _ => cls = .ref D ∧ ∃ dd y, d = some dd ∧ env[i]? = some (.d (.dict (excD a dd [f] [y]))) ∧ P (.d y) env
end
/-- where a caught error with a field stands -/
theorem Dq.excAt {K : Frag} {F : Hp} {v : V} {a dd : Addr} {f : Str} {y : PyData} (h : Dq K F v (.dict (excD a dd [f] [y]))) : v = .ref a := by
  generalize e : PyData.dict (excD a dd [f] [y]) = D at h
  have nk : ∀ k : Key, kD k ≠ PyData.none := fun k => by cases k <;> exact fun z => nomatch z
  have nt : ∀ k : List Key, tD k ≠ PyData.none := fun k z => nomatch z
  cases h with
  | non => cases e
  | bl => cases e
  | int => cases e
  | str => cases e
  | lst => cases e
  | tup => cases e
  | dic h1 h2 h3 =>
    rename_i kvs xs ds
    have e := PyData.dict.inj e
    subst h3
    exfalso
    match kvs, xs, e with
    | [], _, e => cases e
    | _ :: _, [], e => cases e
    | k :: _, _ :: _, e => exact nk _ (congrArg Prod.fst (List.cons.inj e).1).symm
  | dct h0 h1 h2 h3 =>
    rename_i kvs xs ds
    have e := PyData.dict.inj e
    subst h3
    exfalso
    match kvs, xs, e with
    | [], _, e => cases e
    | _ :: _, [], e => cases e
    | k :: _, _ :: _, e => exact nt _ (congrArg Prod.fst (List.cons.inj e).1).symm
  | ins h0 h1 h2 h3 =>
    have e := PyData.dict.inj e
    subst h3
    cases congrArg Prod.snd (List.cons.inj e).1
  | exc h1 h2 h3 =>
    rename_i a' dd' vs xs ds
    have e := PyData.dict.inj e
    subst h3
    have z3 := PyData.tuple.inj (congrArg Prod.snd (List.cons.inj e).1)
    have z4 : (a : Int) = (a' : Int) := PyData.int.inj (List.cons.inj z3).1
    have z5 : a = a' := Int.ofNat.inj z4
    rw [z5]
section
variable {G : DG} {W : WX} {X : Cx}
theorem ev_isF {a D D2 : Addr} {oe : Obj} {cls : Value} {d : Option Addr} {pn : List (Addr × Obj)} {n x2 : Str} {p p1 p2 ps : Pos} {b : Bool} (i : Nat) (hC : Ctx0 G X) (hz : Zc cls d oe) (hf : ∃ vs, oe.data = .fields vs) (ec : ExcC G.K D) (hk : PySem.W.kitOne G.K (.ref D) (.ref D2) = some b) (g2 : G.mg x2 = some (.ref D2)) (gi : G.mg "isinstance" = none)
    (hN : X.N[i]? = some n := by rfl) (hv : Vis X.env.scope n := by first | exact Or.inl rfl | exact Or.inr (Or.inl rfl) | exact Or.inr (Or.inr rfl)) (hg : Gl X "isinstance" := by rfl) (hg2 : Gl X x2 := by rfl)
    (hd : (n == ("__debug__" : Str)) = false := by decide) (hcd : (n == ("__classdict__" : Str)) = false := by decide) (hd2 : (x2 == ("__debug__" : Str)) = false := by decide)
    (he : starEach [.Name n p1, .Name x2 p2] X.env = (false, eval (.Name n p1) X.env) :: starEach [.Name x2 p2] X.env := by rfl) (he2 : starEach [.Name x2 p2] X.env = (false, eval (.Name x2 p2) X.env) :: starEach [] X.env := by rfl)
    (hpl : (backTo ps (starEach [.Name x2 p2] X.env)).any (·.1) = false := by rfl) :
    Ev G W (X.suite a ((a, oe) :: pn)) (.Call (.Name "isinstance" p) [.Name n p1, .Name x2 p2] [] ps) (wIsF i a D b cls d) := by
  refine Ev.of (t := fun σ H Q => cls = .ref D ∧ tCB (rIsF G.K D a cls d) (tCons (tVar i) (tCons (tC (.ref D2)) tNil)) σ H Q) ⟨fun pins s σ H Q I q => ?_⟩ fun C e dk σ H F env P Ex Q o h f => ?_
  · obtain ⟨rfl, q⟩ := q
    refine (pe_callB (X := X.suite a ((a, oe) :: pn)) (by have := call_isF (X := X) (a := a) (D := D) (oe := oe) (pn := pn) (by rw [hC.K]; exact ec) hz hf; rw [hC.K] at this; exact this) hg (show X.mg "isinstance" = none by rw [hC.mg]; exact gi) (by decide +kernel) (pa_cons (pv i hN hv hd hcd) (pa_cons (pe_glob (v := .ref D2) hg2 (show X.mg x2 = some (.ref D2) by rw [hC.mg]; exact g2) rfl hd2) pa_nil he2) he) (by decide) (by decide) he hpl).run pins s σ H Q I q
  · obtain ⟨h1, ⟨dd, fl, y, h2, h4⟩, h3⟩ := h
    subst e
    obtain ⟨v, z1, z2⟩ := o.slot _ _ h4
    have zv := z2.excAt
    subst zv
    obtain ⟨u, _, hx, _⟩ := z2.exc1
    exact ⟨h1, _, gt_of z1, _, _, b, dd, _, rfl, fun u r => r, h1, h2, o.sub _ _ hx, hk, f.1 _ _ _ _ _ h3 (Sub.refl F) (EnLe.refl env) o (Dq.bl b)⟩
theorem ev_xf {a D : Addr} {oe : Obj} {cls : Value} {d : Option Addr} {pn : List (Addr × Obj)} {n fl : Str} {p1 pos : Pos} (i : Nat) (hC : Ctx0 G X) (hz : Zc cls d oe) (hf : ∃ vs, oe.data = .fields vs) (ec : ExcC G.K D) (Fl : FldC G.K D fl)
    (hN : X.N[i]? = some n := by rfl) (hv : Vis X.env.scope n := by first | exact Or.inl rfl | exact Or.inr (Or.inl rfl) | exact Or.inr (Or.inr rfl))
    (hd : (n == ("__debug__" : Str)) = false := by decide) (hcd : (n == ("__classdict__" : Str)) = false := by decide) (hb : attributeBase (.Name n p1) fl X.env (eval (.Name n p1) X.env) = eval (.Name n p1) X.env := by rfl) :
    Ev G W (X.suite a ((a, oe) :: pn)) (.Attribute (.Name n p1) fl pos) (wXf i a D fl cls d) := by
  have T : XfC X.K D := by rw [hC.K]; exact ⟨ec.hg, ec.hk, ec.hs, ec.hd⟩
  refine Ev.of (pe_xf (X := X) T (by rw [hC.K]; exact Fl.no) hz hf (pv (X := X.suite a ((a, oe) :: pn)) i hN hv hd hcd) hb) fun C e dk σ H F env P Ex Q o h f => ?_
  obtain ⟨h1, dd, y, h2, h4, h3⟩ := h
  subst e
  obtain ⟨v, z1, z2⟩ := o.slot _ _ h4
  have zv := z2.excAt
  subst zv
  obtain ⟨u, _, hx, hu⟩ := z2.exc1
  refine ⟨_, gt_of z1, rfl, h1, dd, _, u, h2, o.sub _ _ hx, ?_, f.1 _ _ _ _ _ h3 (Sub.refl F) (EnLe.refl env) o hu⟩
  show (match fl == fl with | true => some u | false => _) = _
  rw [beq_self_eq_true]
end
end Dl

namespace Dl
open PySem PySem.Spec PyProof.Rows L2
section
variable {P : Program} {w : World} {g : DG} {base : Heap} {st : Stmt} {k : Nat} {N : List Str} {fa : Addr} {fd : FuncData}
/-- a def called where guards are told, for any promise -/
theorem raw_run {x : Str} {ps : List Str} (Fn : L2.Fun g.K x x st fa fd) (S : FnScope N ps (defScope st)) {A : Around} {outer : List Env} {s : Shared} {H : Hp} {args : Args} {us : List Value} {vs : List V} {Q : VK} {E : XK} (hr : Room (k + 1) A) (e0 : Env0 P w g.K g.mg base A outer s H) (lenV : vs.length = ps.length)
    (hb : BindsTo s fd args (ps.zip us)) (rv : Vals vs us)
    (hbody : ∀ cdv : Value, Room k (A.deeper (envOfC x (defScope st) s.heap.objs.size fa cdv)) → ∃ t, PSs (cxOf (L2.CX P w) P w g.K g.mg base N x (defScope st) fa cdv A outer s H E) (defBody st) t ∧ t { nx := fun _ H' => Q .non H', rt := Q } (start N vs) H) :
    codeAny (model P w) A (.call (.ref fa) args) (CR (L2.CX P w) outer P w H s Q E) s := by
  obtain ⟨oc, od, kV, doc, pm, an, cdv, ct, osl, efd, lk, hcd⟩ := Fn.ex
  subst efd
  have inS : g.K.In s.heap := e0.mod.kin.keeps fun b o e => (e0.bs b o e).1
  have noL : s.heap.NoLimit := e0.mod.nolimit.keeps fun b o e => (e0.bs b o e).1
  have kinds : ∀ y ∈ ps.zip us, (defScope st).names.lookup y.1 = some .local ∨ ((defScope st).names.lookup y.1 = some .cell ∧ ((cellsFrom (s.heap.objs.size + 1) (defScope st).names []).lookup y.1).isSome = true) := by
    rintro ⟨n, v⟩ hy
    exact (S.par n (List.of_mem_zip hy).1).imp id fun q => ⟨q, PySem.W.cellsFrom_some _ _ _ (.inl q)⟩
  refine codeAny_call_function hr.depth (inS _ _ lk) rfl S.co S.gen rfl (PySem.W.codeRec_of inS hcd) (hb _ _ _ _ (wpAny_newFunctionEnv_cells S.kind kinds fun env he s1 z => ?_))
  subst he
  obtain ⟨t, ht, hq⟩ := hbody cdv (hr.deeper _)
  have J := inv_start (CX := L2.CX P w) (E := E) S hr.hd e0 lenV rv z
  refine ⟨noL.keeps z.toInCall.keep, codeAny_func (wpAny_mono (ht.run [] s1 (start N vs) H _ J hq) (fun fl s' hs => ?_) fun _ _ q => q)⟩
  cases fl with
  | ret u => obtain ⟨v, σ', H', J', r', q⟩ := hs; exact ⟨v, H', J'.os, J'.bare, J'.base, J'.hok, r', q⟩
  | next => obtain ⟨σ', H', J', q⟩ := hs; exact ⟨V.non, H', J'.os, J'.bare, J'.base, J'.hok, rfl, q⟩
  | brk => obtain ⟨_, _, _, q⟩ := hs; exact q.elim
  | cont => obtain ⟨_, _, _, q⟩ := hs; exact q.elim
/-- what a law's body behind its first line is to reach -/
def lawP : Pd := ⟨fun _ => False, fun r => r = .d (.bool true), fun _ => False, fun _ => False, fun _ _ => False⟩
def lawE (N : List Str) (a : Addr) : En := .opq (.ref a) :: .deck :: List.replicate (N.length - 2) .no
theorem gt_no (N : List V) : True := trivial
/-- THE LAW: its first line makes the deck, the rest is judged by data -/
theorem law_dl {s1 : Stmt} {rest : List Stmt} {wr : WS} (Fn : L2.Fun g.K "law" "law" st fa fd) (S : FnScope N ["script"] (defScope st)) (hbd : defBody st = s1 :: rest) (hN : 2 ≤ N.length) (hr : Room (k + 1) callerA)
    (hbind : ∀ (s : Shared) (u : Value), BindsTo s fd ⟨[u], []⟩ [(("script" : Str), u)])
    (h1 : ∀ (cdv : Value) (A : Around) (outer : List Env) (s : Shared) (H : Hp) (E : XK), Bc P w g base k (fun cls d _ H => E cls d H) (cxOf (L2.CX P w) P w g.K g.mg base N "law" (defScope st) fa cdv A outer s H E) → PS (cxOf (L2.CX P w) P w g.K g.mg base N "law" (defScope st) fa cdv A outer s H E) s1 (tAsg (tCall (spDeck g) [] E0 (tCons (tVar 0) tNil)) (gName 1)))
    (h2 : ∀ (cdv : Value) (A : Around) (outer : List Env) (s : Shared) (H : Hp) (E : XK), Bc P w g base k (fun cls d _ H => E cls d H) (cxOf (L2.CX P w) P w g.K g.mg base N "law" (defScope st) fa cdv A outer s H E) → EvB g (fun cls d _ H => E cls d H) (cxOf (L2.CX P w) P w g.K g.mg base N "law" (defScope st) fa cdv A outer s H E) rest wr)
    (hp : ∀ a, wr (lawE N a) lawP) {a : Addr} {ns : List Int} (hsys : SysB base) (hns : ns.length ≤ 63) : LawRun P w g.K g.mg base fa a ns := by
  intro s H e0 hO hS
  refine raw_run (ps := ["script"]) (vs := [.ref a]) (us := [.ref a]) Fn S hr e0 rfl (hbind s (.ref a)) (.cons rfl .nil) fun cdv hr' => ?_
  have B : Bc P w g base k (fun cls d _ H => (fun _ _ _ => False : XK) cls d H) (cxOf (L2.CX P w) P w g.K g.mg base N "law" (defScope st) fa cdv callerA [] s H fun _ _ _ => False) := by
    refine ⟨⟨rfl, rfl, ?_, rfl, hsys⟩, hr', takes_of rfl rfl rfl rfl, passes_of rfl, rfl, rfl, rfl⟩
    have := hr'.un
    show (callerA.deeper _).units + 65 < cLine
    omega
  refine ⟨_, by rw [hbd]; exact pss_cons (h1 cdv callerA [] s H _ B) (h2 cdv callerA [] s H _ B).ps, ?_⟩
  have hσ : (start N [V.ref a])[0]? = some (some (.ref a)) := by
    unfold L2.start
    rfl
  refine ⟨.ref a, hσ, a, ns, rfl, hS, hns, fun da dl H' nda ndl kp dO => ?_⟩
  refine ⟨⟨g, fun _ => none, fun _ => none, some (da, dl)⟩, some (da, dl), fun _ => none, lawE N a, lawP, rfl, ⟨fun _ _ e => (nomatch e), ?_, fun i z e => ?_, fun i j c c' p e _ _ _ => ?_, dO, fun _ _ e => (nomatch e), fun _ _ e => (nomatch e), fun _ _ e => (nomatch e), .inl rfl⟩, hp a, ⟨fun _ _ _ _ _ p _ => p.elim, fun _ _ _ _ _ p _ => p.elim, fun _ _ _ _ _ p _ => p.elim, fun r v _ _ _ _ _ p _ q => ?_, fun _ _ _ _ _ _ _ _ p _ => p.elim⟩⟩
  · unfold L2.start lawE
    simp
    omega
  · match i, e with
    | 0, e =>
      cases e
      show gt _ 0 = some (V.ref a)
      unfold gt
      rw [List.getElem?_set_ne (by decide), hσ]
      rfl
    | 1, e =>
      cases e
      refine ⟨da, dl, rfl, ?_⟩
      unfold gt
      rw [List.getElem?_set_self (by unfold L2.start; simp; omega)]
      rfl
    | i + 2, e =>
      have e' : (List.replicate (N.length - 2) Sl.no)[i]? = some z := by simpa [lawE] using e
      rw [List.getElem?_replicate] at e'
      by_cases hz : i < N.length - 2
      · rw [if_pos hz] at e'; cases e'; trivial
      · rw [if_neg hz] at e'; cases e'
  · match i, e with
    | 0, e => cases e
    | 1, e => cases e
    | i + 2, e =>
      have e' : (List.replicate (N.length - 2) Sl.no)[i]? = some (.own c) := by simpa [lawE] using e
      rw [List.getElem?_replicate] at e'
      by_cases hz : i < N.length - 2
      · rw [if_pos hz] at e'; cases e'
      · rw [if_neg hz] at e'; cases e'
  · have er : r = .d (.bool true) := p
    rw [er] at q
    cases (show Dq _ _ v (.bool true) from q)
    rfl
end
end Dl

namespace Dl
open PySem PySem.Spec PyProof.Rows L2
open PySem.W (Frag)
open He (ga ma)
/-! ### what the head tells of an own error's class -/
def supClsB (K : Frag) (C : Addr) : Bool := match K.lookup C with
  | some ⟨.type t, _, .cls cd, sl⟩ => decide (t = "type") && (match cd.mro, sl.toList with
    | .ref D :: bm, [_, _, _, _, some (.builtin n), _] => decide (D = C) && (decide (n = "ValueError.__new__") && (cd.hasDict && (!cd.hasDel && HandSPX.refsVE bm)))
    | _, _ => false)
  | _ => false
theorem supCls_ok {K : Frag} {C : Addr} (h : supClsB K C = true) : ∃ nm q N bs bm sn sub ab col dd k0 k1 k2 k3 k5, K.lookup C = some (excClassObj nm q C N bs bm true sn sub ab col dd k0 k1 k2 k3 k5 "ValueError.__new__") ∧ HandSPX.refsVE bm = true := by
  unfold supClsB at h
  split at h
  · rename_i t dd cd sl e
    obtain ⟨h1, h2⟩ := He.ba h
    have et := of_decide_eq_true h1
    subst et
    split at h2
    · rename_i D bm k0 k1 k2 k3 n k5 em es
      obtain ⟨h3, h4⟩ := He.ba h2
      obtain ⟨h5, h6⟩ := He.ba h4
      obtain ⟨h7, h8⟩ := He.ba h6
      obtain ⟨h9, h10⟩ := He.ba h8
      have eD := of_decide_eq_true h3
      have en := of_decide_eq_true h5
      subst eD en
      obtain ⟨nm, bs, mro, ns, qn, hd, sn, sb, ab, col, del⟩ := cd
      dsimp only at em h7 h9
      have edel : del = false := by cases del <;> first | rfl | cases h9
      subst em h7 edel
      obtain ⟨l⟩ := sl
      have el : l = [k0, k1, k2, k3, some (.builtin "ValueError.__new__"), k5] := es
      subst el
      exact ⟨nm, qn, ns, bs, bm, sn, sb, ab, col, dd, k0, k1, k2, k3, k5, e, h10⟩
    · cases h2
  · cases h
def eqB (a b : Option Bool) : Bool := decide (a = b)
/-- all of SupC but the module's names -/
def supB (K : Frag) (cn : Str) : Bool := (He.Fa.glo cn).ok K && (PySem.W.keepIn K (.ref (ga K cn)) && (supClsB K (ga K cn) && (He.eqO (PySem.W.findIn K (.ref (ga K cn)) "__init__") (some (some (.ref (ma K (ga K cn) "__init__")))) &&
  (decide (PySem.W.typeIn K (.ref (ma K (ga K cn) "__init__")) = some (.type "function")) && (eqB (PySem.W.subIn K (.ref (ga K cn)) (.type "BaseException")) (some true) && (decide (PySem.W.typeIn K (.ref (ga K cn)) = some (.type "type")) &&
  (He.eqO (PySem.W.ks_superIn K (ga K cn) (ga K cn) "__init__") (some (some (.builtin "ValueError.__init__"))) && (eqB (PySem.W.subIn K (.ref (ga K cn)) (.type "ValueError")) (some true) && (eqB (PySem.W.mroIn K (ga K cn) (.ref (ga K cn))) (some true) &&
  (He.eqO (PySem.W.nsIn K cStatics "thirdparty.any") (some none) && (He.Fa.free "super").ok K))))))))))
theorem sup_ok {K : Frag} {h : Heap} {mg : Str → Option Value} (X : K.In h) (G : h.Ns mainGlobals mg) {cn : Str} (c : supB K cn = true) : SupC K mg cn (ga K cn) (ma K (ga K cn) "__init__") := by
  obtain ⟨c1, c⟩ := He.ba c
  obtain ⟨c2, c⟩ := He.ba c
  obtain ⟨c3, c⟩ := He.ba c
  obtain ⟨c4, c⟩ := He.ba c
  obtain ⟨c5, c⟩ := He.ba c
  obtain ⟨c6, c⟩ := He.ba c
  obtain ⟨c7, c⟩ := He.ba c
  obtain ⟨c8, c⟩ := He.ba c
  obtain ⟨c9, c⟩ := He.ba c
  obtain ⟨c10, c⟩ := He.ba c
  obtain ⟨c11, c12⟩ := He.ba c
  exact ⟨He.glo_ok X G c1, c2, supCls_ok c3, He.eqO_ok c4, of_decide_eq_true c5, of_decide_eq_true c6, of_decide_eq_true c7, He.eqO_ok c8, of_decide_eq_true c9, of_decide_eq_true c10, He.eqO_ok c11, He.free_ok X G c12⟩
/-- its __init__ -/
abbrev FnS : Type := Option (Str × Arguments × FuncBody × Scope × Addr × Value × Addr)
def fnS (K : Frag) (cn : Str) : FnS := match K.lookup (ma K (ga K cn) "__init__") with
  | some ⟨_, _, .func fd, _⟩ => some (fd.name, fd.params, fd.body, fd.scope, fd.globals, fd.defaults, fd.builtins)
  | _ => none
structure SupD where
  cn : Str
  params : Arguments
  body : List Stmt
  scope : Scope
def SupD.val (d : SupD) : FnS := some ("__init__", d.params, .stmts d.body, d.scope, mainGlobals, .none, builtinsNs)
def supFB (K : Frag) (file : Str) (cn : Str) : Bool := match K.lookup (ma K (ga K cn) "__init__") with
  | some ⟨_, _, .func fd, _⟩ => PySem.W.codeIn K fd.code fd.qualname && ((match fd.code with
    | .ref cda => (match K.lookup cda with
      | some ⟨_, _, .fields vs, _⟩ => (match (vs[2]? : Option Value) with
        | some (Value.str f _) => file == f
        | _ => false)
      | _ => false)
    | _ => false) && (match fd.closure with
    | [(x, cc)] => decide (x = "__class__") && (match K.lookup cc with
      | some ⟨_, _, .cell (some (.ref D)), _⟩ => decide (D = ga K cn)
      | _ => false)
    | _ => false))
  | _ => false
theorem supF_ok {K : Frag} {prog : Program} {d : SupD} (e : fnS K d.cn = d.val) (c : supFB K prog.main.file d.cn = true) (top : (prog.main.scope.names.lookup ("super" : Str)).isSome = false) : SupF K prog (ga K d.cn) (ma K (ga K d.cn) "__init__") d.params d.body d.scope := by
  unfold fnS at e
  unfold supFB at c
  cases q : K.lookup (ma K (ga K d.cn) "__init__") with
  | none => rw [q] at c; cases c
  | some o =>
    obtain ⟨oc, od, dt, osl⟩ := o
    rw [q] at c e
    cases dt with
    | func fd =>
      obtain ⟨n1, n2, n3, n4, n5, n6, n7, n8, n9, n10, n11, n12, n13, n14, n15⟩ := fd
      have e2 : some ((n1, n3, n4, n5, n6, n8, n15) : Str × Arguments × FuncBody × Scope × Addr × Value × Addr) = some ((("__init__" : Str), d.params, FuncBody.stmts d.body, d.scope, mainGlobals, Value.none, builtinsNs) : Str × Arguments × FuncBody × Scope × Addr × Value × Addr) := e
      simp only [Option.some.injEq, Prod.mk.injEq] at e2
      obtain ⟨h1, h2, h3, h4, h5, h6, h7⟩ := e2
      obtain ⟨c1, c2⟩ := He.ba c
      obtain ⟨c3, c4⟩ := He.ba c2
      dsimp only at c1 c3 c4
      cases n13 with
      | ref cda =>
        dsimp only at c3
        cases qa : K.lookup cda with
        | none => rw [qa] at c3; cases c3
        | some oa =>
          obtain ⟨oca, oda, dta, osa⟩ := oa
          rw [qa] at c3
          cases dta with
          | fields vs =>
            dsimp only at c3
            cases qv : vs[2]? with
            | none => rw [qv] at c3; cases c3
            | some v =>
              rw [qv] at c3
              cases v with
              | str f t =>
                match n7, c4 with
                | [(x, cc)], c4 =>
                  obtain ⟨c5, c6⟩ := He.ba c4
                  have ex := of_decide_eq_true c5
                  cases qc : K.lookup cc with
                  | none => rw [qc] at c6; cases c6
                  | some occ =>
                    obtain ⟨o1, o2, o3, o4⟩ := occ
                    rw [qc] at c6
                    cases o3 with
                    | cell ov =>
                      cases ov with
                      | none => cases c6
                      | some v =>
                        cases v with
                        | ref D =>
                          have eD : D = ga K d.cn := of_decide_eq_true c6
                          subst h1 h2 h3 h4 h5 h6 h7 ex eD
                          exact ⟨oc, od, osl, n2, n9, n10, n11, n14, n12, cda, cc, oca, oda, vs, osa, f, t, o1, o2, o4, q, c1, qa, qv, c3, qc, top⟩
                        | _ => cases c6
                    | _ => cases c6
              | _ => cases c3
          | _ => cases c3
      | _ => cases c3
    | _ => cases c
/-- a name of the module that stands for a built-in function -/
def bltB (K : Frag) (x : Str) (i : String) : Bool := He.eqO (PySem.W.nsIn K mainGlobals x) (some (some (.builtin i)))
theorem blt_ok {K : Frag} {h : Heap} {mg : Str → Option Value} (X : K.In h) (G : h.Ns mainGlobals mg) {x : Str} {i : String} (c : bltB K x i = true) : mg x = some (.builtin i) := PySem.W.mg_of X G (He.eqO_ok c)
/-- isinstance of an error -/
def excCB (K : Frag) (D : Addr) : Bool := He.eqO (PySem.W.findIn K (.ref D) "__getattribute__") (some (some (.builtin "BaseException.__getattribute__"))) && (He.eqO (PySem.W.findIn K (.ref D) "__getattr__") (some none) && (eqB (PySem.W.subIn K (.ref D) (.type "BaseException")) (some true) &&
  (PySem.W.hasDictIn K D && (He.eqO (PySem.W.findIn K (.ref D) "__class__") (some (some (.builtin "object.__class__"))) && (He.eqO (PySem.W.specialIn K (.builtin "object.__class__") "__get__") (some (some (.builtin "getset_descriptor.__get__"))) &&
  (eqB (PySem.W.takesIn K (.builtin "object.__class__")) (some true) && eqB (PySem.W.mroIn K D (.type "object")) (some true)))))))
theorem excC_ok {K : Frag} {D : Addr} (c : excCB K D = true) : ExcC K D := by
  obtain ⟨c1, c⟩ := He.ba c
  obtain ⟨c2, c⟩ := He.ba c
  obtain ⟨c3, c⟩ := He.ba c
  obtain ⟨c4, c⟩ := He.ba c
  obtain ⟨c5, c⟩ := He.ba c
  obtain ⟨c6, c⟩ := He.ba c
  obtain ⟨c7, c8⟩ := He.ba c
  exact ⟨He.eqO_ok c1, He.eqO_ok c2, of_decide_eq_true c3, c4, He.eqO_ok c5, He.eqO_ok c6, of_decide_eq_true c7, of_decide_eq_true c8⟩
/-- a class with one field -/
def fldB (K : Frag) (cn f : Str) : Bool := He.eqO (PySem.W.findIn K (.ref (ga K cn)) "__setattr__") (some (some (.builtin "object.__setattr__"))) && He.eqO (PySem.W.findIn K (.ref (ga K cn)) f) (some none)
theorem fld_ok {K : Frag} {cn f : Str} (c : fldB K cn f = true) : FldC K (ga K cn) f := ⟨He.eqO_ok (He.ba c).1, He.eqO_ok (He.ba c).2⟩
def sysKB (K : Frag) : Bool := (K.lookup sysModules).isSome
theorem sysK_ok {K : Frag} {base : Heap} (c : sysKB K = true) (X : K.In base) : SysB base := by
  obtain ⟨o, e⟩ := Option.isSome_iff_exists.mp c
  exact ⟨o, X _ _ e⟩
def kitB (K : Frag) (x y : Str) (b : Bool) : Bool := eqB (PySem.W.kitOne K (.ref (ga K x)) (.ref (ga K y))) (some b)
def exmB (K : Frag) (x y : Str) (b : Bool) : Bool := eqB (PySem.W.exmOne K (.ref (ga K x)) (.ref (ga K y))) (some b)
/-! ### the Hook -/
def asS (g : Addr → Option Obj) (n : Nat) : List Addr := (He.asD g n ++ [cStatics, sysModules]).eraseDups
abbrev AlS : Type := He.AlD × Bool × List FnS
def obsS (fa : List He.Fa) (fn : List He.DefD) (ex : Frag → Bool) (cs : List SupD) (K : Frag) : AlS := (He.obsD fa fn K, ex K, cs.map fun d => fnS K d.cn)
def valS (fn : List He.DefD) (cs : List SupD) : AlS := (He.valD fn, true, cs.map SupD.val)
def obsSG (n : Nat) (fa : List He.Fa) (fn : List He.DefD) (ex : Frag → Bool) (cs : List SupD) (g : Addr → Option Obj) : AlS := obsS fa fn ex cs (He.frG g (asS g n))
def SaysS (fa : List He.Fa) (fn : List He.DefD) (ex : Frag → Bool) (cs : List SupD) (K : Frag) : Prop := obsS fa fn ex cs K = valS fn cs
def hookS (n : Nat) (fa : List He.Fa) (fn : List He.DefD) (ex : Frag → Bool) (cs : List SupD) : PySem.W.Hook where
  α := AlS
  obs := fun s => obsSG n fa fn ex cs s.heap.get?
  val := fun _ => valS fn cs
  says := fun _ h => ∃ K : Frag, K.In h ∧ SaysS fa fn ex cs K
  of := fun _ _ e => ⟨_, He.frG_in, e⟩
  keeps := fun _ _ _ ⟨K, hK, c⟩ k => ⟨K, PySem.W.Frag.In.keeps hK k, c⟩
theorem obsSG_eq {n : Nat} {fa : List He.Fa} {fn : List He.DefD} {ex : Frag → Bool} {cs : List SupD} {g : Addr → Option Obj} {s : Shared} (h : ∀ a, g a = s.heap.get? a) : obsSG n fa fn ex cs g = (hookS n fa fn ex cs).obs s := by
  have e : g = s.heap.get? := funext h
  rw [e] <;> rfl
section
variable {fa : List He.Fa} {fn : List He.DefD} {ex : Frag → Bool} {cs : List SupD} {K : Frag}
theorem SaysS.d (c : SaysS fa fn ex cs K) : He.SaysD fa fn K := congrArg (fun z : AlS => z.1) c
theorem SaysS.more (c : SaysS fa fn ex cs K) : ex K = true := congrArg (fun z : AlS => z.2.1) c
theorem SaysS.sup (c : SaysS fa fn ex cs K) (i : Nat) {d : SupD} (h : cs[i]? = some d := by rfl) : fnS K d.cn = d.val := by
  have e : cs.map (fun d => fnS K d.cn) = cs.map SupD.val := congrArg (fun z : AlS => z.2.2) c
  have e2 : (cs.map fun d => fnS K d.cn)[i]? = (cs.map SupD.val)[i]? := by rw [e]
  rw [List.getElem?_map, List.getElem?_map, h] at e2
  exact Option.some.inj e2
end
/-- a def's datum -/
def mkD (x : Str) (st : Stmt) : He.DefD := ⟨(x, none), x, x, defArgs st, defBody st, defScope st, [], []⟩
theorem SaysS.fun_ {fa : List He.Fa} {fn : List He.DefD} {ex : Frag → Bool} {cs : List SupD} {K : Frag} (c : SaysS fa fn ex cs K) (i : Nat) {x : Str} {st : Stmt} (h : fn[i]? = some (mkD x st) := by rfl) : ∃ fd, L2.Fun K x x st (ga K x) fd := by
  obtain ⟨fd, F⟩ := c.d.def_ i h
  obtain ⟨oc, od, dV, kV, doc, pm, an, cdv, ct, osl, efd, lk, hcd, dfl, kwd⟩ := F.ex
  rcases dfl with ⟨_, e⟩ | ⟨ne, _⟩
  · subst e
    exact ⟨fd, ⟨oc, od, kV, doc, pm, an, cdv, ct, osl, efd, lk, hcd⟩, F.kp⟩
  · exact (ne rfl).elim
/-- a method's datum -/
def mkM (c m q : Str) (st : Stmt) : He.DefD := ⟨(c, some m), m, q, defArgs st, defBody st, defScope st, [], []⟩
theorem SaysS.meth_ {fa : List He.Fa} {fn : List He.DefD} {ex : Frag → Bool} {cs : List SupD} {K : Frag} (c : SaysS fa fn ex cs K) (i : Nat) {C m q : Str} {st : Stmt} (h : fn[i]? = some (mkM C m q st) := by rfl) : ∃ fd, L2.Fun K m q st (ma K (ga K C) m) fd := by
  obtain ⟨fd, F⟩ := c.d.def_ i h
  obtain ⟨oc, od, dV, kV, doc, pm, an, cdv, ct, osl, efd, lk, hcd, dfl, kwd⟩ := F.ex
  rcases dfl with ⟨_, e⟩ | ⟨ne, _⟩
  · subst e
    exact ⟨fd, ⟨oc, od, kV, doc, pm, an, cdv, ct, osl, efd, lk, hcd⟩, F.kp⟩
  · exact (ne rfl).elim
end Dl

namespace Dl
open PySem
/-! ### how long a text of data may be -/
mutual
def cost : PyData → Nat
  | .none => 4
  | .bool _ => 5
  | .int _ => 1921
  | .str x => (reprText x).length
  | .list xs => costAll xs + 3
  | .tuple xs => costAll xs + 3
  | .dict kvs => (PyData.shown (.dict kvs)).length
def costAll : List PyData → Nat
  | [] => 0
  | x :: xs => cost x + 2 + costAll xs
end
theorem textFrom_le : ∀ (ts : List Str) (k : Nat) (acc : Str), (textFrom k acc ts).length ≤ acc.length + piled ts
  | [], k, acc => Nat.le_add_right _ _
  | t :: ts, k, acc => by
    have h := textFrom_le ts (k + 1) (acc ++ (if k > 0 then ", " else "" : String) ++ t)
    have e : (textFrom k acc (t :: ts)) = textFrom (k + 1) (acc ++ (if k > 0 then ", " else "" : String) ++ t) ts := rfl
    rw [e, piled_cons]
    rw [Str.length_append, Str.length_append] at h
    have hs : (Str.ofString (if k > 0 then ", " else "" : String)).length ≤ 2 := by
      by_cases hk : k > 0
      · rw [if_pos hk]; decide
      · rw [if_neg hk]; decide
    omega
theorem listText_le (ts : List Str) : (listText ts).length ≤ piled ts + 2 := by
  unfold listText
  rw [Str.length_append]
  have := textFrom_le ts 0 "["
  have h1 : (Str.ofString "[").length = 1 := by decide
  have h2 : (Str.ofString "]").length = 1 := by decide
  omega
theorem tupleText_le (ts : List Str) : (tupleText ts).length ≤ piled ts + 3 := by
  unfold tupleText
  rw [Str.length_append, Str.length_append]
  have h1 : (Str.ofString "(").length = 1 := by decide
  have h3 : (Str.ofString (if ts.length == 1 then ",)" else ")" : String)).length ≤ 2 := by
    cases ts.length == 1 <;> decide
  cases ts with
  | nil =>
    have : (Str.join ", " ([] : List Str)).length = 0 := rfl
    rw [piled_nil]
    omega
  | cons t ts =>
    have := join_length_add (t :: ts) (by simp)
    omega
mutual
theorem shown_le : ∀ d : PyData, d.showable = true → d.shown.length ≤ cost d
  | .none, _ => by decide
  | .bool b, _ => by cases b <;> decide
  | .int i, h => by
    have h' : decide (i.natAbs.log2 < 1920) = true := by simpa [PyData.showable] using h
    simp only [PyData.shown, cost]
    exact PyProof.Rows.int_text_len_1921 (of_decide_eq_true h')
  | .str x, _ => by simp only [PyData.shown, cost]; exact Nat.le_refl _
  | .list xs, h => by
    have h' : PyData.showableAll xs = true := by simpa [PyData.showable] using h
    have := shownAll_le xs h'
    simp only [PyData.shown, cost]
    have := listText_le (PyData.shownAll xs)
    omega
  | .tuple xs, h => by
    have h' : PyData.showableAll xs = true := by simpa [PyData.showable] using h
    have := shownAll_le xs h'
    simp only [PyData.shown, cost]
    have := tupleText_le (PyData.shownAll xs)
    omega
  | .dict kvs, _ => by simp only [cost]; exact Nat.le_refl _
theorem shownAll_le : ∀ ds : List PyData, PyData.showableAll ds = true → piled (PyData.shownAll ds) ≤ costAll ds
  | [], _ => by simp [PyData.shownAll, piled_nil, costAll]
  | d :: ds, h => by
    have h' : d.showable = true ∧ PyData.showableAll ds = true := by simpa [PyData.showableAll] using h
    have h1 := shown_le d h'.1
    have h2 := shownAll_le ds h'.2
    simp only [PyData.shownAll, costAll, piled_cons]
    omega
end
end Dl

namespace Dl
open PySem PySem.Spec PyProof.Rows L2
/-! ### the readings' equations -/
section
variable {env e : En} {P : R → En → Prop} {Ex : Exn → En → Prop} {wa wb w : WE} {ws : List WE} {i j : Int} {n m : Nat} {x y : PyData} {xs ys : List PyData} {K : R → Prop} {a b : Str}
theorem wV_eq : wV n env P Ex = (match env[n]? with
  | some (.d x) => P (.d x) env
  | some (.own c) => P (.bw n c) env
  | some .deck => P .deck env
  | some (.opq v) => P (.opq v) env
  | _ => False) := rfl
theorem wC_eq : wC x env P Ex = P (.d x) env := rfl
theorem wOp_eq {op : Op2} : wOp op wa wb env P Ex = wa env (fun r e => wb e (fun s e' => match r.toD, s.toD with
  | some x, some y => op x y fun t => P t e'
  | _, _ => False) Ex) Ex := rfl
theorem wOp1_eq {op : Op1} : wOp1 op wa env P Ex = wa env (fun r e => match r.toD with
  | some x => op x fun t => P t e
  | _ => False) Ex := rfl
theorem wB_eq {op : OpN} : wB op ws env P Ex = wA ws env (fun rs e => match toDs rs with
  | some xs => op xs fun t => P t e
  | none => False) Ex := rfl
theorem wA_nil {P : List R → En → Prop} : wA [] env P Ex = P [] env := rfl
theorem wA_cons {P : List R → En → Prop} : wA (w :: ws) env P Ex = w env (fun r e => wA ws e (fun rs e' => P (r.calm :: rs) e') Ex) Ex := rfl
theorem wTup_eq : wTup ws env P Ex = wA ws env (fun rs e => match toDs rs with
  | some xs => P (.d (.tuple xs)) (holdAll rs e)
  | none => False) Ex := rfl
theorem wLst_eq : wLst ws env P Ex = wA ws env (fun rs e => match toDs rs with
  | some xs => P (.nw (.lst xs)) (holdAll rs e)
  | none => False) Ex := rfl
theorem wCall_eq {f : FSem} : wCall f ws env P Ex = wA ws env (fun rs e => f (rs.map argOf) (fun t => match t with
  | .deck => False
  | t => P t (if t.flat = true then e else holdAll rs e)) fun x => Ex x (holdAll rs e)) Ex := rfl
theorem wCallK_eq {f : FSem} {idx : List Nat} : wCallK f idx ws env P Ex = wA ws env (fun rs e => f ((prm idx rs).map argOf) (fun t => match t with
  | .deck => False
  | t => P t (if t.flat = true then e else holdAll (prm idx rs) e)) fun x => Ex x (holdAll (prm idx rs) e)) Ex := rfl
theorem wIf_eq {c : WT} : wIf c wa wb env P Ex = c env (fun k e => if k = true then wa e P Ex else wb e P Ex) Ex := rfl
theorem wAnd_eq : wAnd wa wb env P Ex = wa env (fun r e => match r.toD with
  | some (.bool b) => if b = true then wb e P Ex else P (.d (.bool false)) e
  | _ => False) Ex := rfl
theorem wOr_eq : wOr wa wb env P Ex = wa env (fun r e => match r.toD with
  | some (.bool b) => if b = true then P (.d (.bool true)) e else wb e P Ex
  | _ => False) Ex := rfl
theorem tOf_eq {P : Bool → En → Prop} : tOf w env P Ex = w env (fun r e => match r.toD with
  | some (.bool b) => P b e
  | _ => False) Ex := rfl
theorem tNotW_eq {t : WT} {P : Bool → En → Prop} : tNotW t env P Ex = t env (fun b e => P (!b) e) Ex := rfl
theorem tAndW_eq {t u : WT} {P : Bool → En → Prop} : tAndW t u env P Ex = t env (fun b e => if b = true then u e P Ex else P false e) Ex := rfl
theorem tOrW_eq {t u : WT} {P : Bool → En → Prop} : tOrW t u env P Ex = t env (fun b e => if b = true then P true e else u e P Ex) Ex := rfl
theorem wIsE_eq {k : Nat} {a D : Addr} {b : Bool} {cls : Value} {d : Option Addr} : wIsE k a D b cls d env P Ex = ((cls = .ref D ∧ d = none) ∧ env[k]? = some (.opq (.ref a)) ∧ P (.d (.bool b)) env) := rfl
/-! results -/
theorem toD_d : (R.d x).toD = some x := rfl
theorem toD_nw : (R.nw (.lst xs)).toD = some (.list xs) := rfl
theorem toD_bw : (R.bw n (.lst xs)).toD = some (.list xs) := rfl
theorem toD_deck : R.deck.toD = none := rfl
theorem calm_d : (R.d x).calm = .d x := rfl
theorem calm_nw : (R.nw (.lst xs)).calm = .d (.list xs) := rfl
theorem calm_bw {c : Cell} : (R.bw n c).calm = .bw n c := rfl
theorem calm_deck : R.deck.calm = .deck := rfl
theorem hold_d : (R.d x).hold e = e := rfl
theorem hold_nw {c : Cell} : (R.nw c).hold e = e := rfl
theorem hold_bw {c : Cell} : (R.bw n c).hold e = frz e n := rfl
theorem hold_deck : R.deck.hold e = e := rfl
theorem holdAll_nil : holdAll [] e = e := rfl
theorem holdAll_cons {r : R} {rs : List R} : holdAll (r :: rs) e = holdAll rs (r.hold e) := rfl
theorem toDs_nil : toDs [] = some [] := rfl
theorem toDs_d {rs : List R} : toDs (.d x :: rs) = (match toDs rs with
  | some xs => some (x :: xs)
  | none => none) := by
  show (match (R.d x).toD, toDs rs with
    | some x, some xs => some (x :: xs)
    | _, _ => none) = _
  cases toDs rs <;> rfl
theorem toDs_bw {rs : List R} : toDs (.bw n (.lst ys) :: rs) = (match toDs rs with
  | some xs => some (.list ys :: xs)
  | none => none) := by
  show (match (R.bw n (.lst ys)).toD, toDs rs with
    | some x, some xs => some (x :: xs)
    | _, _ => none) = _
  cases toDs rs <;> rfl
theorem argOf_d : argOf (.d x) = .d x := rfl
theorem argOf_bw : argOf (.bw n (.lst ys)) = .d (.list ys) := rfl
theorem argOf_nw : argOf (.nw (.lst ys)) = .d (.list ys) := rfl
theorem argOf_deck : argOf .deck = .deck := rfl
theorem flat_int : (R.d (.int i)).flat = true := rfl
theorem flat_str : (R.d (.str a)).flat = true := rfl
theorem flat_bool {k : Bool} : (R.d (.bool k)).flat = true := rfl
theorem flat_none : (R.d .none).flat = true := rfl
theorem flat_list : (R.d (.list xs)).flat = false := rfl
theorem flat_tuple : (R.d (.tuple xs)).flat = false := rfl
theorem flat_nw {c : Cell} : (R.nw c).flat = false := rfl
/-! operators -/
theorem dAdd_int : dAdd (.int i) (.int j) K = K (.d (.int (i + j))) := rfl
theorem dAdd_str : dAdd (.str a) (.str b) K = (a.length + b.length ≤ sizeLine ∧ K (.d (.str (a ++ b)))) := rfl
theorem dAdd_list : dAdd (.list xs) (.list ys) K = (xs.length + ys.length ≤ sizeLine ∧ K (.nw (.lst (xs ++ ys)))) := rfl
theorem dAdd_tuple : dAdd (.tuple xs) (.tuple ys) K = (xs.length + ys.length ≤ sizeLine ∧ K (.d (.tuple (xs ++ ys)))) := rfl
theorem dSub_int : dSub (.int i) (.int j) K = K (.d (.int (i - j))) := rfl
theorem dMul_int : dMul (.int i) (.int j) K = (MulC i j ∧ K (.d (.int (i * j)))) := rfl
theorem dMul_list : dMul (.list xs) (.int j) K = (-(2 ^ 63) ≤ j ∧ j < 2 ^ 63 ∧ xs.length * j.toNat ≤ sizeLine ∧ K (.nw (.lst (List.replicate j.toNat xs).flatten))) := rfl
theorem dInt_int {g : Int → Int → Int} {c : Int → Int → Prop} : dInt g c (.int i) (.int j) K = (c i j ∧ K (.d (.int (g i j)))) := rfl
theorem dNeg_int : dNeg (.int i) K = K (.d (.int (-i))) := rfl
theorem dEq_eq : dEq x y K = (EqC x y ∧ K (.d (.bool (PyData.eqv x y)))) := rfl
theorem dNe_eq : dNe x y K = (EqC x y ∧ K (.d (.bool (!PyData.eqv x y)))) := rfl
theorem and_c {p q : Prop} (h : p) : (p ∧ q) = q := propext ⟨fun z => z.2, fun z => ⟨h, z⟩⟩
theorem dEq_int : dEq (.int i) (.int j) K = K (.d (.bool (i == j))) := and_c (.inl rfl)
theorem dEq_str : dEq (.str a) (.str b) K = K (.d (.bool (a == b))) := and_c (.inl rfl)
theorem dNe_int : dNe (.int i) (.int j) K = K (.d (.bool (!(i == j)))) := and_c (.inl rfl)
theorem dNe_str : dNe (.str a) (.str b) K = K (.d (.bool (!(a == b)))) := and_c (.inl rfl)
theorem dCmp_int {p : Int → Int → Bool} {q : Str → Str → Bool} : dCmp p q (.int i) (.int j) K = K (.d (.bool (p i j))) := rfl
theorem dAbs_int : dAbs [.int i] K = K (.d (.int (i.natAbs : Int))) := rfl
theorem dInt1_int : dInt1 [.int i] K = K (.d (.int i)) := rfl
theorem dInt1_bool {k : Bool} : dInt1 [.bool k] K = K (.d (.int (if k then 1 else 0))) := rfl
theorem dGcd_int : dGcd [.int i, .int j] K = K (.d (.int (Int.gcd i j))) := rfl
theorem dRepr_eq : dRepr [x] K = (x.showable = true ∧ okD x = true ∧ x.depth ≤ 60 ∧ x.shown.length ≤ sizeLine ∧ K (.d (.str x.shown))) := rfl
end
/-! statements -/
section
variable {env e : En} {P : Pd} {w : WE} {n m : Nat} {x y : PyData} {xs ys : List PyData} {wb ws : WS}
theorem wSet_eq : wSet n w env P = w env (fun r e => P.nx (stE n r e)) P.ex := rfl
theorem wRet_eq : wRet w env P = w env (fun r e => P.rt (retR r e)) P.ex := rfl
theorem wDrop_eq : wDrop w env P = w env (fun _ e => P.nx e) P.ex := rfl
theorem wIfS_eq {c : WT} : wIfS c wb ws env P = c env (fun k e => if k = true then wb e P else ws e P) P.ex := rfl
theorem wSeq_eq : wSeq wb ws env P = wb env { P with nx := fun e => ws e P } := rfl
theorem wNext_eq : wNext env P = P.nx env := rfl
theorem wBreak_eq : wBreak env P = P.bk env := rfl
theorem wCont_eq : wCont env P = P.ct env := rfl
theorem wPar_eq {wa wb : WE} : wPar n m wa wb env P = wA [wa, wb] env (fun rs e => match toDs rs with
  | some [x, y] => P.nx (((holdAll rs e).set n (.d x)).set m (.d y))
  | _ => False) P.ex := rfl
theorem wPar3_eq {l : Nat} {wa wb wc : WE} : wPar3 n m l wa wb wc env P = wA [wa, wb, wc] env (fun rs e => match toDs rs with
  | some [x, y, z] => P.nx ((((holdAll rs e).set n (.d x)).set m (.d y)).set l (.d z))
  | _ => False) P.ex := rfl
theorem wTryAs_eq {g : DG} {em : Str → Option Bool} {i : Nat} {w2 : Addr → Value → Option Addr → WS} : wTryAs g em i wb w2 env P = wb env { P with ex := fun x e => match em x.cls with
  | some true => ∀ a cls d, (∃ ax, g.mg x.cls = some (.ref ax) ∧ cls = .ref ax) → (x.val = [] → d = none) → w2 a cls d (e.set i (.opq (.ref a))) (P.sub i)
  | some false => P.ex x e
  | none => False } := rfl
theorem wAsg_eq {t : WG} : wAsg w t env P = w env (fun r e => match r.toD with
  | some x => t x (r.hold e) P.nx
  | none => False) P.ex := rfl
theorem wForI_eq {i : WI} {t : WG} : wForI i t wb env P = i env (fun xs e => wFor t wb xs e P) P.ex := rfl
theorem stE_d : stE n (.d x) e = e.set n (.d x) := rfl
theorem stE_nw {c : Cell} : stE n (.nw c) e = e.set n (.own c) := rfl
theorem stE_bw : stE n (.bw m (.lst xs)) e = (frz e m).set n (.d (.list xs)) := rfl
theorem stE_deck : stE n .deck e = e.set n .deck := rfl
theorem retR_d : retR (.d x) e = .d x := rfl
theorem retR_nw {c : Cell} : retR (.nw c) e = .nw c := rfl
theorem bodyP_nx {Q : R → Prop} {Ex : Exn → Prop} : (bodyP Q Ex).nx e = Q (.d .none) := rfl
theorem bodyP_rd {Q : R → Prop} {Ex : Exn → Prop} : (bodyP Q Ex).rt (.d x) = Q (.d x) := rfl
theorem bodyP_rn {Q : R → Prop} {Ex : Exn → Prop} {c : Cell} : (bodyP Q Ex).rt (.nw c) = Q (.nw c) := rfl
theorem bodyP_ex {Q : R → Prop} {Ex : Exn → Prop} {z : Exn} : (bodyP Q Ex).ex z e = Ex z := rfl
theorem gN_eq {K : En → Prop} : gN n x e K = K (e.set n (.d x)) := rfl
/-- a loop over data -/
theorem p_for {t : WG} {b : WS} (Iv : Nat → En → Prop) : ∀ {xs : List PyData} {env : En} {P : Pd} (k : Nat), Iv k env →
    (∀ i x e (K : En → Prop), xs[i]? = some x → Iv (k + i) e → (∀ e', Iv (k + i + 1) e' → K e') → t x e fun e1 => b e1 { P with nx := K, ct := K, bk := P.nx }) → (∀ e, Iv (k + xs.length) e → P.nx e) → wFor t b xs env P
  | [], env, P, k, h0, _, fin => fin env h0
  | x :: xs, env, P, k, h0, step, fin => step 0 x env _ rfl h0 fun e' i' => p_for Iv (k + 1) i' (fun i y e K hy iv hk => by
      have := step (i + 1) y e K (by simpa using hy) (by rw [show k + (i + 1) = k + 1 + i by omega]; exact iv) (fun e' z => hk e' (by rw [show k + 1 + i + 1 = k + (i + 1) + 1 by omega]; exact z))
      exact this) fun e iv => fin e (by rw [List.length_cons, show k + (xs.length + 1) = k + 1 + xs.length by omega]; exact iv)
/-- a list display with for -/
theorem p_lc {vs : List Nat} {t : WG} {c : WT} {w : WE} (Iv : Nat → List PyData → En → Prop) : ∀ {xs acc : List PyData} {env : En} {K : List PyData → En → Prop} (k : Nat), Iv k acc env →
    (∀ i x ac e (K' : List PyData → En → Prop), xs[i]? = some x → Iv (k + i) ac e → (∀ ac' e', Iv (k + i + 1) ac' e' → K' ac' e') → t x (wipeE vs e) fun e1 => c e1 (fun b e2 => if b = true then w e2 (fun r e3 => match r.toD with
      | some y => K' (ac ++ [y]) (restE vs e (r.hold e3))
      | none => False) (fun _ _ => False) else K' ac (restE vs e e2)) fun _ _ => False) → (∀ ac e, Iv (k + xs.length) ac e → K ac e) → wLcL vs t c w xs acc env K
  | [], acc, env, K, k, h0, _, fin => fin acc env h0
  | x :: xs, acc, env, K, k, h0, step, fin => step 0 x acc env (fun ac e => wLcL vs t c w xs ac e K) rfl h0 fun ac' e' i' => p_lc Iv (k + 1) i' (fun i y ac e K' hy iv hk => by
      have := step (i + 1) y ac e K' (by simpa using hy) (by rw [show k + (i + 1) = k + 1 + i by omega]; exact iv) (fun ac' e' z => hk ac' e' (by rw [show k + 1 + i + 1 = k + (i + 1) + 1 by omega]; exact z))
      exact this) fun ac e iv => fin ac e (by rw [List.length_cons, show k + (xs.length + 1) = k + 1 + xs.length by omega]; exact iv)
end
end Dl

namespace Dl
open PySem PySem.Spec PyProof.Rows L2
section
variable {e env : En} {i j : Int} {n : Nat} {x y z u : PyData} {xs ys : List PyData} {K : R → Prop} {a b : Str} {P : List PyData → En → Prop} {Ex : Exn → En → Prop} {Q : En → Prop} {ws : List WE} {w : WE}
theorem atI_nat {α : Type} {l : List α} {k : Nat} (h : k < l.length) : atI l (k : Int) = l[k]? := by
  unfold atI ixN
  rw [if_pos (by omega), if_pos (by omega)]
  show l[(k : Int).toNat]? = _
  rw [Int.toNat_natCast]
theorem atI0 {α : Type} {x : α} {l : List α} : atI (x :: l) 0 = some x := by
  have := atI_nat (l := x :: l) (k := 0) (by simp)
  simpa using this
theorem atI1 {α : Type} {x y : α} {l : List α} : atI (x :: y :: l) 1 = some y := by
  have := atI_nat (l := x :: y :: l) (k := 1) (by simp)
  simpa using this
theorem atI2 {α : Type} {x y z : α} {l : List α} : atI (x :: y :: z :: l) 2 = some z := by
  have := atI_nat (l := x :: y :: z :: l) (k := 2) (by simp)
  simpa using this
theorem atI3 {α : Type} {x y z u : α} {l : List α} : atI (x :: y :: z :: u :: l) 3 = some u := by
  have := atI_nat (l := x :: y :: z :: u :: l) (k := 3) (by simp)
  simpa using this
theorem dIx_list : dIx (.list xs) (.int i) K = (match atI xs i with
  | some z => K (.d z)
  | none => False) := rfl
theorem dIx_tuple : dIx (.tuple xs) (.int i) K = (match atI xs i with
  | some z => K (.d z)
  | none => False) := rfl
theorem dLen_list : dLen [.list xs] K = K (.d (.int xs.length)) := rfl
theorem dLen_tuple : dLen [.tuple xs] K = K (.d (.int xs.length)) := rfl
theorem dLen_str : dLen [.str a] K = (a.length ≤ sizeLine ∧ K (.d (.int a.length))) := rfl
theorem gTupW_eq {f : List PyData → En → (En → Prop) → Prop} : gTupW n f (.tuple xs) e Q = (xs.length = n ∧ f xs e Q) := rfl
theorem gNilW_eq : gNilW [] e Q = Q e := rfl
theorem gConsW_eq {t : WG} {f : List PyData → En → (En → Prop) → Prop} : gConsW t f (x :: xs) e Q = t x e fun e' => f xs e' Q := rfl
theorem wiC_eq {c : List PyData → Prop} {op : List PyData → List PyData} : wiC c op ws env P Ex = wA ws env (fun rs e => match toDs rs with
  | some xs => c xs ∧ P (op xs) (holdAll rs e)
  | none => False) Ex := rfl
theorem wiS_eq : wiS w env P Ex = w env (fun r e => match r.toD with
  | some x => (match itemsD x with
    | some ds => P ds (r.hold e)
    | none => False)
  | none => False) Ex := rfl
theorem itemsD_l : itemsD (.list xs) = some xs := rfl
theorem itemsD_t : itemsD (.tuple xs) = some xs := rfl
theorem cR1_eq : cR1 [.int j] = Small j := rfl
theorem oR1_eq : oR1 [.int j] = rangeD 0 j.toNat := rfl
theorem rangeD_at {lo : Int} {k : Nat} {x : PyData} (h : (rangeD lo n)[k]? = some x) : k < n ∧ x = .int (lo + k) := by
  unfold rangeD at h
  rw [List.getElem?_map] at h
  cases q : (List.range n)[k]? with
  | none => rw [q] at h; cases h
  | some m =>
    rw [q] at h
    have hk : k < n := by have := (List.getElem?_eq_some_iff.mp q).1; rwa [List.length_range] at this
    rw [List.getElem?_range hk] at q
    cases q
    exact ⟨hk, (Option.some.inj h).symm⟩
theorem rangeD_len {lo : Int} : (rangeD lo n).length = n := by unfold rangeD; rw [List.length_map, List.length_range]
/-- an item at a drawn place -/
theorem at_draw {α : Type} {l : List α} (h : l ≠ []) {r : Int} (d : drawOk l.length r) : ∃ x ∈ l, atI l r = some x := by
  have hl : 0 < l.length := by cases l with | nil => exact (h rfl).elim | cons _ _ => simp
  obtain ⟨k, rfl⟩ := Int.eq_ofNat_of_zero_le d.1
  have hk : k < l.length := by rcases d.2 with q | q <;> omega
  refine ⟨l[k], List.getElem_mem hk, ?_⟩
  rw [atI_nat hk]
  exact List.getElem?_eq_getElem hk
end
/-- a statement, then the rest, told by a name -/
theorem p_seq {a b : WS} {env : En} {P : Pd} (h : ∀ N : En → Prop, (∀ e, b e P → N e) → a env ⟨N, P.rt, P.bk, P.ct, P.ex⟩) : wSeq a b env P := h _ fun _ z => z
/-! ### how great -/
def Bd (n : Nat) (i : Int) : Prop := i.natAbs < 2 ^ n
theorem Bd.mono {m n : Nat} {i : Int} (h : Bd m i) (l : m ≤ n) : Bd n i := Nat.lt_of_lt_of_le h (Nat.pow_le_pow_right (by omega) l)
theorem Bd.mul {m n : Nat} {i j : Int} (h : Bd m i) (k : Bd n j) : Bd (m + n) (i * j) := by
  unfold Bd
  rw [Int.natAbs_mul, Nat.pow_add]
  exact Nat.mul_lt_mul_of_lt_of_le h (Nat.le_of_lt k) (by exact Nat.two_pow_pos n)
theorem Bd.add {m : Nat} {i j : Int} (h : Bd m i) (k : Bd m j) : Bd (m + 1) (i + j) := by
  unfold Bd at *
  have := Int.natAbs_add_le i j
  rw [Nat.pow_succ]
  omega
theorem Bd.neg {m : Nat} {i : Int} (h : Bd m i) : Bd m (-i) := by
  unfold Bd
  rw [Int.natAbs_neg]
  exact h
theorem Bd.le {m : Nat} {i j : Int} (h : Bd m j) (l : i.natAbs ≤ j.natAbs) : Bd m i := Nat.lt_of_le_of_lt l h
theorem bd_c {m : Nat} {i : Int} (h : i.natAbs < 2 ^ m) : Bd m i := h
theorem Bd.log {m : Nat} {i : Int} (h : Bd m i) (hm : 0 < m) : i.natAbs.log2 < m := by
  by_cases z : i.natAbs = 0
  · rw [z]; simpa using hm
  · exact (Nat.log2_lt z).mpr h
theorem Bd.mulC {m n : Nat} {i j : Int} (h : Bd m i) (k : Bd n j) (hs : m + n < 1000000) (hm : 0 < m) (hn : 0 < n) : MulC i j := by
  have h1 := h.log hm
  have h2 := k.log hn
  exact CMulW.ok (show i.natAbs.log2 + j.natAbs.log2 < 1000000 by omega)
theorem Bd.divC {m : Nat} {i j : Int} (h : Bd m j) (hj : j ≠ 0) (hm : 0 < m) (hs : m ≤ 8000) : DivC i j := ⟨hj, PyProof.noPylong_of_log2 (by have := h.log hm; omega)⟩
theorem Bd.sh {m : Nat} {i : Int} (h : Bd m i) (hm : 0 < m) (hs : m ≤ 1920) : (PyData.int i).showable = true := decide_eq_true (Nat.lt_of_lt_of_le (h.log hm) hs)
/-! ### fractions -/
/-- what both are divided by -/
def cdv (a b : Int) : Int := if b < 0 then -(Int.gcd a b : Int) else (Int.gcd a b : Int)
def frP (a b : Int) : Int := a.fdiv (cdv a b)
def frQ (a b : Int) : Int := b.fdiv (cdv a b)
def frD (a b : Int) : PyData := .tuple [.int (frP a b), .int (frQ a b)]
theorem gcd_ne {a b : Int} (h : b ≠ 0) : (Int.gcd a b : Int) ≠ 0 := fun z => h (Int.gcd_eq_zero_iff.mp (by exact_mod_cast z)).2
theorem cdv_ne {a b : Int} (h : b ≠ 0) : cdv a b ≠ 0 := by
  have := gcd_ne (a := a) h
  unfold cdv
  split <;> omega
theorem cdv_bd {a b : Int} {m : Nat} (h : b ≠ 0) (k : Bd m b) : Bd m (cdv a b) := by
  have h1 : Int.gcd a b ≤ b.natAbs := Nat.le_of_dvd (by omega) (Nat.gcd_dvd_right a.natAbs b.natAbs)
  unfold cdv
  refine k.le ?_
  split <;> omega
theorem fdiv_exact {a c : Int} (hc : c ≠ 0) (h : c ∣ a) : ∃ q, a.fdiv c = q ∧ a = c * q ∧ q.natAbs ≤ a.natAbs := by
  obtain ⟨q, rfl⟩ := h
  refine ⟨q, Int.mul_fdiv_cancel_left q hc, rfl, ?_⟩
  rw [Int.natAbs_mul]
  exact Nat.le_mul_of_pos_left _ (by omega)
theorem cdv_dvd {a b : Int} : cdv a b ∣ a ∧ cdv a b ∣ b := by
  unfold cdv
  split
  · exact ⟨Int.neg_dvd.mpr (Int.gcd_dvd_left ..), Int.neg_dvd.mpr (Int.gcd_dvd_right ..)⟩
  · exact ⟨Int.gcd_dvd_left .., Int.gcd_dvd_right ..⟩
theorem frP_le {a b : Int} (h : b ≠ 0) : (frP a b).natAbs ≤ a.natAbs := by
  obtain ⟨q, e, _, l⟩ := fdiv_exact (cdv_ne (a := a) h) (cdv_dvd (a := a) (b := b)).1
  unfold frP
  rw [e]
  exact l
theorem frQ_le {a b : Int} (h : b ≠ 0) : (frQ a b).natAbs ≤ b.natAbs ∧ frQ a b ≠ 0 := by
  obtain ⟨q, e, m, l⟩ := fdiv_exact (cdv_ne (a := a) h) (cdv_dvd (a := a) (b := b)).2
  unfold frQ
  rw [e]
  refine ⟨l, fun z => h ?_⟩
  rw [m, z, Int.mul_zero]
end Dl

namespace Dl
open PySem PySem.Spec PyProof.Rows L2
section
variable {env e : En} {P : R → En → Prop} {Ex : Exn → En → Prop} {wa wb wc w wi wv : WE} {ws : List WE} {i j : Int} {n m : Nat} {x y : PyData} {xs ys : List PyData} {K : R → Prop} {a b z : Str} {ds : List (PyData × PyData)} {Q : Pd}
theorem wSl_eq {wl wh : WO} : wSl w wl wh env P Ex = w env (fun r e1 => wl e1 (fun l e2 => wh e2 (fun h e3 => match r.calm.toD with
  | some x => dSl x l h fun t => P t e3
  | none => False) Ex) Ex) Ex := rfl
theorem oNone_eq {P : Option Int → En → Prop} : oNone env P Ex = P none env := rfl
theorem oSome_eq {P : Option Int → En → Prop} : oSome w env P Ex = w env (fun r e => match r.toD with
  | some (.int i) => P (some i) e
  | _ => False) Ex := rfl
theorem dSl_list {lo hi : Option Int} : dSl (.list xs) lo hi K = K (.nw (.lst (cutA xs lo hi))) := rfl
theorem dSl_tuple {lo hi : Option Int} : dSl (.tuple xs) lo hi K = K (.d (.tuple (cutA xs lo hi))) := rfl
theorem dSl_str {lo hi : Option Int} : dSl (.str z) lo hi K = (z.length ≤ sizeLine ∧ K (.d (.str (cutS z lo hi)))) := rfl
theorem wChain_eq {o1 o2 : Op2} : wChain o1 o2 wa wb wc env P Ex = wa env (fun r e1 => wb e1 (fun s e2 => match r.calm.toD, s.calm.toD with
  | some x, some y => o1 x y fun t => match t with
    | .d (.bool k) => if k = true then wc e2 (fun u e3 => match u.toD with
        | some z => o2 y z fun t => P t e3
        | none => False) Ex else P (.d (.bool false)) e2
    | _ => False
  | _, _ => False) Ex) Ex := rfl
theorem wDisp_eq {ks : List Key} : wDisp ks ws env P Ex = wA ws env (fun rs e => match toDs rs with
  | some xs => P (.nw (.dic ks xs)) (holdAll rs e)
  | none => False) Ex := rfl
theorem wDict0_eq : wDict0 env P Ex = P (.nw (.dic [] [])) env := rfl
theorem wM_eq {op : OpM} : wM op w ws env P Ex = w env (fun r e1 => match r.toD with
  | some (.str z) => wA ws e1 (fun rs e2 => match toDs rs with
    | some xs => op z xs fun t => P t e2
    | none => False) Ex
  | _ => False) Ex := rfl
theorem dSum_list : dSum [.list xs] K = ∃ is, intsD xs = some is ∧ K (.d (.int is.sum)) := rfl
theorem dSum_tuple : dSum [.tuple xs] K = ∃ is, intsD xs = some is ∧ K (.d (.int is.sum)) := rfl
theorem dMax_list : dMax [.list xs] K = ∃ is, intsD xs = some is ∧ 0 < is.length ∧ ∀ m, m ∈ is → (∀ y, y ∈ is → y ≤ m) → K (.d (.int m)) := rfl
theorem dMax_two : dMax [.int i, .int j] K = K (.d (.int (if j > i then j else i))) := rfl
theorem dMin_list : dMin [.list xs] K = ∃ is, intsD xs = some is ∧ 0 < is.length ∧ ∀ m, m ∈ is → (∀ y, y ∈ is → m ≤ y) → K (.d (.int m)) := rfl
theorem dMin_two : dMin [.int i, .int j] K = K (.d (.int (if j < i then j else i))) := rfl
theorem dLcm_int : dLcm [.int i, .int j] K = (LcmC i ∧ LcmC j ∧ K (.d (.int ((Nat.lcm i.natAbs j.natAbs : Nat) : Int)))) := rfl
theorem dAllAny_list {f : List Bool → Bool} : dAllAny f [.list xs] K = ∃ is, boolsD xs = some is ∧ K (.d (.bool (f is))) := rfl
theorem dSorted_list : dSorted [.list xs] K = ((∃ is, intsD xs = some is ∧ ∀ js : List Int, js.Perm is → js.Pairwise (· ≤ ·) → K (.nw (.lst (js.map PyData.int)))) ∨
    (∃ is, strsD xs = some is ∧ is.length < 64 ∧ ∀ js : List Str, js.Perm is → sortedS js = true → K (.nw (.lst (js.map PyData.str))))) := rfl
theorem dJoin_list : dJoin z [.list xs] K = ∃ ys, strsD xs = some ys ∧ (ys.map (·.length)).sum + ys.length * z.length ≤ 16777216 ∧ K (.d (.str (Txt.join z ys))) := rfl
theorem dJoin_tuple : dJoin z [.tuple xs] K = ∃ ys, strsD xs = some ys ∧ (ys.map (·.length)).sum + ys.length * z.length ≤ 16777216 ∧ K (.d (.str (Txt.join z ys))) := rfl
theorem dSIndex_eq : dSIndex z [.str b] K = ∃ i rest, Builtin.Str.occurrences z b 0 z.length 1 = i :: rest ∧ K (.d (.int (i : Nat))) := rfl
theorem dIsi_eq {T : String} : dIsi T [x] K = (isIns x = false ∧ K (.d (.bool (isiB x T)))) := rfl
theorem dList2_list : dList2 [.list xs] K = K (.nw (.lst xs)) := rfl
theorem dList2_tuple : dList2 [.tuple xs] K = K (.nw (.lst xs)) := rfl
theorem dList2_str : dList2 [.str z] K = (z.length ≤ sizeLine ∧ K (.nw (.lst (signsD z)))) := rfl
theorem dTuple_list : dTuple [.list xs] K = K (.d (.tuple xs)) := rfl
theorem dTuple_tuple : dTuple [.tuple xs] K = K (.d (.tuple xs)) := rfl
theorem dIx_dictS : dIx (.dict ds) (.str z) K = (match dgetK ds (.inr z) with
  | some z => K (.d z)
  | none => False) := rfl
theorem dIx_dictI : dIx (.dict ds) (.int i) K = (match dgetK ds (.inl i) with
  | some z => K (.d z)
  | none => False) := rfl
theorem dIx_str : dIx (.str z) (.int i) K = (match atI z.cps.toList i with
  | some c => z.length ≤ sizeLine ∧ K (.d (.str ⟨#[c]⟩))
  | none => False) := rfl
theorem wApp_eq : wApp n w env Q = ((∃ xs, env[n]? = some (.own (.lst xs))) ∧ wA [w] env (fun rs e => ∃ xs x, (holdAll rs e)[n]? = some (.own (.lst xs)) ∧ toDs rs = some [x] ∧ xs.length < sizeLine ∧ Q.nx ((holdAll rs e).set n (.own (.lst (xs ++ [x]))))) Q.ex) := rfl
theorem wExt_eq : wExt n w env Q = ((∃ xs, env[n]? = some (.own (.lst xs))) ∧ wA [w] env (fun rs e => ∃ xs ys, e[n]? = some (.own (.lst xs)) ∧ toDs rs = some [.list ys] ∧ xs.length + ys.length ≤ sizeLine ∧ Q.nx (e.set n (.own (.lst (xs ++ ys))))) Q.ex) := rfl
theorem wSto_eq : wSto n wi wv env Q = wv env (fun r e => (∃ xs, e[n]? = some (.own (.lst xs))) ∧ wi e (fun s e2 => ∃ xs x k j, (r.calm.hold e2)[n]? = some (.own (.lst xs)) ∧ r.calm.toD = some x ∧ s.toD = some (.int k) ∧ ixN xs.length k = some j ∧
  Q.nx ((r.calm.hold e2).set n (.own (.lst (xs.set j x))))) Q.ex) Q.ex := rfl
theorem wParO_eq : wParO n m wa wb env Q = wa env (fun r e1 => match r with
  | .nw c => wb e1 (fun s e2 => Q.nx ((stE m s e2).set n (.own c))) Q.ex
  | _ => False) Q.ex := rfl
theorem wAppPop_eq : wAppPop n m w env Q = ((∃ xs, env[n]? = some (.own (.lst xs))) ∧ (∃ ys, env[m]? = some (.own (.lst ys))) ∧ wA [w] env (fun rs e => ∃ xs ys k x, e[n]? = some (.own (.lst xs)) ∧ e[m]? = some (.own (.lst ys)) ∧ toDs rs = some [.int k] ∧ 0 ≤ k ∧ k < 2 ^ 62 ∧
  ys[k.toNat]? = some x ∧ xs.length < sizeLine ∧ Q.nx ((e.set m (.own (.lst (ys.eraseIdx k.toNat)))).set n (.own (.lst (xs ++ [x]))))) Q.ex) := rfl
theorem wLc_eq {vs : List Nat} {it : WI} {t : WG} {c : WT} : wLc vs it t c w env P Ex = it env (fun xs e => xs.length ≤ sizeLine ∧ wLcL vs t c w xs [] (frzAll vs e) fun acc e' => P (.nw (.lst acc)) e') Ex := rfl
theorem tYesW_eq {P : Bool → En → Prop} : tYesW env P Ex = P true env := rfl
theorem wipeE_nil : wipeE [] e = e := rfl
theorem wipeE_cons {vs : List Nat} : wipeE (n :: vs) e = (wipeE vs e).set n .no := rfl
theorem restE_nil {e2 : En} : restE [] e e2 = e2 := rfl
theorem restE_cons {vs : List Nat} {e2 : En} : restE (n :: vs) e e2 = (restE vs e e2).set n ((e[n]?).getD .no) := rfl
theorem frzAll_nil : frzAll [] e = e := rfl
theorem frzAll_cons {vs : List Nat} : frzAll (n :: vs) e = frzAll vs (frz e n) := rfl
theorem frz_nil : frz [] n = [] := by unfold frz; simp
theorem frz_zero {s : Sl} : frz (s :: e) 0 = frzS s :: e := rfl
theorem frz_succ {s : Sl} : frz (s :: e) (n + 1) = s :: frz e n := rfl
theorem frzS_no : frzS .no = .no := rfl
theorem frzS_d : frzS (.d x) = .d x := rfl
theorem frzS_deck : frzS .deck = .deck := rfl
theorem frzS_opq {v : V} : frzS (.opq v) = .opq v := rfl
theorem frzS_lst : frzS (.own (.lst xs)) = .d (.list xs) := rfl
theorem getD_some {s d : Sl} : (some s).getD d = s := rfl
theorem toD_nwc {c : Cell} : (R.nw c).toD = c.toD := rfl
theorem toD_bwc {c : Cell} : (R.bw n c).toD = c.toD := rfl
theorem ctoD_lst : (Cell.lst xs).toD = some (.list xs) := rfl
theorem ctoD_dic {ks : List Key} : (Cell.dic ks xs).toD = some (.dict ((ks.map kD).zip xs)) := rfl
theorem calm_dic {ks : List Key} : (R.nw (.dic ks xs)).calm = .d (.dict ((ks.map kD).zip xs)) := rfl
theorem itemsD_s : itemsD (.str z) = some (signsD z) := rfl
end
end Dl

namespace Dl
open PySem PySem.Spec PyProof.Rows L2
section
variable {env : En} {Q : Pd} {w wa wb wc : WE} {n m l : Nat} {v : V}
theorem wSetD_eq : wSetD n w env Q = w env (fun r e => Q.nx (stE n r.calm e)) Q.ex := rfl
theorem wRaise1_eq {c f : Str} : wRaise1 c f w env Q = wA [w] env (fun rs e => match toDs rs with
  | some [x] => Q.ex ⟨c, [(f, x)]⟩ (holdAll rs e)
  | _ => False) Q.ex := rfl
theorem wTryAsF_eq {g : DG} {em : Str → Option Bool} {i : Nat} {wb : WS} {w2 : Addr → Value → Option Addr → WS} : wTryAsF g em i wb w2 env Q = wb env { Q with ex := fun x e => match em x.cls with
  | some true => wAsF g w2 i Q e x.cls x.val
  | some false => Q.ex x e
  | none => False } := rfl
theorem wAsF_one {g : DG} {i : Nat} {w2 : Addr → Value → Option Addr → WS} {e : En} {c f : Str} {y : PyData} : wAsF g w2 i Q e c [(f, y)] = ∀ a cls dd, (∃ ax, g.mg c = some (.ref ax) ∧ cls = .ref ax) → w2 a cls (some dd) (e.set i (.d (.dict (excD a dd [f] [y])))) (Q.sub i) := rfl
theorem wIsF_eq {k : Nat} {a D : Addr} {b : Bool} {cls : Value} {d : Option Addr} {P : R → En → Prop} {Ex : Exn → En → Prop} : wIsF k a D b cls d env P Ex = (cls = .ref D ∧ (∃ dd f y, d = some dd ∧ env[k]? = some (.d (.dict (excD a dd [f] [y])))) ∧ P (.d (.bool b)) env) := rfl
theorem wXf_eq {k : Nat} {a D : Addr} {f : Str} {cls : Value} {d : Option Addr} {P : R → En → Prop} {Ex : Exn → En → Prop} : wXf k a D f cls d env P Ex = (cls = .ref D ∧ ∃ dd y, d = some dd ∧ env[k]? = some (.d (.dict (excD a dd [f] [y]))) ∧ P (.d y) env) := rfl
theorem dTuple2_list {xs : List PyData} {K : R → Prop} : dTuple2 [.list xs] K = K (.d (.tuple xs)) := rfl
theorem dTuple2_tuple {xs : List PyData} {K : R → Prop} : dTuple2 [.tuple xs] K = K (.d (.tuple xs)) := rfl
theorem dTuple2_str {z : Str} {K : R → Prop} : dTuple2 [.str z] K = (z.length ≤ sizeLine ∧ K (.d (.tuple (signsD z)))) := rfl
theorem wParDO_eq : wParDO n m wa wb env Q = wa env (fun r e1 => match r.calm with
  | .d x => wb e1 (fun s e2 => Q.nx ((stE m s e2).set n (.d x))) Q.ex
  | _ => False) Q.ex := rfl
theorem wPar3O_eq : wPar3O n m l wa wb wc env Q = wa env (fun r e1 => match r with
  | .nw c => wA [wb, wc] e1 (fun rs e2 => match toDs rs with
    | some [y, z] => Q.nx ((((holdAll rs e2).set m (.d y)).set l (.d z)).set n (.own c))
    | _ => False) Q.ex
  | _ => False) Q.ex := rfl
theorem gTupL_eq {f : List PyData → En → (En → Prop) → Prop} {xs : List PyData} {e : En} {Q : En → Prop} : gTupW n f (.list xs) e Q = (xs.length = n ∧ f xs e Q) := rfl
theorem lawE_eq {N : List Str} {a : Addr} : lawE N a = .opq (.ref a) :: .deck :: List.replicate (N.length - 2) .no := rfl
theorem lawP_rt {r : R} : lawP.rt r = (r = .d (.bool true)) := rfl
theorem lawP_nx {e : En} : lawP.nx e = False := rfl
theorem wIns_eq : wIns n wa wb env Q = ((∃ xs, env[n]? = some (.own (.lst xs))) ∧ wA [wa, wb] env (fun rs e => ∃ xs k x, (holdAll rs e)[n]? = some (.own (.lst xs)) ∧ toDs rs = some [.int k, x] ∧ xs.length < sizeLine ∧ 0 ≤ k ∧ k < 2 ^ 62 ∧
  Q.nx ((holdAll rs e).set n (.own (.lst (xs.take k.toNat ++ [x] ++ xs.drop k.toNat))))) Q.ex) := rfl
theorem wPopS_eq : wPopS n env Q = ∃ xs x, env[n]? = some (.own (.lst (xs ++ [x]))) ∧ Q.nx (env.set n (.own (.lst xs))) := rfl
theorem wSetPop_eq : wSetPop m n env Q = ∃ xs x, env[n]? = some (.own (.lst (xs ++ [x]))) ∧ Q.nx ((env.set n (.own (.lst xs))).set m (.d x)) := rfl
theorem wSetPopAt_eq : wSetPopAt m n w env Q = ((∃ xs, env[n]? = some (.own (.lst xs))) ∧ wA [w] env (fun rs e => ∃ xs k x, e[n]? = some (.own (.lst xs)) ∧ toDs rs = some [.int k] ∧ 0 ≤ k ∧ k < 2 ^ 62 ∧ xs[k.toNat]? = some x ∧ Q.nx ((e.set n (.own (.lst (xs.eraseIdx k.toNat)))).set m (.d x))) Q.ex) := rfl
theorem dRev_list {xs : List PyData} {K : R → Prop} : dRev (.list xs) K = K (.nw (.lst xs.reverse)) := rfl
theorem dLr1_eq {j : Int} {K : R → Prop} : dLr1 (.int j) K = (RgOk 0 j ∧ K (.nw (.lst (rangeD 0 j.toNat)))) := rfl
theorem dLr2_eq {i j : Int} {K : R → Prop} : dLr2 (.int i) (.int j) K = (RgOk i j ∧ K (.nw (.lst (rangeD i (j - i).toNat)))) := rfl
theorem wDUpd_eq : wDUpd n w env Q = ((∃ ks xs, env[n]? = some (.own (.dic ks xs))) ∧ wA [w] env (fun rs e => ∃ ks xs ls ys, (holdAll rs e)[n]? = some (.own (.dic ks xs)) ∧ toDs rs = some [.dict ((ls.map kD).zip ys)] ∧ ls.length = ys.length ∧ ls ≠ [] ∧ (ks ++ ls).Nodup ∧ ks.length + ls.length ≤ 1000 ∧
  Q.nx ((holdAll rs e).set n (.own (.dic (ks ++ ls) (xs ++ ys))))) Q.ex) := rfl
variable {c f mth : Str} {P : R → En → Prop} {Ex : Exn → En → Prop}
theorem wFld_eq : wFld c f w env P Ex = w env (fun r e => match r with
  | .d x => ∃ ks xs, x = .dict (insD c ks xs) ∧ ks.length = xs.length ∧ dFld f ks xs fun t => P t e
  | .bw _ (.ins _ c' ks xs) => c' = c ∧ ks.length = xs.length ∧ dFld f ks xs fun t => P t e
  | .nw (.ins _ c' ks xs) => c' = c ∧ dFld f ks xs fun t => P t e
  | _ => False) Ex := rfl
theorem wSetF_eq : wSetF n c f w env Q = w env (fun r e => match r.toD with
  | some y => ∃ m ks xs, (r.hold e)[n]? = some (.own (.ins m c ks xs)) ∧ f ∉ ks ∧ ks.length < 1000 ∧ Q.nx ((r.hold e).set n (.own (.ins m c (ks ++ [f]) (xs ++ [y]))))
  | none => False) Q.ex := rfl
theorem wMeth_eq {fs : FSem} {ws : List WE} : wMeth c mth fs w ws env P Ex = w env (fun r e => ∃ ks xs, r.toD = some (.dict (insD c ks xs)) ∧ ks.length = xs.length ∧ mth ∉ ks ∧
  wA ws (r.hold e) (fun rs e2 => fs (.d (.dict (insD c ks xs)) :: rs.map argOf) (fun t => match t with
    | .deck => False
    | t => P t (if t.flat = true then e2 else holdAll rs e2)) fun x => Ex x (holdAll rs e2)) Ex) Ex := rfl
theorem wAsgH_eq {t : WH} : wAsgH w t env Q = w env (fun r e => match r.toD with
  | some x => t x (r.hold e) Q.nx Q.ex
  | none => False) Q.ex := rfl
section
variable {K : En → Prop} {x : PyData} {e : En} {t : WH} {u : WHs} {tg : WG} {xs : List PyData}
theorem hTup_eq : hTup n u (.tuple xs) e K Ex = (xs.length = n ∧ u xs e K Ex) := rfl
theorem hCons_eq : hCons t u (x :: xs) e K Ex = t x e (fun e' => u xs e' K Ex) Ex := rfl
theorem hNil_eq : hNil [] e K Ex = K e := rfl
theorem hOf_eq : hOf tg x e K Ex = tg x e K := rfl
theorem hFld_eq : hFld n c f x e K Ex = ∃ m ks xs, e[n]? = some (.own (.ins m c ks xs)) ∧ f ∉ ks ∧ ks.length < 1000 ∧ K (e.set n (.own (.ins m c (ks ++ [f]) (xs ++ [x])))) := rfl
theorem hSub_eq : hSub n w x e K Ex = ((∃ xs, e[n]? = some (.own (.lst xs))) ∧ w e (fun s e2 => ∃ xs k j, e2[n]? = some (.own (.lst xs)) ∧ s.toD = some (.int k) ∧ ixN xs.length k = some j ∧ K (e2.set n (.own (.lst (xs.set j x))))) Ex) := rfl
end
theorem wPar3DOO_eq : wPar3DOO n m l wa wb wc env Q = wa env (fun r e1 => match r.calm with
  | .d x => wb e1 (fun s e2 => match s with
    | .nw c => wc e2 (fun t e3 => Q.nx (((stE l t e3).set m (.own c)).set n (.d x))) Q.ex
    | _ => False) Q.ex
  | _ => False) Q.ex := rfl
theorem dMulT_eq {xs : List PyData} {k : Int} {K : R → Prop} : dMulT (.tuple xs) (.int k) K = (xs ≠ [] ∧ 1 ≤ k ∧ k ≤ 1000 ∧ xs.length ≤ 1000 ∧ K (.d (.tuple (List.replicate k.toNat xs).flatten))) := rfl
theorem calm_ins {mo : Option Addr} {cn : Str} {ks : List Str} {xs : List PyData} : (R.nw (.ins mo cn ks xs)).calm = .d (.dict (insD cn ks xs)) := rfl
theorem calm_opq : (R.opq v).calm = .opq v := rfl
theorem stE_opq {e : En} : stE n (.opq v) e = e.set n (.opq v) := rfl
end
end Dl

namespace Dl
/-! ### plain law: sums, fractions' sizes -/
/-- the sum of f 0 .. f (n - 1) -/
def sg : Nat → (Nat → Rat) → Rat
  | 0, _ => 0
  | n + 1, f => sg n f + f n
theorem sg_congr {n : Nat} {f g : Nat → Rat} (h : ∀ i, i < n → f i = g i) : sg n f = sg n g := by
  induction n with
  | zero => rfl
  | succ n ih => rw [sg, sg, ih fun i hi => h i (by omega), h n (by omega)]
theorem sg_add {n : Nat} {f g : Nat → Rat} : sg n (fun i => f i + g i) = sg n f + sg n g := by
  induction n with
  | zero => simp only [sg]; grind
  | succ n ih => simp only [sg, ih]; grind
theorem sg_mul {n : Nat} {a : Rat} {f : Nat → Rat} : sg n (fun i => a * f i) = a * sg n f := by
  induction n with
  | zero => simp only [sg]; grind
  | succ n ih => simp only [sg, ih]; grind
theorem sg_mulr {n : Nat} {a : Rat} {f : Nat → Rat} : sg n (fun i => f i * a) = sg n f * a := by
  induction n with
  | zero => simp only [sg]; grind
  | succ n ih => simp only [sg, ih]; grind
theorem sg_zero {n : Nat} : sg n (fun _ => 0) = 0 := by
  induction n with
  | zero => rfl
  | succ n ih => simp only [sg, ih]; grind
theorem sg_swap {n m : Nat} {f : Nat → Nat → Rat} : sg n (fun i => sg m (f i)) = sg m (fun j => sg n fun i => f i j) := by
  induction n with
  | zero => simp only [sg]; rw [sg_zero]
  | succ n ih => simp only [sg, ih]; rw [sg_add]
theorem sg_nn {n : Nat} {f : Nat → Rat} (h : ∀ i, i < n → 0 ≤ f i) : 0 ≤ sg n f := by
  induction n with
  | zero => exact Rat.le_refl
  | succ n ih => exact Rat.add_nonneg (ih fun i hi => h i (by omega)) (h n (by omega))
/-! integer sums -/
def sgi : Nat → (Nat → Int) → Int
  | 0, _ => 0
  | n + 1, f => sgi n f + f n
theorem sgi_congr {n : Nat} {f g : Nat → Int} (h : ∀ i, i < n → f i = g i) : sgi n f = sgi n g := by
  induction n with
  | zero => rfl
  | succ n ih => rw [sgi, sgi, ih fun i hi => h i (by omega), h n (by omega)]
theorem sgi_cast {n : Nat} {f : Nat → Int} : ((sgi n f : Int) : Rat) = sg n fun i => ((f i : Int) : Rat) := by
  induction n with
  | zero => rfl
  | succ n ih => simp only [sgi, sg, Rat.intCast_add, ih]
theorem sum_append_int {l m : List Int} : (l ++ m).sum = l.sum + m.sum := by
  induction l with
  | nil => simp
  | cons a l ih => simp only [List.cons_append, List.sum_cons, ih]; omega
theorem sum_sgi : ∀ {ws : List Int}, ws.sum = sgi ws.length fun i => ws[i]! := by
  intro ws
  have key : ∀ k, k ≤ ws.length → (ws.take k).sum = sgi k fun i => ws[i]! := by
    intro k
    induction k with
    | zero => intro _; simp [sgi]
    | succ k ih =>
      intro h
      have hk : k < ws.length := by omega
      rw [List.take_succ_eq_append_getElem hk, sum_append_int, ih (by omega), sgi]
      simp [hk]
  have := key ws.length (Nat.le_refl _)
  rwa [List.take_length] at this
theorem sum_map_range {n : Nat} {f : Nat → Int} : ((List.range n).map f).sum = sgi n f := by
  induction n with
  | zero => rfl
  | succ n ih => rw [List.range_succ, List.map_append, sum_append_int, ih]; simp [sgi]
theorem sum_nn : ∀ {ws : List Int}, (∀ w ∈ ws, 0 ≤ w) → 0 ≤ ws.sum
  | [], _ => Int.le_refl 0
  | w :: ws, h => by
    rw [List.sum_cons]
    have h1 := h w List.mem_cons_self
    have h2 := sum_nn fun x hx => h x (List.mem_cons_of_mem _ hx)
    omega
theorem sum_set_pos : ∀ {ws : List Int} {k : Nat} {v : Int}, (∀ w ∈ ws, 0 ≤ w) → 0 < v → k < ws.length → 0 < (ws.set k v).sum
  | w :: ws, 0, v, h, hv, _ => by
    show 0 < (v :: ws).sum
    rw [List.sum_cons]
    have h2 := sum_nn fun x hx => h x (List.mem_cons_of_mem _ hx)
    omega
  | w :: ws, k + 1, v, h, hv, hk => by
    show 0 < (w :: ws.set k v).sum
    rw [List.sum_cons]
    have h1 := h w List.mem_cons_self
    have h2 := sum_set_pos (ws := ws) (k := k) (fun x hx => h x (List.mem_cons_of_mem _ hx)) hv (Nat.lt_of_succ_lt_succ hk)
    omega
theorem sum_le : ∀ {ws : List Int} {b : Int}, (∀ w ∈ ws, w ≤ b) → ws.sum ≤ ws.length * b
  | [], b, _ => by simp
  | w :: ws, b, h => by
    rw [List.sum_cons, List.length_cons]
    have h1 := h w List.mem_cons_self
    have h2 := sum_le (b := b) fun x hx => h x (List.mem_cons_of_mem _ hx)
    have : ((ws.length + 1 : Nat) : Int) * b = ws.length * b + b := by rw [Int.natCast_add, Int.add_mul]; simp
    omega
theorem sum_mul {ws : List Int} {a : Int} : (ws.map fun w => w * a).sum = ws.sum * a := by
  induction ws with
  | nil => simp
  | cons w ws ih => rw [List.map_cons, List.sum_cons, List.sum_cons, ih, Int.add_mul]
/-! ### how great a fraction is -/
def RB (n : Nat) (q : Rat) : Prop := q.num.natAbs < 2 ^ n ∧ q.den < 2 ^ n
theorem RB.mono {m n : Nat} {q : Rat} (h : RB m q) (l : m ≤ n) : RB n q :=
  ⟨Nat.lt_of_lt_of_le h.1 (Nat.pow_le_pow_right (by omega) l), Nat.lt_of_lt_of_le h.2 (Nat.pow_le_pow_right (by omega) l)⟩
theorem divq {a b : Int} (h : b ≠ 0) : ((a : Rat) / (b : Rat)).num.natAbs ≤ a.natAbs ∧ ((a : Rat) / (b : Rat)).den ≤ b.natAbs := by
  have hg : Int.gcd b a ≠ 0 := fun z => h (Int.gcd_eq_zero_iff.mp z).1
  rw [← Rat.divInt_eq_div, Rat.num_divInt, Rat.den_divInt, if_neg h]
  refine ⟨?_, Nat.div_le_self _ _⟩
  rw [Int.natAbs_ediv_of_dvd (Int.dvd_trans (Int.gcd_dvd_right ..) (Int.dvd_mul_left ..)), Int.natAbs_mul]
  refine Nat.le_trans (Nat.div_le_self _ _) ?_
  rw [Int.natAbs_sign_of_ne_zero h]
  omega
theorem RB.div {n : Nat} {a b : Int} (ha : a.natAbs < 2 ^ n) (hb : b.natAbs < 2 ^ n) (h : b ≠ 0) : RB n ((a : Rat) / (b : Rat)) :=
  ⟨Nat.lt_of_le_of_lt (divq h).1 ha, Nat.lt_of_le_of_lt (divq h).2 hb⟩
theorem RB.int {n : Nat} {a : Int} (ha : a.natAbs < 2 ^ n) (hn : 0 < n) : RB n (a : Rat) := by
  refine ⟨ha, ?_⟩
  rw [Rat.den_intCast]
  exact Nat.one_lt_two_pow (by omega)
theorem num_den (q : Rat) : q = (q.num : Rat) / ((q.den : Int) : Rat) := by
  have := Rat.num_divInt_den q
  rw [Rat.divInt_eq_div] at this
  exact this.symm
theorem den_ne (q : Rat) : (q.den : Int) ≠ 0 := by have := q.den_nz; omega
theorem cast_ne {b : Int} (h : b ≠ 0) : (b : Rat) ≠ 0 := fun z => h (by exact_mod_cast z)
theorem RB.mul {m n : Nat} {p q : Rat} (h : RB m p) (k : RB n q) : RB (m + n) (p * q) := by
  have e : p * q = ((p.num * q.num : Int) : Rat) / (((p.den : Int) * (q.den : Int) : Int) : Rat) := by
    have h1 := num_den p
    have h2 := num_den q
    have := cast_ne (den_ne p)
    have := cast_ne (den_ne q)
    rw [Rat.intCast_mul, Rat.intCast_mul]
    grind
  rw [e]
  refine RB.div ?_ ?_ (Int.mul_ne_zero (den_ne p) (den_ne q))
  · rw [Int.natAbs_mul, Nat.pow_add]; exact Nat.mul_lt_mul_of_lt_of_le h.1 (Nat.le_of_lt k.1) (Nat.two_pow_pos n)
  · rw [Int.natAbs_mul, Nat.pow_add]; exact Nat.mul_lt_mul_of_lt_of_le h.2 (Nat.le_of_lt k.2) (Nat.two_pow_pos n)
theorem RB.add {m n : Nat} {p q : Rat} (h : RB m p) (k : RB n q) : RB (m + n + 1) (p + q) := by
  have e : p + q = ((p.num * q.den + q.num * p.den : Int) : Rat) / (((p.den : Int) * (q.den : Int) : Int) : Rat) := by
    have h1 := num_den p
    have h2 := num_den q
    have := cast_ne (den_ne p)
    have := cast_ne (den_ne q)
    rw [Rat.intCast_add, Rat.intCast_mul, Rat.intCast_mul, Rat.intCast_mul]
    grind
  rw [e]
  have hm := Nat.two_pow_pos m
  have hn := Nat.two_pow_pos n
  have a1 : p.num.natAbs * q.den < 2 ^ m * 2 ^ n := Nat.mul_lt_mul_of_lt_of_le h.1 (Nat.le_of_lt k.2) hn
  have a2 : q.num.natAbs * p.den < 2 ^ n * 2 ^ m := Nat.mul_lt_mul_of_lt_of_le k.1 (Nat.le_of_lt h.2) hm
  have a3 : p.den * q.den < 2 ^ m * 2 ^ n := Nat.mul_lt_mul_of_lt_of_le h.2 (Nat.le_of_lt k.2) hn
  refine RB.div ?_ ?_ (Int.mul_ne_zero (den_ne p) (den_ne q))
  · have := Int.natAbs_add_le (p.num * q.den) (q.num * p.den)
    rw [Int.natAbs_mul, Int.natAbs_mul, Int.natAbs_natCast, Int.natAbs_natCast] at this
    rw [Nat.pow_succ, Nat.pow_add]
    rw [Nat.mul_comm (2 ^ n)] at a2
    omega
  · rw [Int.natAbs_mul, Int.natAbs_natCast, Int.natAbs_natCast, Nat.pow_succ, Nat.pow_add]
    omega
theorem RB.neg {n : Nat} {q : Rat} (h : RB n q) : RB n (-q) := by
  unfold RB at *
  rw [Rat.neg_num, Rat.neg_den, Int.natAbs_neg]
  exact h
theorem div_mul_left {a b c : Int} (hc : c ≠ 0) : ((c * a : Int) : Rat) / ((c * b : Int) : Rat) = (a : Rat) / (b : Rat) := by
  by_cases hb : b = 0
  · subst hb; rw [Int.mul_zero]; simp [Rat.div_def]
  have h1 := cast_ne hc
  have h2 := cast_ne hb
  rw [Rat.intCast_mul, Rat.intCast_mul]
  grind
/-- equal fractions by products -/
theorem div_eq {a b c d : Int} (hb : b ≠ 0) (hd : d ≠ 0) (h : a * d = c * b) : (a : Rat) / (b : Rat) = (c : Rat) / (d : Rat) := by
  have h1 := cast_ne hb
  have h2 := cast_ne hd
  have h3 : (a : Rat) * d = c * b := by rw [← Rat.intCast_mul, ← Rat.intCast_mul, h]
  grind
end Dl

namespace Dl
open PySem PySem.Spec PyProof.Rows L2
/-! ### lists of typed things -/
instance : Inhabited PyData := ⟨.none⟩
section
variable {α β : Type} [Inhabited α] [Inhabited β]
theorem getB {l : List α} {i : Nat} (h : i < l.length) : l[i]? = some l[i]! := by
  rw [getElem!_pos l i h]; exact List.getElem?_eq_getElem h
theorem getB_eq {l : List α} {i : Nat} {x : α} (h : l[i]? = some x) : l[i]! = x ∧ i < l.length := by
  obtain ⟨q, e⟩ := List.getElem?_eq_some_iff.mp h
  exact ⟨by rw [getElem!_pos l i q, e], q⟩
theorem getB_mem {l : List α} {i : Nat} (h : i < l.length) : l[i]! ∈ l := by
  rw [getElem!_pos l i h]; exact List.getElem_mem h
theorem getB_map {f : α → β} {l : List α} {i : Nat} (h : i < l.length) : (l.map f)[i]! = f l[i]! := by
  rw [getElem!_pos l i h, getElem!_pos _ i (by simpa using h), List.getElem_map]
theorem getB_range {n i : Nat} {f : Nat → β} (h : i < n) : ((List.range n).map f)[i]! = f i := by
  rw [getElem!_pos _ i (by simpa using h), List.getElem_map, List.getElem_range]
theorem map_rangeD {γ : Type} {f : α → γ} {l : List α} : l.map f = (List.range l.length).map fun i => f l[i]! := by
  apply List.ext_getElem
  · simp
  · intro i h1 h2
    rw [List.getElem_map, List.getElem_map, List.getElem_range]
    rw [getElem!_pos l i (by simpa using h1)]
theorem map_range {f : α → β} {l : List α} : l.map f = (List.range l.length).map fun i => f l[i]! := by
  apply List.ext_getElem
  · simp
  · intro i h1 h2
    rw [List.getElem_map, List.getElem_map, List.getElem_range]
    rw [getElem!_pos l i (by simpa using h1)]
theorem extB {l m : List α} (h : l.length = m.length) (k : ∀ i, i < l.length → l[i]! = m[i]!) : l = m := by
  apply List.ext_getElem h
  intro i h1 h2
  have := k i h1
  rwa [getElem!_pos l i h1, getElem!_pos m i h2] at this
theorem eq_map_range {l : List α} {n : Nat} {f : Nat → α} (h : l.length = n) (k : ∀ i, i < n → l[i]! = f i) : l = (List.range n).map f :=
  extB (by simpa using h) fun i hi => by rw [getB_range (by omega)]; exact k i (by omega)
end
/-! ### data -/
abbrev lnD (ws : List Int) : PyData := .tuple (ws.map PyData.int)
abbrev llD (ws : List Int) : PyData := .list (ws.map PyData.int)
abbrev lnsD (ls : List (List Int)) : PyData := .tuple (ls.map lnD)
/-- texts by their signs -/
def sS (l : List Nat) : Str := ⟨l.toArray⟩
theorem sS_length {l : List Nat} : (sS l).length = l.length := by unfold sS Str.length; simp
theorem sS_append {l m : List Nat} : sS l ++ sS m = sS (l ++ m) := by
  show Str.append _ _ = _
  unfold sS Str.append
  simp
theorem sS_inj {l m : List Nat} (h : sS l = sS m) : l = m := by
  unfold sS at h
  injection h with h
  simpa using h
theorem sS_beq {l m : List Nat} : (sS l == sS m) = (l == m) := by
  by_cases h : l = m
  · subst h; simp
  · rw [beq_eq_false_iff_ne.mpr h, beq_eq_false_iff_ne.mpr fun z => h (sS_inj z)]
theorem one_beq {c d : Nat} : (sS [c] == sS [d]) = (c == d) := by
  rw [sS_beq]
  by_cases h : c = d
  · subst h; simp
  · rw [beq_eq_false_iff_ne.mpr h, beq_eq_false_iff_ne.mpr (by simpa using h)]
theorem sS_cps {l : List Nat} : (sS l).cps.toList = l := rfl
theorem sS_of (z : Str) : sS z.cps.toList = z := rfl
theorem signsD_sS {l : List Nat} : signsD (sS l) = l.map fun c => .str (sS [c]) := rfl
theorem sS_lt {c d : Nat} : ((sS [c]).cps.toList < (sS [d]).cps.toList) ↔ c < d := by
  show [c] < [d] ↔ c < d
  constructor
  · intro h
    cases h with
    | rel h => exact h
    | cons h => cases h
  · intro h
    exact List.Lex.rel h
theorem occ_one {l : List Nat} {c : Nat} (h : c ∈ l) : ∃ i rest, Builtin.Str.occurrences (sS l) (sS [c]) 0 (sS l).length 1 = i :: rest ∧ l[i]? = some c := by
  have h1 := StrLaws.found_one (sS l) c
  rw [decide_eq_true (show c ∈ (sS l).cps.toList from h)] at h1
  have hs := PySem.StrLaws.occ_spec (sS l) (sS [c]) 0 (sS l).length 1
  cases e : Builtin.Str.occurrences (sS l) (sS [c]) 0 (sS l).length 1 with
  | nil =>
    have e' : Builtin.Str.occurrences (sS l) ⟨#[c]⟩ 0 (sS l).length 1 = [] := e
    rw [e'] at h1; cases h1
  | cons i rest =>
    refine ⟨i, rest, rfl, ?_⟩
    have := hs i (by rw [e]; exact List.mem_cons_self)
    exact (StrLaws.subAt_one (sS l) c i).mp this
theorem nodup_idx : ∀ {l : List Nat} {i : Nat} {c : Nat}, l.Nodup → l[i]? = some c → i = l.idxOf c
  | [], _, _, _, h => by simp at h
  | a :: l, 0, c, _, h => by simp at h; subst h; simp
  | a :: l, i + 1, c, n, h => by
    have h' : l[i]? = some c := by simpa using h
    have nd := List.nodup_cons.mp n
    have hm : c ∈ l := List.mem_of_getElem? h'
    have ne : a ≠ c := fun z => nd.1 (z ▸ hm)
    rw [List.idxOf_cons, beq_eq_false_iff_ne.mpr ne, ← nodup_idx nd.2 h']; rfl
/-! ### ways of walking -/
section
variable {env e : En} {P : R → En → Prop} {Ex : Exn → En → Prop} {wa wb w : WE} {ws : List WE} {i j : Int} {n m k : Nat} {x y : PyData} {xs ys : List PyData} {K : R → Prop} {a b : Str} {α β : Type} [Inhabited α] [Inhabited β] {as : List α} {bs : List β} {f : α → PyData} {g : β → PyData} {l : List Nat} {is : List Int}
theorem ixMap {n : Nat} {as : List α} {f : α → PyData} {K : R → Prop} : (match atI (as.map f) (n : Int) with
  | some z => K (.d z)
  | none => False) = (n < as.length ∧ K (.d (f as[n]!))) := by
  by_cases h : n < as.length
  · rw [atI_nat (by simpa using h), List.getElem?_map, getB h]
    simp [h]
  · have : atI (as.map f) (n : Int) = none := by
      unfold atI ixN
      rw [if_pos (by omega), if_neg (by simp; omega)]
      rfl
    rw [this]
    simp [h]
theorem dIx_tm : dIx (.tuple (as.map f)) (.int (n : Int)) K = (n < as.length ∧ K (.d (f as[n]!))) := ixMap
theorem dIx_lm : dIx (.list (as.map f)) (.int (n : Int)) K = (n < as.length ∧ K (.d (f as[n]!))) := ixMap
theorem dIx_tm0 : dIx (.tuple (as.map f)) (.int 0) K = (0 < as.length ∧ K (.d (f as[0]!))) := ixMap (n := 0)
theorem dIx_lm0 : dIx (.list (as.map f)) (.int 0) K = (0 < as.length ∧ K (.d (f as[0]!))) := ixMap (n := 0)
theorem dIx_tm1 : dIx (.tuple (as.map f)) (.int 1) K = (1 < as.length ∧ K (.d (f as[1]!))) := ixMap (n := 1)
theorem dIx_lm1 : dIx (.list (as.map f)) (.int 1) K = (1 < as.length ∧ K (.d (f as[1]!))) := ixMap (n := 1)
theorem dIx_t0 : dIx (.tuple (x :: xs)) (.int 0) K = K (.d x) := by show (match atI (x :: xs) 0 with | some z => K (.d z) | none => False) = _; rw [atI0]
theorem dIx_t1 {x1 : PyData} : dIx (.tuple (x :: x1 :: xs)) (.int 1) K = K (.d x1) := by show (match atI (x :: x1 :: xs) 1 with | some z => K (.d z) | none => False) = _; rw [atI1]
theorem dIx_t2 {x1 x2 : PyData} : dIx (.tuple (x :: x1 :: x2 :: xs)) (.int 2) K = K (.d x2) := by show (match atI (x :: x1 :: x2 :: xs) 2 with | some z => K (.d z) | none => False) = _; rw [atI2]
theorem dIx_t3 {x1 x2 x3 : PyData} : dIx (.tuple (x :: x1 :: x2 :: x3 :: xs)) (.int 3) K = K (.d x3) := by show (match atI (x :: x1 :: x2 :: x3 :: xs) 3 with | some z => K (.d z) | none => False) = _; rw [atI3]
theorem dIx_l0 : dIx (.list (x :: xs)) (.int 0) K = K (.d x) := by show (match atI (x :: xs) 0 with | some z => K (.d z) | none => False) = _; rw [atI0]
theorem dIx_l1 {x1 : PyData} : dIx (.list (x :: x1 :: xs)) (.int 1) K = K (.d x1) := by show (match atI (x :: x1 :: xs) 1 with | some z => K (.d z) | none => False) = _; rw [atI1]
theorem dIx_l2 {x1 x2 : PyData} : dIx (.list (x :: x1 :: x2 :: xs)) (.int 2) K = K (.d x2) := by show (match atI (x :: x1 :: x2 :: xs) 2 with | some z => K (.d z) | none => False) = _; rw [atI2]
theorem ixLast {as : List α} {f : α → PyData} {K : R → Prop} : (match atI (as.map f) (-1 : Int) with
  | some z => K (.d z)
  | none => False) = (0 < as.length ∧ K (.d (f as[as.length - 1]!))) := by
  by_cases h : 0 < as.length
  · have : atI (as.map f) (-1 : Int) = (as.map f)[as.length - 1]? := by
      unfold atI ixN
      rw [if_neg (by omega), if_pos (by simp; omega)]
      show (as.map f)[_]? = _
      congr 1
      simp; omega
    rw [this, List.getElem?_map, getB (show as.length - 1 < as.length by omega)]
    simp [h]
  · have : atI (as.map f) (-1 : Int) = none := by
      unfold atI ixN
      rw [if_neg (by omega), if_neg (by simp; omega)]
      rfl
    rw [this]
    simp [h]
theorem dIx_tl : dIx (.tuple (as.map f)) (.int (-1)) K = (0 < as.length ∧ K (.d (f as[as.length - 1]!))) := ixLast
theorem dIx_ll : dIx (.list (as.map f)) (.int (-1)) K = (0 < as.length ∧ K (.d (f as[as.length - 1]!))) := ixLast
theorem dIx_s : dIx (.str (sS l)) (.int (n : Int)) K = (n < l.length ∧ l.length ≤ sizeLine ∧ K (.d (.str (sS [l[n]!])))) := by
  show (match atI l (n : Int) with
    | some c => (sS l).length ≤ sizeLine ∧ K (.d (.str ⟨#[c]⟩))
    | none => False) = _
  by_cases h : n < l.length
  · rw [atI_nat h, getB h, sS_length]
    simp only [h, true_and]
    rfl
  · have : atI l (n : Int) = none := by
      unfold atI ixN
      rw [if_pos (by omega), if_neg (by omega)]
      rfl
    rw [this]
    simp [h]
theorem dSum_l : dSum [.list (is.map PyData.int)] K = K (.d (.int is.sum)) := by
  rw [dSum_list, intsD_map]
  exact propext ⟨fun ⟨_, e, h⟩ => by cases e; exact h, fun h => ⟨_, rfl, h⟩⟩
theorem dSum_t : dSum [.tuple (is.map PyData.int)] K = K (.d (.int is.sum)) := by
  rw [dSum_tuple, intsD_map]
  exact propext ⟨fun ⟨_, e, h⟩ => by cases e; exact h, fun h => ⟨_, rfl, h⟩⟩
theorem dMax_l : dMax [.list (is.map PyData.int)] K = (0 < is.length ∧ ∀ m, m ∈ is → (∀ y, y ∈ is → y ≤ m) → K (.d (.int m))) := by
  rw [dMax_list, intsD_map]
  exact propext ⟨fun ⟨_, e, h⟩ => by cases e; exact h, fun h => ⟨_, rfl, h⟩⟩
theorem dMin_l : dMin [.list (is.map PyData.int)] K = (0 < is.length ∧ ∀ m, m ∈ is → (∀ y, y ∈ is → m ≤ y) → K (.d (.int m))) := by
  rw [dMin_list, intsD_map]
  exact propext ⟨fun ⟨_, e, h⟩ => by cases e; exact h, fun h => ⟨_, rfl, h⟩⟩
theorem dAllAny_l {F : List Bool → Bool} {q : List Bool} : dAllAny F [.list (q.map PyData.bool)] K = K (.d (.bool (F q))) := by
  rw [dAllAny_list, boolsD_map]
  exact propext ⟨fun ⟨_, e, h⟩ => by cases e; exact h, fun h => ⟨_, rfl, h⟩⟩
theorem dLen_s : dLen [.str (sS l)] K = (l.length ≤ sizeLine ∧ K (.d (.int l.length))) := by rw [dLen_str, sS_length]
theorem dAdd_s {l m : List Nat} : dAdd (.str (sS l)) (.str (sS m)) K = (l.length + m.length ≤ sizeLine ∧ K (.d (.str (sS (l ++ m))))) := by rw [dAdd_str, sS_length, sS_length, sS_append]
theorem dSIndex_s {c : Nat} (nd : l.Nodup) (hc : c ∈ l) (h : K (.d (.int (l.idxOf c : Nat)))) : dSIndex (sS l) [.str (sS [c])] K := by
  obtain ⟨i, rest, e, q⟩ := occ_one hc
  rw [nodup_idx nd q] at e
  exact ⟨_, _, e, h⟩
theorem dIn_s {c : Nat} {neg : Bool} : dIn neg (.str (sS [c])) (.str (sS l)) K = K (.d (.bool (neg ^^ decide (c ∈ l)))) := by
  have e := StrLaws.found_one (sS l) c
  have e' : (!(Builtin.Str.occurrences (sS l) (sS [c]) 0 (sS l).length 1).isEmpty) = decide (c ∈ l) := e
  show K (.d (.bool (neg ^^ (!(Builtin.Str.occurrences (sS l) (sS [c]) 0 (sS l).length 1).isEmpty)))) = _
  rw [e']
/-! what is walked -/
theorem itemsL_l : itemsL (.list xs) = xs := rfl
theorem itemsL_t : itemsL (.tuple xs) = xs := rfl
theorem itemsL_s : itemsL (.str (sS l)) = l.map fun c => .str (sS [c]) := rfl
theorem cE_l : cE [.list xs] = True := eq_true rfl
theorem cE_t : cE [.tuple xs] = True := eq_true rfl
theorem cE_s : cE [.str a] = True := eq_true rfl
theorem zipInt_map : zipInt (as.map f) = (List.range as.length).map fun i => .tuple [.int (i : Nat), f as[i]!] := by
  unfold zipInt
  apply List.ext_getElem
  · simp
  · intro i h1 h2
    rw [List.getElem_mapIdx, List.getElem_map, List.getElem_map, List.getElem_range, getElem!_pos as i (by simpa using h1)]
theorem oE_l : oE [.list (as.map f)] = (List.range as.length).map fun i => .tuple [.int (i : Nat), f as[i]!] := zipInt_map
theorem oE_t : oE [.tuple (as.map f)] = (List.range as.length).map fun i => .tuple [.int (i : Nat), f as[i]!] := zipInt_map
theorem oE_s : oE [.str (sS l)] = (List.range l.length).map fun i => .tuple [.int (i : Nat), .str (sS [l[i]!])] := zipInt_map (as := l)
theorem zipD_map : zipD (as.map f) (bs.map g) = (List.range (min as.length bs.length)).map fun i => .tuple [f as[i]!, g bs[i]!] := by
  unfold zipD
  apply List.ext_getElem
  · simp
  · intro i h1 h2
    simp only [List.length_zipWith, List.length_map] at h1
    rw [List.getElem_zipWith, List.getElem_map, List.getElem_map, List.getElem_map, List.getElem_range, getElem!_pos as i (by omega), getElem!_pos bs i (by omega)]
theorem oZ_tt : oZ [.tuple (as.map f), .tuple (bs.map g)] = (List.range (min as.length bs.length)).map fun i => .tuple [f as[i]!, g bs[i]!] := zipD_map
theorem oZ_tl : oZ [.tuple (as.map f), .list (bs.map g)] = (List.range (min as.length bs.length)).map fun i => .tuple [f as[i]!, g bs[i]!] := zipD_map
theorem oZ_lt : oZ [.list (as.map f), .tuple (bs.map g)] = (List.range (min as.length bs.length)).map fun i => .tuple [f as[i]!, g bs[i]!] := zipD_map
theorem oZ_ll : oZ [.list (as.map f), .list (bs.map g)] = (List.range (min as.length bs.length)).map fun i => .tuple [f as[i]!, g bs[i]!] := zipD_map
theorem oZ_ss {l m : List Nat} : oZ [.str (sS l), .str (sS m)] = (List.range (min l.length m.length)).map fun i => .tuple [.str (sS [l[i]!]), .str (sS [m[i]!])] := zipD_map (as := l) (bs := m)
theorem cZ_tt : cZ [.tuple xs, .tuple ys] = True := eq_true ⟨rfl, rfl⟩
theorem cZ_tl : cZ [.tuple xs, .list ys] = True := eq_true ⟨rfl, rfl⟩
theorem cZ_lt : cZ [.list xs, .tuple ys] = True := eq_true ⟨rfl, rfl⟩
theorem cZ_ll : cZ [.list xs, .list ys] = True := eq_true ⟨rfl, rfl⟩
theorem cZ_ss : cZ [.str a, .str b] = True := eq_true ⟨rfl, rfl⟩
theorem oR1_n : oR1 [.int (n : Int)] = (List.range n).map fun i => .int (i : Nat) := by
  show rangeD 0 (n : Int).toNat = _
  unfold rangeD
  rw [Int.toNat_natCast]
  congr 1
  funext i
  rw [Int.zero_add]
theorem oR2_n : oR2 [.int (n : Int), .int (m : Int)] = (List.range (m - n)).map fun i => .int ((n + i : Nat) : Int) := by
  show rangeD n ((m : Int) - n).toNat = _
  unfold rangeD
  rw [show ((m : Int) - n).toNat = m - n by omega]
  congr 1
theorem oR2_1 : oR2 [.int 1, .int (m : Int)] = (List.range (m - 1)).map fun i => .int ((1 + i : Nat) : Int) := oR2_n (n := 1)
theorem oR2_0 : oR2 [.int 0, .int (m : Int)] = (List.range m).map fun i => .int ((i : Nat) : Int) := by
  have := oR2_n (n := 0) (m := m)
  simpa using this
theorem cR1_n : cR1 [.int (n : Int)] = (n < 2 ^ 62) := by
  show (-(2 ^ 62) ≤ (n : Int) ∧ (n : Int) < 2 ^ 62) = _
  apply propext
  constructor
  · intro h; omega
  · intro h; omega
theorem cR2_n : cR2 [.int i, .int j] = (Small i ∧ Small j) := rfl
end
/-! loops over a range of things -/
section
variable {env e : En} {P : Pd} {n : Nat} {F : Nat → PyData} {t : WG} {b : WS}
theorem p_forR (Iv : Nat → En → Prop) (h0 : Iv 0 env)
    (step : ∀ i e (K : En → Prop), i < n → Iv i e → (∀ e', Iv (i + 1) e' → K e') → t (F i) e fun e1 => b e1 ⟨K, P.rt, P.nx, K, P.ex⟩)
    (fin : ∀ e, Iv n e → P.nx e) : wFor t b ((List.range n).map F) env P := by
  refine p_for Iv 0 h0 (fun i x e K hx hi hk => ?_) (fun e h => fin e (by simpa using h))
  rw [List.getElem?_map] at hx
  have hi' : i < n := by
    by_cases z : i < n
    · exact z
    · rw [List.getElem?_eq_none (by simpa using z)] at hx; cases hx
  rw [List.getElem?_range hi'] at hx
  cases hx
  rw [Nat.zero_add] at hi hk
  exact step i e K hi' hi hk
theorem p_forA {α : Type} [Inhabited α] {as : List α} {f : α → PyData} (Iv : Nat → En → Prop) (h0 : Iv 0 env)
    (step : ∀ i e (K : En → Prop), i < as.length → Iv i e → (∀ e', Iv (i + 1) e' → K e') → t (f as[i]!) e fun e1 => b e1 ⟨K, P.rt, P.nx, K, P.ex⟩)
    (fin : ∀ e, Iv as.length e → P.nx e) : wFor t b (as.map f) env P := by
  have e : as.map f = (List.range as.length).map fun i => f as[i]! := map_rangeD
  rw [e]
  exact p_forR Iv h0 step fin
variable {vs : List Nat} {c : WT} {w : WE} {K : List PyData → En → Prop}
/-- what a display's turn does: its item, the names as they were -/
def TurnL (vs : List Nat) (t : WG) (c : WT) (w : WE) (env : En) (x : PyData) (K : Option PyData → Prop) : Prop :=
  t x (wipeE vs env) fun e1 => c e1 (fun b e2 => if b = true then w e2 (fun r e3 => match r.toD with
      | some y => restE vs env (r.hold e3) = env ∧ K (some y)
      | none => False) (fun _ _ => False) else restE vs env e2 = env ∧ K none) fun _ _ => False
end
section
variable {env : En} {n : Nat} {F : Nat → PyData} {t : WG} {vs : List Nat} {c : WT} {w : WE} {K : List PyData → En → Prop} {β : Type}
/-- turns that are alike, whatever they are to reach -/
def TurnsR (vs : List Nat) (t : WG) (c : WT) (w : WE) (env : En) (out : β → PyData) (x : PyData) (Rl : β → Prop) : Prop :=
  ∀ K' : List PyData → En → Prop, ∀ ac : List PyData, (∀ y, Rl y → K' (ac ++ [out y]) env) → t x (wipeE vs env) fun e1 => c e1 (fun b e2 => if b = true then w e2 (fun r e3 => match r.toD with
      | some y => K' (ac ++ [y]) (restE vs env (r.hold e3))
      | none => False) (fun _ _ => False) else K' ac (restE vs env e2)) fun _ _ => False
theorem p_lcR [Inhabited β] (out : β → PyData) (Rl : Nat → β → Prop)
    (step : ∀ i, i < n → ∀ (K' : List PyData → En → Prop) (ac : List PyData), (∀ y, Rl i y → K' (ac ++ [out y]) env) → t (F i) (wipeE vs env) fun e1 => c e1 (fun b e2 => if b = true then w e2 (fun r e3 => match r.toD with
      | some y => K' (ac ++ [y]) (restE vs env (r.hold e3))
      | none => False) (fun _ _ => False) else K' ac (restE vs env e2)) fun _ _ => False)
    (fin : ∀ ys : List β, ys.length = n → (∀ i, i < n → Rl i ys[i]!) → K (ys.map out) env) : wLcL vs t c w ((List.range n).map F) [] env K := by
  refine p_lc (fun k acc e => e = env ∧ ∃ ys : List β, ys.length = k ∧ (∀ i, i < k → Rl i ys[i]!) ∧ acc = ys.map out) 0 ⟨rfl, [], rfl, fun i h => by omega, rfl⟩ (fun i x ac e K' hx h hk => ?_) (fun ac e h => ?_)
  · obtain ⟨rfl, ys, hl, hr, rfl⟩ := h
    rw [List.getElem?_map] at hx
    have hi' : i < n := by
      by_cases z : i < n
      · exact z
      · rw [List.getElem?_eq_none (by simpa using z)] at hx; cases hx
    rw [List.getElem?_range hi'] at hx
    cases hx
    rw [Nat.zero_add] at hl
    refine step i hi' K' _ fun y hy => hk _ _ ⟨rfl, ys ++ [y], by rw [List.length_append, hl]; simp, fun j hj => ?_, by simp⟩
    by_cases q : j < i
    · have := hr j (by omega)
      rw [getElem!_pos ys j (by omega)] at this
      rw [getElem!_pos _ j (by simp; omega), List.getElem_append_left (by omega)]
      exact this
    · have q' : j = i := by omega
      subst q'
      rw [getElem!_pos _ j (by simp; omega), List.getElem_append_right (by omega)]
      simpa [hl] using hy
  · obtain ⟨rfl, ys, hl, hr, rfl⟩ := h
    have e : 0 + ((List.range n).map F).length = n := by simp
    rw [e] at hl hr
    exact fin ys hl hr
/-- .. where each item is told -/
theorem p_lcD [Inhabited β] (out : β → PyData) (G : Nat → β)
    (step : ∀ i, i < n → ∀ (K' : List PyData → En → Prop) (ac : List PyData), K' (ac ++ [out (G i)]) env → t (F i) (wipeE vs env) fun e1 => c e1 (fun b e2 => if b = true then w e2 (fun r e3 => match r.toD with
      | some y => K' (ac ++ [y]) (restE vs env (r.hold e3))
      | none => False) (fun _ _ => False) else K' ac (restE vs env e2)) fun _ _ => False)
    (fin : K (((List.range n).map G).map out) env) : wLcL vs t c w ((List.range n).map F) [] env K :=
  p_lcR out (fun i y => y = G i) (fun i hi K' ac h => step i hi K' ac (h _ rfl)) fun ys hl hr => by
    rw [eq_map_range hl hr]
    exact fin
/-- .. where some are left out -/
theorem p_lcF (out : Nat → PyData) (p : Nat → Bool)
    (step : ∀ i, i < n → ∀ (K' : List PyData → En → Prop) (ac : List PyData), (p i = true → K' (ac ++ [out i]) env) → (p i = false → K' ac env) → t (F i) (wipeE vs env) fun e1 => c e1 (fun b e2 => if b = true then w e2 (fun r e3 => match r.toD with
      | some y => K' (ac ++ [y]) (restE vs env (r.hold e3))
      | none => False) (fun _ _ => False) else K' ac (restE vs env e2)) fun _ _ => False)
    (fin : K (((List.range n).filter p).map out) env) : wLcL vs t c w ((List.range n).map F) [] env K := by
  refine p_lc (fun k acc e => e = env ∧ acc = ((List.range k).filter p).map out) 0 ⟨rfl, rfl⟩ (fun i x ac e K' hx h hk => ?_) (fun ac e h => ?_)
  · obtain ⟨rfl, rfl⟩ := h
    rw [List.getElem?_map] at hx
    have hi' : i < n := by
      by_cases z : i < n
      · exact z
      · rw [List.getElem?_eq_none (by simpa using z)] at hx; cases hx
    rw [List.getElem?_range hi'] at hx
    cases hx
    refine step i hi' K' _ (fun q => hk _ _ ⟨rfl, ?_⟩) fun q => hk _ _ ⟨rfl, ?_⟩
    · rw [List.range_succ, List.filter_append, List.map_append]; simp [q]
    · rw [List.range_succ, List.filter_append, List.map_append]; simp [q]
  · obtain ⟨rfl, rfl⟩ := h
    have e : 0 + ((List.range n).map F).length = n := by simp
    rw [e]
    exact fin
end
theorem rangeD0 {n : Nat} : rangeD 0 n = (List.range n).map fun i => .int (i : Nat) := by
  unfold rangeD
  congr 1
  funext i
  rw [Int.zero_add]
theorem rangeDn {m n : Nat} : rangeD (m : Int) n = (List.range n).map fun i => .int ((m + i : Nat) : Int) := by
  unfold rangeD
  congr 1
theorem subNat {m n : Nat} : ((m : Int) - (n : Int)).toNat = m - n := by omega
theorem subNat1 {m : Nat} : ((m : Int) - 1).toNat = m - 1 := by omega
theorem cR2_e {i j : Int} : cR2 [.int i, .int j] = (Small i ∧ Small j) := rfl
theorem oR2_e {i j : Int} : oR2 [.int i, .int j] = rangeD i (j - i).toNat := rfl
theorem smallI {i : Int} (h : -1000000000000 ≤ i) (k : i ≤ 1000000000000) : Small i := ⟨by omega, by omega⟩
theorem dmLt {i : Int} (h : i < 4294967296) : i < drawMax := Int.lt_of_lt_of_le h (by decide)
theorem slLe {n : Nat} (h : n ≤ 16000000) : n ≤ sizeLine := by rw [sizeLine_eq]; omega
theorem slLt {n : Nat} (h : n < 16000000) : n < sizeLine := by rw [sizeLine_eq]; omega
theorem lcm_aux {i : Int} {m k : Nat} (h : i.natAbs ≤ 2 ^ m) (hm : m < k) : i.natAbs < 2 ^ k := Nat.lt_of_le_of_lt h (Nat.pow_lt_pow_right (by decide) hm)
theorem LcmC.of {i : Int} {m : Nat} (h : i.natAbs ≤ 2 ^ m) (hm : m ≤ 12000) : LcmC i := by
  unfold LcmC
  exact lcm_aux h (by omega)
theorem if_join {c : Prop} [Decidable c] {A B : Prop} (k : B) (h : B → c → A) : if c then A else B := by
  by_cases z : c
  · rw [if_pos z]; exact h k z
  · rw [if_neg z]; exact k
theorem nx_of {N Q : En → Prop} {e : En} (h : ∀ e, Q e → N e) (k : Q e) : N e := h e k
section
variable {env : En} {t : WG} {vs : List Nat} {c : WT} {w : WE} {K : List PyData → En → Prop} {α β : Type}
theorem p_lcAR [Inhabited α] [Inhabited β] {as : List α} {f : α → PyData} (out : β → PyData) (Rl : α → β → Prop)
    (step : ∀ a, a ∈ as → ∀ (K' : List PyData → En → Prop) (ac : List PyData), (∀ y, Rl a y → K' (ac ++ [out y]) env) → t (f a) (wipeE vs env) fun e1 => c e1 (fun b e2 => if b = true then w e2 (fun r e3 => match r.toD with
      | some y => K' (ac ++ [y]) (restE vs env (r.hold e3))
      | none => False) (fun _ _ => False) else K' ac (restE vs env e2)) fun _ _ => False)
    (fin : ∀ ys : List β, ys.length = as.length → (∀ i, i < as.length → Rl as[i]! ys[i]!) → K (ys.map out) env) : wLcL vs t c w (as.map f) [] env K := by
  have e : as.map f = (List.range as.length).map fun i => f as[i]! := map_rangeD
  rw [e]
  exact p_lcR out (fun i y => Rl as[i]! y) (fun i hi K' ac h => step _ (getB_mem hi) K' ac h) fin
theorem p_lcA [Inhabited α] [Inhabited β] {as : List α} {f : α → PyData} (out : β → PyData) (G : α → β)
    (step : ∀ a, a ∈ as → ∀ (K' : List PyData → En → Prop) (ac : List PyData), K' (ac ++ [out (G a)]) env → t (f a) (wipeE vs env) fun e1 => c e1 (fun b e2 => if b = true then w e2 (fun r e3 => match r.toD with
      | some y => K' (ac ++ [y]) (restE vs env (r.hold e3))
      | none => False) (fun _ _ => False) else K' ac (restE vs env e2)) fun _ _ => False)
    (fin : K ((as.map G).map out) env) : wLcL vs t c w (as.map f) [] env K :=
  p_lcAR out (fun a y => y = G a) (fun a ha K' ac h => step a ha K' ac (h _ rfl)) fun ys hl hr => by
    have : ys = as.map G := extB (by simpa using hl) fun i hi => by rw [getB_map (by omega)]; exact hr i (by omega)
    rw [this]
    exact fin
end
end Dl

namespace Dl
open PySem PySem.Spec PyProof.Rows L2
/-! ### orders of lists -/
theorem perm_map_inv {α β : Type} {f : α → β} : ∀ {cs : List α} {ys : List β}, ys.Perm (cs.map f) → ∃ ds : List α, ds.Perm cs ∧ ys = ds.map f := by
  intro cs ys h
  generalize e : cs.map f = zs at h
  induction h generalizing cs with
  | nil => cases cs <;> simp at e; exact ⟨[], List.Perm.refl _, rfl⟩
  | @cons x l1 l2 p ih =>
    cases cs with
    | nil => simp at e
    | cons c cs =>
      rw [List.map_cons] at e
      injection e with e1 e2
      subst e1
      obtain ⟨ds, h1, rfl⟩ := ih e2
      exact ⟨c :: ds, h1.cons c, rfl⟩
  | swap x y l =>
    match cs, e with
    | c1 :: c2 :: cs, e =>
      simp only [List.map_cons] at e
      injection e with e1 e2
      injection e2 with e2 e3
      subst e1 e2 e3
      exact ⟨c2 :: c1 :: cs, List.Perm.swap _ _ _, rfl⟩
  | trans p q ih1 ih2 =>
    obtain ⟨d1, h1, rfl⟩ := ih2 e
    obtain ⟨d2, h2, rfl⟩ := ih1 rfl
    exact ⟨d2, h2.trans h1, rfl⟩
/-! ### texts -/
theorem join_cps : ∀ (cs : List Nat) (acc : Array Nat), (cs.map fun c => sS [c]).foldl (fun (acc : Array Nat) (p : Str) => acc ++ (sS []).cps ++ p.cps) acc = acc ++ cs.toArray
  | [], acc => by simp
  | c :: cs, acc => by
    rw [List.map_cons, List.foldl_cons, join_cps cs]
    show acc ++ #[] ++ #[c] ++ cs.toArray = _
    simp
theorem join_nil {cs : List Nat} : Txt.join (sS []) (cs.map fun c => sS [c]) = sS cs := by
  cases cs with
  | nil => rfl
  | cons c cs =>
    show (⟨(((c :: cs).map fun c => sS [c]).drop 1).foldl (fun acc p => acc ++ (sS []).cps ++ p.cps) ((((c :: cs).map fun c => sS [c]).headD Str.empty).cps)⟩ : Str) = _
    rw [List.map_cons, List.drop_one, List.tail_cons, join_cps]
    show (⟨#[c] ++ cs.toArray⟩ : Str) = sS (c :: cs)
    unfold sS
    simp
theorem lit_dot : (Str.ofString ".") = sS [46] := by decide +kernel
theorem lit_nil : (Str.ofString "") = sS [] := by decide +kernel
theorem strsD_ones {cs : List Nat} : strsD (cs.map fun c => PyData.str (sS [c])) = some (cs.map fun c => sS [c]) := by
  have := strsD_map (cs.map fun c => sS [c])
  rwa [List.map_map] at this
section
variable {K : R → Prop} {cs : List Nat}
theorem dJoin_s : dJoin (sS []) [.list (cs.map fun c => .str (sS [c]))] K = (cs.length ≤ 16777216 ∧ K (.d (.str (sS cs)))) := by
  rw [dJoin_list, strsD_ones]
  have e : (((cs.map fun c => sS [c]).map (·.length)).sum + (cs.map fun c => sS [c]).length * (sS []).length) = cs.length := by
    rw [sS_length, List.length_nil, Nat.mul_zero, Nat.add_zero]
    induction cs with
    | nil => rfl
    | cons c cs ih => rw [List.map_cons, List.map_cons, List.sum_cons, ih, sS_length]; simp; omega
  apply propext
  constructor
  · rintro ⟨ys, h1, h2, h3⟩
    cases h1
    rw [e] at h2
    rw [join_nil] at h3
    exact ⟨h2, h3⟩
  · rintro ⟨h1, h2⟩
    exact ⟨_, rfl, by rw [e]; exact h1, by rw [join_nil]; exact h2⟩
theorem lt_one {c d : Nat} : ltCps [c] [d] = decide (c < d) := by
  simp [ltCps]
theorem rising_pw : ∀ {l : List Nat} {p : Nat}, risingS (sS [p]) (l.map fun c => sS [c]) = true → (p :: l).Pairwise (· ≤ ·)
  | [], p, _ => by simp
  | x :: r, p, h => by
    have h' : (!ltCps [x] [p] && risingS (sS [x]) (r.map fun c => sS [c])) = true := h
    rw [Bool.and_eq_true, lt_one] at h'
    have hx : p ≤ x := by have := h'.1; simp at this; omega
    have ih := rising_pw h'.2
    refine List.pairwise_cons.mpr ⟨fun a ha => ?_, ih⟩
    rcases List.mem_cons.mp ha with rfl | hm
    · exact hx
    · exact Nat.le_trans hx ((List.pairwise_cons.mp ih).1 a hm)
theorem dSorted_s (hl : cs.length < 64) (h : ∀ ds : List Nat, ds.Perm cs → ds.Pairwise (· ≤ ·) → K (.nw (.lst (ds.map fun c => .str (sS [c]))))) : dSorted [.list (cs.map fun c => .str (sS [c]))] K := by
  rw [dSorted_list]
  refine .inr ⟨_, strsD_ones, by simpa using hl, fun js hp hs => ?_⟩
  obtain ⟨ds, h1, rfl⟩ := perm_map_inv hp
  have h2 := h ds h1 (by
    cases ds with
    | nil => simp
    | cons d ds => exact rising_pw hs)
  rw [List.map_map]
  exact h2
theorem cutA_to {α : Type} {xs : List α} {m : Nat} : cutA xs none (some (m : Int)) = xs.take m := by
  unfold cutA
  rw [HT.sIx_none, HT.sIx_nat]
  simp
theorem cutA_from {α : Type} {xs : List α} {m : Nat} : cutA xs (some (m : Int)) none = xs.drop m := by
  unfold cutA
  rw [HT.sIx_none, HT.sIx_nat]
  rcases Nat.le_total m xs.length with h | h
  · rw [Nat.min_eq_left h]
    apply List.take_of_length_le
    simp
  · rw [Nat.min_eq_right h, List.drop_length, List.drop_eq_nil_of_le h]
    simp
theorem cutA_mid {α : Type} {xs : List α} {l m : Nat} : cutA xs (some (l : Int)) (some (m : Int)) = (xs.take m).drop l := by
  unfold cutA
  rw [HT.sIx_nat, HT.sIx_nat]
  apply List.ext_getElem?
  intro i
  rw [List.getElem?_take, List.getElem?_drop, List.getElem?_drop, List.getElem?_take]
  by_cases h1 : l ≤ xs.length
  · rw [Nat.min_eq_left h1]
    by_cases h2 : m ≤ xs.length
    · rw [Nat.min_eq_left h2]
      by_cases h3 : i < m - l
      · rw [if_pos h3, if_pos (by omega)]
      · rw [if_neg h3, if_neg (by omega)]
    · rw [Nat.min_eq_right (by omega)]
      by_cases h3 : i < xs.length - l
      · rw [if_pos h3, if_pos (by omega)]
      · rw [if_neg h3]
        split
        · rw [List.getElem?_eq_none (by omega)]
        · rfl
  · rw [Nat.min_eq_right (show xs.length ≤ l by omega)]
    rw [if_neg (by omega)]
    split
    · rw [List.getElem?_eq_none (by omega)]
    · rfl
end
theorem ixN_nat {n k : Nat} (h : k < n) : ixN n (k : Int) = some k := by
  unfold ixN
  rw [if_pos (by omega), if_pos (by omega), Int.toNat_natCast]
theorem ixN_0 {n : Nat} (h : 0 < n) : ixN n 0 = some 0 := ixN_nat (k := 0) h
theorem ixN_1 {n : Nat} (h : 1 < n) : ixN n 1 = some 1 := ixN_nat (k := 1) h
theorem memAt {α : Type} [Inhabited α] {l : List α} {Q : α → Prop} {n : Nat} (hl : l.length = n) (hq : ∀ i, i < n → Q l[i]!) : ∀ x ∈ l, Q x := fun x hx => by
  obtain ⟨i, hi, rfl⟩ := List.mem_iff_getElem.mp hx
  have := hq i (by omega)
  rwa [getElem!_pos l i hi] at this
theorem revS_s {l : List Nat} : revS (sS l) = sS l.reverse := rfl
theorem dRev_s {l : List Nat} {K : R → Prop} : dRev (.str (sS l)) K = (l.length ≤ sizeLine ∧ K (.d (.str (sS l.reverse)))) := by
  show ((sS l).length ≤ sizeLine ∧ K (.d (.str (revS (sS l))))) = _
  rw [sS_length, revS_s]
theorem dRev0_s {l : List Nat} {K : R → Prop} : dRev0 (.str (sS l)) K = (l.length ≤ sizeLine ∧ K (.d (.str (sS (l.drop 1).reverse)))) := by
  show ((sS l).length ≤ sizeLine ∧ K (.d (.str (revS0 (sS l))))) = _
  rw [sS_length]; rfl
theorem rev_map {α β : Type} {f : α → β} {l : List α} : (l.map f).reverse = l.reverse.map f := List.map_reverse.symm
theorem rgOk {i j : Int} (h0 : 0 ≤ i) (h1 : j ≤ 16000000) (h2 : i ≤ 16000000) (h3 : 0 ≤ j) : RgOk i j := RgOk.of_le h0 (by omega) (by omega) h3
theorem mul_s {l : List Nat} {k : Int} (h : 0 ≤ k) : Txt.mul (sS l) k = sS (List.replicate k.toNat l).flatten := by
  have f0 : ∀ (m : Nat) (acc : Array Nat), (List.replicate m l.toArray).foldl (· ++ ·) acc = acc ++ (List.replicate m l).flatten.toArray := fun m => by
    induction m with
    | zero => intro acc; simp
    | succ m ih => intro acc; rw [List.replicate_succ, List.foldl_cons, ih, List.replicate_succ, List.flatten_cons]; simp
  unfold Txt.mul
  by_cases h1 : k < 1
  · have e : k = 0 := by omega
    subst e
    rw [if_pos (by decide)]
    rfl
  · rw [if_neg h1]
    by_cases h2 : (k == 1 || (sS l).length == 0) = true
    · rw [if_pos h2]
      simp only [Bool.or_eq_true, beq_iff_eq] at h2
      rcases h2 with e | e
      · subst e
        show sS l = sS (List.replicate 1 l).flatten
        simp
      · rw [sS_length] at e
        have : l = [] := List.length_eq_zero_iff.mp e
        subst this
        congr 1
        simp
    · rw [if_neg h2]
      show (⟨(List.replicate k.toNat l.toArray).foldl (· ++ ·) #[]⟩ : Str) = _
      rw [f0]
      unfold sS
      simp
theorem dMul_s {l : List Nat} {k : Nat} {K : R → Prop} : dMul (.str (sS l)) (.int (k : Int)) K = (k ≤ 1000000 ∧ l.length * k ≤ sizeLine ∧ K (.d (.str (sS (List.replicate k l).flatten)))) := by
  show (0 ≤ (k : Int) ∧ (k : Int) ≤ 1000000 ∧ (sS l).length * (k : Int).toNat ≤ sizeLine ∧ K (.d (.str (Txt.mul (sS l) k)))) = _
  rw [mul_s (by omega), Int.toNat_natCast, sS_length]
  apply propext
  constructor
  · rintro ⟨_, h1, h2, h3⟩; exact ⟨by omega, h2, h3⟩
  · rintro ⟨h1, h2, h3⟩; exact ⟨by omega, by omega, h2, h3⟩
theorem dMul_sN {l : List Nat} {k : Nat} {K : R → Prop} : dMul (.str (sS l)) (.int (@OfNat.ofNat Int k instOfNat)) K = (k ≤ 1000000 ∧ l.length * k ≤ sizeLine ∧ K (.d (.str (sS (List.replicate k l).flatten)))) := dMul_s
theorem dIx_s0 {l : List Nat} {K : R → Prop} : dIx (.str (sS l)) (.int 0) K = (0 < l.length ∧ l.length ≤ sizeLine ∧ K (.d (.str (sS [l[0]!])))) := dIx_s (n := 0)
theorem cutS_s {l : List Nat} {lo hi : Option Int} : cutS (sS l) lo hi = sS (cutA l lo hi) := by
  unfold cutS cutA
  rw [sS_length]
  show (⟨_⟩ : Str) = ⟨_⟩
  congr 1
  try rfl
theorem cutA_from1 {α : Type} {xs : List α} {m : Nat} : cutA xs (some ((m : Int) + 1)) none = xs.drop (m + 1) := cutA_from (m := m + 1)
theorem cutA_f1 {α : Type} {xs : List α} : cutA xs (some 1) none = xs.drop 1 := cutA_from (m := 1)
theorem cutA_t1 {α : Type} {xs : List α} : cutA xs none (some 1) = xs.take 1 := cutA_to (m := 1)
theorem if_argI {c : Prop} [Decidable c] {F : Int → Prop} {u v : Int} (h : ∀ z, (c ∧ z = u) ∨ (¬ c ∧ z = v) → F z) : if c then F u else F v := by
  by_cases z : c
  · rw [if_pos z]; exact h u (.inl ⟨z, rfl⟩)
  · rw [if_neg z]; exact h v (.inr ⟨z, rfl⟩)
theorem pw_le {n l a b : Nat} (h : n ≤ a) (k : l ≤ b) (ha : 1 ≤ a) : n ^ l ≤ a ^ b := Nat.le_trans (Nat.pow_le_pow_left h l) (Nat.pow_le_pow_right ha k)
end Dl

namespace Dl
open PySem PySem.Spec PyProof.Rows L2
/-! ### fractions as rationals -/
/-- a fraction's data -/
def fD (q : Rat) : PyData := .tuple [.int q.num, .int (q.den : Int)]
theorem frD_fD {a b : Int} (h : b ≠ 0) : frD a b = fD ((a : Rat) / (b : Rat)) := by
  have hd := cdv_ne (a := a) h
  obtain ⟨p, ep⟩ := (cdv_dvd (a := a) (b := b)).1
  obtain ⟨r, er⟩ := (cdv_dvd (a := a) (b := b)).2
  have e1 : frP a b = p := by
    unfold frP
    generalize cdv a b = d at *
    subst ep
    exact Int.mul_fdiv_cancel_left p hd
  have e2 : frQ a b = r := by
    unfold frQ
    generalize cdv a b = d at *
    subst er
    exact Int.mul_fdiv_cancel_left r hd
  have hg : (cdv a b).natAbs = Int.gcd a b := by
    unfold cdv
    split <;> omega
  have hc : Int.gcd p r = 1 := by
    have e4 : ∀ d : Int, a = d * p → b = d * r → Int.gcd a b = d.natAbs * Int.gcd p r := fun d h1 h2 => by subst h1; subst h2; exact Int.gcd_mul_left ..
    have := e4 _ ep er
    rw [hg] at this
    have h0 : Int.gcd a b ≠ 0 := by have := gcd_ne (a := a) h; omega
    have : Int.gcd a b * 1 = Int.gcd a b * Int.gcd p r := by omega
    exact (Nat.eq_of_mul_eq_mul_left (by omega) this).symm
  have hr : 0 < r := by
    have hd' := hd
    unfold cdv at er hd'
    have hg0 : 0 ≤ (Int.gcd a b : Int) := by omega
    by_cases c : b < 0
    · rw [if_pos c] at er hd'
      have e3 : -b = (Int.gcd a b : Int) * r := by
        have := er
        rw [Int.neg_mul] at this
        omega
      have h0 : 0 < (Int.gcd a b : Int) := by omega
      exact Int.pos_of_mul_pos_right (a := (Int.gcd a b : Int)) (by omega) h0
    · rw [if_neg c] at er hd'
      have h0 : 0 < (Int.gcd a b : Int) := by omega
      have hb : 0 < b := by omega
      refine Int.pos_of_mul_pos_right (a := (Int.gcd a b : Int)) (by rw [← er]; exact hb) h0
  have e3 : (a : Rat) / (b : Rat) = (p : Rat) / (r : Rat) := by
    have e4 : ∀ d : Int, d ≠ 0 → a = d * p → b = d * r → (a : Rat) / (b : Rat) = (p : Rat) / (r : Rat) := fun d h0 h1 h2 => by subst h1; subst h2; exact div_mul_left h0
    exact e4 _ hd ep er
  have hn : (a : Rat) / (b : Rat) = (p : Rat) / (r : Rat) ∧ ((p : Rat) / (r : Rat)).num = p ∧ (((p : Rat) / (r : Rat)).den : Int) = r := by
    refine ⟨e3, ?_, ?_⟩
    · rw [← Rat.divInt_eq_div, Rat.num_divInt, Int.gcd_comm, hc, Int.sign_eq_one_of_pos hr]; simp
    · rw [← Rat.divInt_eq_div, Rat.den_divInt, if_neg (by omega), Int.gcd_comm, hc]; simp; omega
  unfold frD fD
  rw [e1, e2, hn.1, hn.2.1, hn.2.2]
theorem RB.bn {n : Nat} {q : Rat} (h : RB n q) : Bd n q.num := h.1
theorem RB.bd {n : Nat} {q : Rat} (h : RB n q) : Bd n (q.den : Int) := by
  show ((q.den : Int)).natAbs < _
  rw [Int.natAbs_natCast]
  exact h.2
theorem RB.of {n : Nat} {a b : Int} (ha : Bd n a) (hb : Bd n b) (h : b ≠ 0) : RB n ((a : Rat) / (b : Rat)) := RB.div ha hb h
theorem Bd.lit {n : Nat} {i : Int} (h : i.natAbs < 2 ^ n := by decide) : Bd n i := h
theorem Bd.nat {n : Nat} {i : Nat} (h : i < 2 ^ n) : Bd n (i : Int) := by unfold Bd; rwa [Int.natAbs_natCast]
theorem Bd.of {n : Nat} {i : Int} (h0 : 0 ≤ i) (h : i < 2 ^ n) : Bd n i := by
  unfold Bd
  have : (i.natAbs : Int) < 2 ^ n := by omega
  exact_mod_cast this
theorem Bd.lt {n : Nat} {i : Int} (h : Bd n i) : i < 2 ^ n := by
  unfold Bd at h
  have : ((i.natAbs : Nat) : Int) < 2 ^ n := by exact_mod_cast h
  omega
/-- sizes that the walk asks for, from bounds -/
theorem Bd.mc {m n : Nat} {i j : Int} (h : Bd m i) (k : Bd n j) (hs : m + n < 999990) : MulC i j :=
  Bd.mulC (h.mono (Nat.le_succ m)) (k.mono (Nat.le_succ n)) (by omega) (by omega) (by omega)
theorem Bd.dc {m : Nat} {i j : Int} (h : Bd m j) (hj : j ≠ 0) (hs : m ≤ 8000) : DivC i j := Bd.divC (h.mono hs) hj (by decide) (by decide)
/-! ### how great a text is, for a fraction's data -/
theorem fD_show {q : Rat} (h : RB 1920 q) : (fD q).showable = true := by
  have h1 := h.bn.sh (by decide) (by decide)
  have h2 := h.bd.sh (by decide) (by decide)
  simp only [PyData.showable, PyData.showableAll, fD, Bool.and_true] at h1 h2 ⊢
  rw [h1, h2]; rfl
theorem fD_cost {q : Rat} : cost (fD q) = 3849 := rfl
/-- what repr asks of data, with a cost -/
def Rp (n : Nat) (d : Nat) (x : PyData) : Prop := x.showable = true ∧ okD x = true ∧ x.depth ≤ d ∧ cost x ≤ n
theorem Rp.fin {n d : Nat} {x : PyData} (h : Rp n d x) (hn : n ≤ 16000000) (hd : d ≤ 60) : x.showable = true ∧ okD x = true ∧ x.depth ≤ 60 ∧ x.shown.length ≤ sizeLine :=
  ⟨h.1, h.2.1, Nat.le_trans h.2.2.1 hd, Nat.le_trans (shown_le _ h.1) (by rw [sizeLine_eq]; have := h.2.2.2; omega)⟩
theorem Rp.mono {n d n' d' : Nat} {x : PyData} (h : Rp n d x) (hn : n ≤ n') (hd : d ≤ d') : Rp n' d' x := ⟨h.1, h.2.1, Nat.le_trans h.2.2.1 hd, Nat.le_trans h.2.2.2 hn⟩
theorem Rp.int {i : Int} (h : Bd 1920 i) : Rp 1921 1 (.int i) := ⟨h.sh (by decide) (by decide), rfl, by simp [PyData.depth], Nat.le_refl _⟩
theorem Rp.bool {b : Bool} : Rp 5 1 (.bool b) := ⟨rfl, rfl, by simp [PyData.depth], Nat.le_refl _⟩
theorem Rp.none : Rp 4 1 .none := ⟨rfl, rfl, by simp [PyData.depth], Nat.le_refl _⟩
theorem Rp.fr {q : Rat} (h : RB 1920 q) : Rp 3849 2 (fD q) := ⟨fD_show h, rfl, by simp [fD, PyData.depth, PyData.depthAll], Nat.le_refl _⟩
def RpA (n d : Nat) (xs : List PyData) : Prop := PyData.showableAll xs = true ∧ okA xs = true ∧ PyData.depthAll xs ≤ d ∧ costAll xs ≤ n
theorem RpA.nil : RpA 0 0 [] := ⟨rfl, rfl, Nat.le_refl _, Nat.le_refl _⟩
theorem RpA.cons {n m d d' : Nat} {x : PyData} {xs : List PyData} (h : Rp n d x) (k : RpA m d' xs) : RpA (n + 2 + m) (max d d') (x :: xs) := by
  refine ⟨?_, ?_, ?_, ?_⟩
  · simp only [PyData.showableAll, h.1, k.1, Bool.and_self]
  · simp only [okA, h.2.1, k.2.1, Bool.and_self]
  · simp only [PyData.depthAll]; have := h.2.2.1; have := k.2.2.1; omega
  · simp only [costAll]; have := h.2.2.2; have := k.2.2.2; omega
theorem RpA.mono {n d n' d' : Nat} {x : List PyData} (h : RpA n d x) (hn : n ≤ n') (hd : d ≤ d') : RpA n' d' x := ⟨h.1, h.2.1, Nat.le_trans h.2.2.1 hd, Nat.le_trans h.2.2.2 hn⟩
theorem RpA.lst {n d : Nat} {xs : List PyData} (h : RpA n d xs) : Rp (n + 3) (d + 1) (.list xs) :=
  ⟨by simpa [PyData.showable] using h.1, by simpa [okD] using h.2.1, by simp only [PyData.depth]; have := h.2.2.1; omega, by simp only [cost]; have := h.2.2.2; omega⟩
theorem RpA.tup {n d : Nat} {xs : List PyData} (h : RpA n d xs) : Rp (n + 3) (d + 1) (.tuple xs) :=
  ⟨by simpa [PyData.showable] using h.1, by simpa [okD] using h.2.1, by simp only [PyData.depth]; have := h.2.2.1; omega, by simp only [cost]; have := h.2.2.2; omega⟩
theorem Rp.dic0 : Rp 2 1 (.dict []) := ⟨rfl, rfl, by simp [PyData.depth, PyData.depthKv], by show (PyData.shown (.dict [])).length ≤ 2; decide⟩
theorem RpA.all {n d m : Nat} : ∀ {xs : List PyData}, (∀ x ∈ xs, Rp n d x) → xs.length ≤ m → RpA (m * (n + 2)) d xs
  | [], _, _ => RpA.nil.mono (Nat.zero_le _) (Nat.zero_le _)
  | x :: xs, h, hl => by
    cases m with
    | zero => simp at hl
    | succ m =>
      have k := RpA.all (m := m) (fun y hy => h y (List.mem_cons_of_mem _ hy)) (by simpa using hl)
      refine (RpA.cons (h x List.mem_cons_self) k).mono ?_ (by omega)
      rw [Nat.succ_mul]; omega
end Dl
namespace Dl
open PySem PySem.Spec PyProof.Rows L2
theorem gTupF {n : Nat} {f : List PyData → En → (En → Prop) → Prop} {q : Rat} {e : En} {Q : En → Prop} : gTupW n f (fD q) e Q = (2 = n ∧ f [.int q.num, .int (q.den : Int)] e Q) := rfl
theorem dIx_f0 {q : Rat} {K : R → Prop} : dIx (fD q) (.int 0) K = K (.d (.int q.num)) := rfl
theorem dIx_f1 {q : Rat} {K : R → Prop} : dIx (fD q) (.int 1) K = K (.d (.int (q.den : Int))) := rfl
theorem flat_fD {q : Rat} : (R.d (fD q)).flat = false := rfl
end Dl

namespace Dl
open PySem PySem.Spec PyProof.Rows L2
/-! ### chains -/
structure Ch where
  sgs : List Nat
  st : List Int
  sp : List (List Int)
  tl : List (List Int)
abbrev chD (c : Ch) : PyData := .tuple [.str (sS c.sgs), lnD c.st, lnsD c.sp, lnsD c.tl]
/-- a line of so many weights, its sum of so many bits -/
structure LnOk (b n : Nat) (ws : List Int) : Prop where
  len : ws.length = n
  nn : ∀ w ∈ ws, 0 ≤ w
  pos : 0 < ws.sum
  bd : ws.sum < 2 ^ b
/-- sb: bits of the start line's sum -/
structure ChOk (b : Nat) (c : Ch) (sb : Nat := b) : Prop where
  n1 : 1 ≤ c.st.length
  n6 : c.st.length ≤ 6
  m1 : 1 ≤ c.sgs.length
  m5 : c.sgs.length ≤ 5
  nd : c.sgs.Nodup
  low : ∀ s ∈ c.sgs, 97 ≤ s ∧ s ≤ 122
  st : LnOk sb c.st.length c.st
  spl : c.sp.length = c.st.length
  sp : ∀ l ∈ c.sp, LnOk b c.st.length l
  tll : c.tl.length = c.st.length
  tl : ∀ l ∈ c.tl, LnOk b c.sgs.length l
def VwOk (c : Ch) (v : List Nat) : Prop := ∀ s ∈ v, s = 46 ∨ s ∈ c.sgs
theorem sum_ge : ∀ {ws : List Int} {w : Int}, (∀ w ∈ ws, 0 ≤ w) → w ∈ ws → w ≤ ws.sum
  | a :: ws, w, h, hm => by
    rw [List.sum_cons]
    have h0 := h a List.mem_cons_self
    have h1 := sum_nn fun x hx => h x (List.mem_cons_of_mem _ hx)
    rcases List.mem_cons.mp hm with rfl | hm
    · omega
    · have := sum_ge (fun x hx => h x (List.mem_cons_of_mem _ hx)) hm
      omega
theorem LnOk.at {b n : Nat} {ws : List Int} (h : LnOk b n ws) {i : Nat} (hi : i < n) : 0 ≤ ws[i]! ∧ ws[i]! ≤ ws.sum ∧ Bd b ws[i]! := by
  have hm : ws[i]! ∈ ws := getB_mem (by rw [h.len]; exact hi)
  have h0 := h.nn _ hm
  have h1 := sum_ge h.nn hm
  exact ⟨h0, h1, Bd.of h0 (Int.lt_of_le_of_lt h1 h.bd)⟩
theorem LnOk.sbd {b n : Nat} {ws : List Int} (h : LnOk b n ws) : Bd b ws.sum := Bd.of (Int.le_of_lt h.pos) h.bd
theorem LnOk.ne {b n : Nat} {ws : List Int} (h : LnOk b n ws) : ws.sum ≠ 0 := by have := h.pos; omega
theorem LnOk.mono {b b' n : Nat} {ws : List Int} (h : LnOk b n ws) (l : b ≤ b') : LnOk b' n ws := ⟨h.len, h.nn, h.pos, h.sbd.mono l |>.lt⟩
theorem ChOk.spAt {b sb : Nat} {c : Ch} (h : ChOk b c sb) {i : Nat} (hi : i < c.st.length) : LnOk b c.st.length c.sp[i]! := h.sp _ (getB_mem (by rw [h.spl]; exact hi))
theorem ChOk.tlAt {b sb : Nat} {c : Ch} (h : ChOk b c sb) {i : Nat} (hi : i < c.st.length) : LnOk b c.sgs.length c.tl[i]! := h.tl _ (getB_mem (by rw [h.tll]; exact hi))
theorem ChOk.mono {b b' : Nat} {c : Ch} (h : ChOk b c) (l : b ≤ b') : ChOk b' c := ⟨h.n1, h.n6, h.m1, h.m5, h.nd, h.low, h.st.mono l, h.spl, fun x hx => (h.sp x hx).mono l, h.tll, fun x hx => (h.tl x hx).mono l⟩
theorem ChOk.ix {b sb : Nat} {c : Ch} (h : ChOk b c sb) {s : Nat} (hs : s ∈ c.sgs) : c.sgs.idxOf s < c.sgs.length := List.idxOf_lt_length_iff.mpr hs
/-- a weight's share -/
def wq (ws : List Int) (i : Nat) : Rat := ((ws[i]! : Int) : Rat) / ((ws.sum : Int) : Rat)
theorem LnOk.rb {b n : Nat} {ws : List Int} (h : LnOk b n ws) {i : Nat} (hi : i < n) : RB b (wq ws i) := RB.of (h.at hi).2.2 h.sbd h.ne
theorem div_nn {a b : Int} (ha : 0 ≤ a) (hb : 0 < b) : 0 ≤ (a : Rat) / (b : Rat) := by
  rw [← Rat.divInt_eq_div]
  exact Rat.divInt_nonneg ha (Int.le_of_lt hb)
theorem LnOk.wnn {b n : Nat} {ws : List Int} (h : LnOk b n ws) {i : Nat} (hi : i < n) : 0 ≤ wq ws i := div_nn (h.at hi).1 h.pos
theorem LnOk.one {b n : Nat} {ws : List Int} (h : LnOk b n ws) : sg n (wq ws) = 1 := by
  have e : sg n (wq ws) = sg n (fun i => ((ws[i]! : Int) : Rat) * (((ws.sum : Int) : Rat))⁻¹) := sg_congr fun i _ => Rat.div_def _ _
  rw [e, sg_mulr, ← sgi_cast, ← h.len, ← sum_sgi, Rat.mul_inv_cancel _ (cast_ne h.ne)]
def Ch.told (c : Ch) (i s : Nat) : Rat := if s = 46 then 1 else wq c.tl[i]! (c.sgs.idxOf s)
theorem ChOk.toldB {b sb : Nat} {c : Ch} (h : ChOk b c sb) (hb : 1 ≤ b) {i s : Nat} (hi : i < c.st.length) (hs : s = 46 ∨ s ∈ c.sgs) : RB b (c.told i s) ∧ 0 ≤ c.told i s := by
  unfold Ch.told
  split
  · exact ⟨⟨Nat.one_lt_two_pow (by omega), Nat.one_lt_two_pow (by omega)⟩, by decide⟩
  · rename_i z
    have hm : s ∈ c.sgs := by rcases hs with q | q; exact absurd q z; exact q
    exact ⟨(h.tlAt hi).rb (h.ix hm), (h.tlAt hi).wnn (h.ix hm)⟩
/-! courses -/
/-- how a course comes to its k-th state -/
def Ch.come (c : Ch) (r : List Nat) (k : Nat) : Rat := if k = 0 then wq c.st r[0]! else wq c.sp[r[k - 1]!]! r[k]!
/-- a course's chance with a view, up to a place -/
def Ch.prk (c : Ch) (v r : List Nat) : Nat → Rat
  | 0 => 1
  | k + 1 => c.prk v r k * c.come r k * c.told r[k]! v[k]!
def CsOk (c : Ch) (r : List Nat) : Prop := ∀ s ∈ r, s < c.st.length
theorem CsOk.at {c : Ch} {r : List Nat} (h : CsOk c r) {k : Nat} (hk : k < r.length) : r[k]! < c.st.length := h _ (getB_mem hk)
theorem ChOk.comeB {b : Nat} {c : Ch} (h : ChOk b c) {r : List Nat} (hr : CsOk c r) {k : Nat} (hk : k < r.length) : RB b (c.come r k) ∧ 0 ≤ c.come r k := by
  unfold Ch.come
  split
  · rename_i z; subst z; exact ⟨h.st.rb (hr.at hk), h.st.wnn (hr.at hk)⟩
  · have := h.spAt (hr.at (k := k - 1) (by omega))
    exact ⟨this.rb (hr.at hk), this.wnn (hr.at hk)⟩
theorem ChOk.prkB {b : Nat} {c : Ch} (h : ChOk b c) (hb : 1 ≤ b) {v r : List Nat} (hr : CsOk c r) (hv : VwOk c v) (hl : r.length = v.length) : ∀ {k : Nat}, k ≤ r.length → RB (k * (2 * b) + 1) (c.prk v r k)
  | 0, _ => ⟨Nat.one_lt_two_pow (by omega), Nat.one_lt_two_pow (by omega)⟩
  | k + 1, hk => by
    have h1 := h.prkB hb hr hv hl (k := k) (by omega)
    have h2 := (h.comeB hr (k := k) (by omega)).1
    have h3 := (h.toldB hb (hr.at (k := k) (by omega)) (hv v[k]! (getB_mem (by omega)))).1
    refine ((h1.mul h2).mul h3).mono ?_
    have := Nat.add_one_mul k (2 * b)
    omega
/-- all courses -/
def crs (n : Nat) : Nat → List (List Nat)
  | 0 => [[]]
  | k + 1 => (crs n k).flatMap fun r => (List.range n).map fun s => r ++ [s]
theorem crs_ok {n : Nat} : ∀ {k : Nat} {r : List Nat}, r ∈ crs n k → r.length = k ∧ ∀ s ∈ r, s < n
  | 0, r, h => by simp [crs] at h; subst h; simp
  | k + 1, r, h => by
    simp only [crs, List.mem_flatMap, List.mem_map, List.mem_range] at h
    obtain ⟨r', h1, s, hs, rfl⟩ := h
    obtain ⟨a, b⟩ := crs_ok h1
    refine ⟨by simp [a], fun t ht => ?_⟩
    rcases List.mem_append.mp ht with q | q
    · exact b t q
    · rw [List.mem_singleton.mp q]; exact hs
theorem crs_len {n : Nat} : ∀ {k : Nat}, (crs n k).length = n ^ k
  | 0 => rfl
  | k + 1 => by
    simp only [crs, List.length_flatMap, List.length_map, List.length_range]
    rw [show (List.map (fun _ => n) (crs n k)).sum = (crs n k).length * n by
      generalize crs n k = l
      induction l with
      | nil => simp
      | cons a l ih => simp only [List.map_cons, List.sum_cons, ih, List.length_cons, Nat.succ_mul]; omega, crs_len, Nat.pow_succ]
/-- a sum over a list -/
def lsum {α : Type} (l : List α) (f : α → Rat) : Rat := (l.map f).foldr (· + ·) 0
theorem lsum_nil {α : Type} {f : α → Rat} : lsum [] f = 0 := rfl
theorem lsum_cons {α : Type} {a : α} {l : List α} {f : α → Rat} : lsum (a :: l) f = f a + lsum l f := rfl
theorem lsum_append {α : Type} {l m : List α} {f : α → Rat} : lsum (l ++ m) f = lsum l f + lsum m f := by
  induction l with
  | nil => simp only [List.nil_append, lsum_nil]; grind
  | cons a l ih => simp only [List.cons_append, lsum_cons, ih]; grind
theorem lsum_map {α β : Type} {g : β → α} {l : List β} {f : α → Rat} : lsum (l.map g) f = lsum l fun x => f (g x) := by
  induction l with
  | nil => rfl
  | cons a l ih => simp only [List.map_cons, lsum_cons, ih]
theorem lsum_congr {α : Type} {l : List α} {f g : α → Rat} (h : ∀ x ∈ l, f x = g x) : lsum l f = lsum l g := by
  induction l with
  | nil => rfl
  | cons a l ih => rw [lsum_cons, lsum_cons, h a List.mem_cons_self, ih fun x hx => h x (List.mem_cons_of_mem _ hx)]
theorem lsum_range {n : Nat} {f : Nat → Rat} : lsum (List.range n) f = sg n f := by
  induction n with
  | zero => rfl
  | succ n ih => rw [List.range_succ, lsum_append, ih, lsum_cons, lsum_nil]; simp only [sg]; grind
theorem lsum_flatMap {α β : Type} {g : β → List α} {l : List β} {f : α → Rat} : lsum (l.flatMap g) f = lsum l fun x => lsum (g x) f := by
  induction l with
  | nil => rfl
  | cons a l ih => simp only [List.flatMap_cons, lsum_append, lsum_cons, ih]
theorem lsum_mulr {α : Type} {l : List α} {f : α → Rat} {a : Rat} : lsum l (fun x => f x * a) = lsum l f * a := by
  induction l with
  | nil => simp only [lsum_nil]; grind
  | cons x l ih => simp only [lsum_cons, ih]; grind
theorem lsum_add {α : Type} {l : List α} {f g : α → Rat} : lsum l (fun x => f x + g x) = lsum l f + lsum l g := by
  induction l with
  | nil => simp only [lsum_nil]; grind
  | cons x l ih => simp only [lsum_cons, ih]; grind
theorem lsum_zero {α : Type} {l : List α} : lsum l (fun _ => 0) = 0 := by
  induction l with
  | nil => rfl
  | cons x l ih => simp only [lsum_cons, ih]; grind
theorem lsum_sg {α : Type} {l : List α} {n : Nat} {f : α → Nat → Rat} : lsum l (fun x => sg n (f x)) = sg n fun j => lsum l fun x => f x j := by
  induction n with
  | zero => simp only [sg]; exact lsum_zero
  | succ n ih => simp only [sg, lsum_add, ih]
/-- the row of chances behind k signs -/
def Ch.ra (c : Ch) (v : List Nat) : Nat → Nat → Rat
  | 0, j => wq c.st j
  | k + 1, j => (if k = 0 then wq c.st j else sg c.st.length fun i => c.ra v k i * wq c.sp[i]! j) * c.told j v[k]!
/-- a view's chance -/
def Ch.chance (c : Ch) (v : List Nat) : Rat := sg c.st.length (c.ra v v.length)
theorem get_snoc {r : List Nat} {s : Nat} : (r ++ [s])[r.length]! = s := by
  rw [getElem!_pos _ _ (by simp), List.getElem_append_right (by omega)]; simp
theorem get_ahead {r t : List Nat} {k : Nat} (h : k < r.length) : (r ++ t)[k]! = r[k]! := by
  rw [getElem!_pos (r ++ t) k (by simp; omega), getElem!_pos r k h, List.getElem_append_left h]
theorem prk_ahead {c : Ch} {v r t : List Nat} : ∀ {k : Nat}, k ≤ r.length → c.prk v (r ++ t) k = c.prk v r k
  | 0, _ => rfl
  | k + 1, h => by
    have e1 : c.come (r ++ t) k = c.come r k := by
      unfold Ch.come
      split
      · rename_i z; subst z; rw [get_ahead (by omega)]
      · rw [get_ahead (by omega), get_ahead (by omega)]
    simp only [Ch.prk]
    rw [prk_ahead (k := k) (by omega), e1, get_ahead (by omega)]
theorem prk_snoc {c : Ch} {v r : List Nat} {s : Nat} : c.prk v (r ++ [s]) (r.length + 1) = c.prk v r r.length * (if r.length = 0 then wq c.st s else wq c.sp[r[r.length - 1]!]! s) * c.told s v[r.length]! := by
  simp only [Ch.prk]
  rw [prk_ahead (Nat.le_refl _), get_snoc]
  congr 2
  unfold Ch.come
  by_cases z : r.length = 0
  · rw [if_pos z, if_pos z, show (0 : Nat) = r.length from z.symm, get_snoc]
  · rw [if_neg z, if_neg z, get_snoc, get_ahead (by omega)]
/-- the row is the sum over all courses, by their last state -/
theorem ra_crs {c : Ch} {v : List Nat} {g : Nat → Rat} : ∀ {k : Nat}, lsum (crs c.st.length (k + 1)) (fun r => c.prk v r (k + 1) * g r[k]!) = sg c.st.length fun j => c.ra v (k + 1) j * g j
  | 0 => by
    show lsum (crs c.st.length 1) _ = _
    simp only [crs, List.flatMap_cons, List.flatMap_nil, List.append_nil, List.nil_append, lsum_map, lsum_range]
    refine sg_congr fun j _ => ?_
    have := prk_snoc (c := c) (v := v) (r := []) (s := j)
    simp only [List.length_nil, List.nil_append] at this
    rw [this]
    simp only [Ch.prk, Ch.ra, if_true]
    have e : ([j] : List Nat)[0]! = j := rfl
    rw [e]; grind
  | k + 1 => by
    have ih := fun g => ra_crs (c := c) (v := v) (g := g) (k := k)
    rw [crs, lsum_flatMap]
    simp only [lsum_map, lsum_range]
    have e1 : lsum (crs c.st.length (k + 1)) (fun r => sg c.st.length fun s => c.prk v (r ++ [s]) (k + 1 + 1) * g (r ++ [s])[k + 1]!) =
        lsum (crs c.st.length (k + 1)) (fun r => c.prk v r (k + 1) * (fun i => sg c.st.length fun s => wq c.sp[i]! s * (c.told s v[k + 1]! * g s)) r[k]!) := by
      refine lsum_congr fun r hr => ?_
      have hl := (crs_ok hr).1
      show _ = _ * _
      rw [← sg_mul]
      refine sg_congr fun s _ => ?_
      have h1 := prk_snoc (c := c) (v := v) (r := r) (s := s)
      have h2 := get_snoc (r := r) (s := s)
      rw [hl] at h1 h2
      rw [if_neg (by omega), show k + 1 - 1 = k from rfl] at h1
      rw [h1, h2]; grind
    rw [e1, ih fun i => sg c.st.length fun s => wq c.sp[i]! s * (c.told s v[k + 1]! * g s)]
    have e2 : (sg c.st.length fun j => c.ra v (k + 1) j * (fun i => sg c.st.length fun s => wq c.sp[i]! s * (c.told s v[k + 1]! * g s)) j) = sg c.st.length fun j => sg c.st.length fun s => c.ra v (k + 1) j * wq c.sp[j]! s * (c.told s v[k + 1]! * g s) := by
      refine sg_congr fun j _ => ?_
      show _ * _ = _
      rw [← sg_mul]
      exact sg_congr fun s _ => by grind
    rw [e2, sg_swap]
    refine sg_congr fun s _ => ?_
    rw [sg_mulr]
    show _ = ((if k + 1 = 0 then _ else _) * _) * _
    rw [if_neg (by omega)]
    grind
theorem chance_crs {c : Ch} {b sb : Nat} (h : ChOk b c sb) {v : List Nat} : lsum (crs c.st.length v.length) (fun r => c.prk v r v.length) = c.chance v := by
  unfold Ch.chance
  cases e : v.length with
  | zero =>
    simp only [crs, lsum_cons, lsum_nil, Ch.prk]
    have : sg c.st.length (c.ra v 0) = 1 := h.st.one
    rw [this]; grind
  | succ k =>
    have := ra_crs (c := c) (v := v) (g := fun _ => 1) (k := k)
    simp only [Rat.mul_one] at this
    exact this
theorem chance_nil {c : Ch} {b sb : Nat} (h : ChOk b c sb) : c.chance [] = 1 := h.st.one
/-! lines of whole numbers in the place of shares -/
abbrev scl (L : Int) (ls : List (List Int)) : List (List Int) := ls.map fun l => l.map fun w => w * (L / l.sum)
theorem scl_at {b m : Nat} {ls : List (List Int)} {L : Int} (hL : 0 < L) (hl : ∀ l ∈ ls, LnOk b m l) (hd : ∀ l ∈ ls, l.sum ∣ L) {i j : Nat} (hi : i < ls.length) (hj : j < m) :
    (((scl L ls)[i]![j]! : Int) : Rat) = wq ls[i]! j * (L : Rat) ∧ 0 ≤ (scl L ls)[i]![j]! ∧ (scl L ls)[i]![j]! ≤ L := by
  have ho := hl _ (getB_mem hi)
  obtain ⟨q, eq⟩ := hd _ (getB_mem hi)
  have ha := ho.at hj
  have hp := ho.pos
  have e : (scl L ls)[i]![j]! = ls[i]![j]! * q := by
    unfold scl
    rw [getB_map hi, getB_map (by rw [ho.len]; exact hj), eq, Int.mul_ediv_cancel_left _ ho.ne]
  have hq : 0 < q := by
    rw [eq] at hL
    exact Int.pos_of_mul_pos_right hL hp
  rw [e]
  refine ⟨?_, Int.mul_nonneg ha.1 (by omega), ?_⟩
  · unfold wq
    rw [eq, Rat.intCast_mul, Rat.intCast_mul]
    have := cast_ne ho.ne
    grind
  · rw [eq]
    exact Int.mul_le_mul_of_nonneg_right ha.2.1 (by omega)
theorem scl_len {ls : List (List Int)} {L : Int} : (scl L ls).length = ls.length := by simp
theorem scl_row {b m : Nat} {ls : List (List Int)} {L : Int} (hl : ∀ l ∈ ls, LnOk b m l) {i : Nat} (hi : i < ls.length) : (scl L ls)[i]!.length = m := by
  unfold scl
  rw [getB_map hi, List.length_map, (hl _ (getB_mem hi)).len]
theorem sgi_bd {n N : Nat} {f : Nat → Int} (h : ∀ i, i < n → Bd N (f i)) : Bd (N + n) (sgi n f) := by
  induction n with
  | zero => exact Nat.two_pow_pos _
  | succ n ih =>
    have h1 := ih fun i hi => h i (by omega)
    have h2 := (h n (by omega)).mono (n := N + n) (by omega)
    exact h1.add h2
/-! chains with multiplied lines -/
def MulL (l l' : List Int) : Prop := ∃ k : Int, 0 < k ∧ k < 2 ^ 30 ∧ l' = l.map fun w => w * k
structure Mult (c c' : Ch) : Prop where
  sg : c'.sgs = c.sgs
  st : MulL c.st c'.st
  spl : c'.sp.length = c.sp.length
  sp : ∀ i, i < c.sp.length → MulL c.sp[i]! c'.sp[i]!
  tll : c'.tl.length = c.tl.length
  tl : ∀ i, i < c.tl.length → MulL c.tl[i]! c'.tl[i]!
theorem MulL.ok {b n : Nat} {l l' : List Int} (h : MulL l l') (k : LnOk b n l) : LnOk (b + 30) n l' := by
  obtain ⟨m, m0, m1, rfl⟩ := h
  refine ⟨by simpa using k.len, fun w hw => ?_, ?_, ?_⟩
  · obtain ⟨x, hx, rfl⟩ := List.mem_map.mp hw
    exact Int.mul_nonneg (k.nn x hx) (by omega)
  · rw [sum_mul]; exact Int.mul_pos k.pos m0
  · rw [sum_mul]
    exact (k.sbd.mul (Bd.of (n := 30) (by omega) m1)).lt
theorem MulL.wq {b n : Nat} {l l' : List Int} (h : MulL l l') (k : LnOk b n l) {i : Nat} (hi : i < n) : wq l' i = wq l i := by
  obtain ⟨m, m0, m1, rfl⟩ := h
  unfold Dl.wq
  rw [getB_map (by rw [k.len]; exact hi), sum_mul, Rat.intCast_mul, Rat.intCast_mul]
  have := cast_ne (show m ≠ 0 by omega)
  have := cast_ne k.ne
  grind
theorem MulL.len {l l' : List Int} (h : MulL l l') : l'.length = l.length := by obtain ⟨m, m0, m1, rfl⟩ := h; simp
theorem Mult.stl {c c' : Ch} (h : Mult c c') : c'.st.length = c.st.length := h.st.len
theorem Mult.ok {b sb : Nat} {c c' : Ch} (h : Mult c c') (k : ChOk b c sb) : ChOk (b + 30) c' (sb + 30) := by
  have e := h.stl
  refine ⟨by rw [e]; exact k.n1, by rw [e]; exact k.n6, by rw [h.sg]; exact k.m1, by rw [h.sg]; exact k.m5, by rw [h.sg]; exact k.nd, by rw [h.sg]; exact k.low, by rw [e]; exact h.st.ok k.st, by rw [h.spl, e]; exact k.spl, fun l hl => ?_, by rw [h.tll, e]; exact k.tll, fun l hl => ?_⟩
  · obtain ⟨i, hi, rfl⟩ := List.mem_iff_getElem.mp hl
    rw [h.spl] at hi
    have := (h.sp i hi).ok (k.spAt (by rw [← k.spl]; exact hi))
    rw [e]
    rwa [getElem!_pos c'.sp i (by rw [h.spl]; exact hi)] at this
  · obtain ⟨i, hi, rfl⟩ := List.mem_iff_getElem.mp hl
    rw [h.tll] at hi
    have := (h.tl i hi).ok (k.tlAt (by rw [← k.tll]; exact hi))
    rw [h.sg]
    rwa [getElem!_pos c'.tl i (by rw [h.tll]; exact hi)] at this
theorem Mult.told {b sb : Nat} {c c' : Ch} (h : Mult c c') (k : ChOk b c sb) {i s : Nat} (hi : i < c.st.length) (hs : s = 46 ∨ s ∈ c.sgs) : c'.told i s = c.told i s := by
  unfold Ch.told
  by_cases z : s = 46
  · rw [if_pos z, if_pos z]
  · rw [if_neg z, if_neg z, h.sg]
    exact (h.tl i (by rw [k.tll]; exact hi)).wq (k.tlAt hi) (k.ix (hs.resolve_left z))
theorem Mult.step {b sb : Nat} {c c' : Ch} (h : Mult c c') (k : ChOk b c sb) {i j : Nat} (hi : i < c.st.length) (hj : j < c.st.length) : wq c'.sp[i]! j = wq c.sp[i]! j :=
  (h.sp i (by rw [k.spl]; exact hi)).wq (k.spAt hi) hj
theorem Mult.prk {b : Nat} {c c' : Ch} (h : Mult c c') (k : ChOk b c) {v r : List Nat} (hr : CsOk c r) (hv : VwOk c v) (hl : r.length = v.length) : ∀ {m : Nat}, m ≤ r.length → c'.prk v r m = c.prk v r m
  | 0, _ => rfl
  | m + 1, hm => by
    have e1 := h.prk k hr hv hl (m := m) (by omega)
    have e2 := h.told k (hr.at (k := m) (by omega)) (hv v[m]! (getB_mem (by omega)))
    have e3 : c'.come r m = c.come r m := by
      unfold Ch.come
      by_cases z : m = 0
      · rw [if_pos z, if_pos z]
        exact h.st.wq k.st (hr.at (by omega))
      · rw [if_neg z, if_neg z]
        exact h.step k (hr.at (by omega)) (hr.at (by omega))
    simp only [Ch.prk, e1, e2, e3]
theorem Mult.vw {c c' : Ch} (h : Mult c c') {v : List Nat} (k : VwOk c v) : VwOk c' v := fun s hs => by rw [h.sg]; exact k s hs
theorem Mult.cs {c c' : Ch} (h : Mult c c') {r : List Nat} (k : CsOk c r) : CsOk c' r := fun s hs => by rw [h.stl]; exact k s hs
theorem Mult.chance {b : Nat} {c c' : Ch} (h : Mult c c') (k : ChOk b c) {v : List Nat} (hv : VwOk c v) : c'.chance v = c.chance v := by
  rw [← chance_crs (h.ok k), ← chance_crs k, h.stl]
  refine lsum_congr fun r hr => ?_
  obtain ⟨a, b⟩ := crs_ok hr
  have := h.prk k (r := r) (v := v) b hv a (m := r.length) (Nat.le_refl _)
  rwa [a] at this
/-! ### how great texts are -/
theorem rpr {n d : Nat} {x : PyData} {K : R → Prop} (h : Rp n d x) (hn : n ≤ 16000000) (hd : d ≤ 60) (k : K (.d (.str x.shown))) : dRepr [x] K := by
  obtain ⟨h1, h2, h3, h4⟩ := h.fin hn hd
  exact ⟨h1, h2, h3, h4, k⟩
theorem Rp.str {l : List Nat} (h : ∀ c ∈ l, c < 16 ^ 8) : Rp (10 * l.length + 2) 1 (.str (sS l)) := by
  refine ⟨rfl, rfl, by simp [PyData.depth], ?_⟩
  have := PySem.StrLaws.reprText_len (sS l) h
  rw [sS_length] at this
  exact this
theorem Rp.ln {ws : List Int} {m : Nat} (h : ∀ w ∈ ws, Bd 1920 w) (hl : ws.length ≤ m) : Rp (m * 1923 + 3) 2 (lnD ws) :=
  (RpA.all (n := 1921) (d := 1) (m := m) (fun x hx => by obtain ⟨w, hw, rfl⟩ := List.mem_map.mp hx; exact Rp.int (h w hw)) (by simpa using hl)).tup
theorem Rp.lns {ls : List (List Int)} {m k : Nat} (h : ∀ l ∈ ls, (∀ w ∈ l, Bd 1920 w) ∧ l.length ≤ m) (hl : ls.length ≤ k) : Rp (k * (m * 1923 + 3 + 2) + 3) 3 (lnsD ls) :=
  (RpA.all (n := m * 1923 + 3) (d := 2) (m := k) (fun x hx => by obtain ⟨w, hw, rfl⟩ := List.mem_map.mp hx; exact Rp.ln (h w hw).1 (h w hw).2) (by simpa using hl)).tup
theorem LnOk.allB {b n : Nat} {ws : List Int} (h : LnOk b n ws) (hb : b ≤ 1920) : ∀ w ∈ ws, Bd 1920 w := fun w hw => (Bd.of (h.nn w hw) (Int.lt_of_le_of_lt (sum_ge h.nn hw) h.bd)).mono hb
theorem Rp.ch {b : Nat} {c : Ch} (h : ChOk b c) (hb : b ≤ 1920) : Rp 200000 4 (chD c) := by
  have h1 : Rp (10 * 5 + 2) 1 (.str (sS c.sgs)) := (Rp.str fun s hs => by have := (h.low s hs).2; omega).mono (by have := h.m5; omega) (Nat.le_refl _)
  have h2 := Rp.ln (h.st.allB hb) h.n6
  have h3 := Rp.lns (m := 6) (k := 6) (fun l hl => ⟨(h.sp l hl).allB hb, by rw [(h.sp l hl).len]; exact h.n6⟩) (by rw [h.spl]; exact h.n6)
  have h4 := Rp.lns (m := 6) (k := 6) (fun l hl => ⟨(h.tl l hl).allB hb, by rw [(h.tl l hl).len]; have := h.m5; omega⟩) (by rw [h.tll]; exact h.n6)
  exact ((RpA.cons h1 (RpA.cons h2 (RpA.cons h3 (RpA.cons h4 RpA.nil)))).tup).mono (by decide) (by decide)
/-! a view's chance from its end -/
/-- from each state on, the chance of the last m signs -/
def Ch.bR (c : Ch) (v : List Nat) : Nat → Nat → Rat
  | 0, _ => 1
  | m + 1, i => sg c.st.length fun j => wq c.sp[i]! j * (c.told j v[v.length - 1 - m]! * c.bR v m j)
theorem ra_bR {c : Ch} {v : List Nat} : ∀ {m : Nat}, m + 1 ≤ v.length → (sg c.st.length fun j => c.ra v (v.length - m) j * c.bR v m j) = c.chance v
  | 0, _ => by
    unfold Ch.chance
    refine sg_congr fun j _ => ?_
    show c.ra v (v.length - 0) j * 1 = _
    rw [Rat.mul_one]; rfl
  | m + 1, h => by
    rw [← ra_bR (m := m) (by omega)]
    obtain ⟨k, hk⟩ : ∃ k, v.length - m = k + 1 + 1 := ⟨v.length - m - 2, by omega⟩
    have e1 : v.length - (m + 1) = k + 1 := by omega
    have e2 : v.length - 1 - m = k + 1 := by omega
    rw [e1, hk]
    have e3 : (sg c.st.length fun j => c.ra v (k + 1 + 1) j * c.bR v m j) = sg c.st.length fun j => sg c.st.length fun i => c.ra v (k + 1) i * (wq c.sp[i]! j * (c.told j v[k + 1]! * c.bR v m j)) := by
      refine sg_congr fun j _ => ?_
      show ((if k + 1 = 0 then _ else sg c.st.length fun i => c.ra v (k + 1) i * wq c.sp[i]! j) * c.told j v[k + 1]!) * _ = _
      rw [if_neg (by omega), Rat.mul_assoc, ← sg_mulr]
      refine sg_congr fun i _ => ?_
      grind
    rw [e3, sg_swap]
    refine sg_congr fun i _ => ?_
    show _ * (sg c.st.length fun j => wq c.sp[i]! j * (c.told j v[v.length - 1 - m]! * c.bR v m j)) = _
    rw [e2, ← sg_mul]
/-! gaps and signs behind -/
theorem ra_ahead {c : Ch} {v w : List Nat} : ∀ {k : Nat} {j : Nat}, k ≤ v.length → c.ra (v ++ w) k j = c.ra v k j
  | 0, _, _ => rfl
  | k + 1, j, h => by
    simp only [Ch.ra]
    rw [get_ahead (by omega)]
    by_cases z : k = 0
    · rw [if_pos z, if_pos z]
    · rw [if_neg z, if_neg z, sg_congr fun i _ => by rw [ra_ahead (k := k) (j := i) (by omega)]]
theorem get_mid {a b : List Nat} {s : Nat} : (a ++ s :: b)[a.length]! = s := by
  rw [getElem!_pos _ _ (by simp), List.getElem_append_right (by omega)]; simp
theorem get_behind {a b : List Nat} {s t k : Nat} (h : a.length < k) : (a ++ s :: b)[k]! = (a ++ t :: b)[k]! := by
  by_cases hk : k < (a ++ s :: b).length
  · have hk2 : k < (a ++ t :: b).length := by simpa using hk
    obtain ⟨d, hd⟩ : ∃ d, k = a.length + 1 + d := ⟨k - a.length - 1, by omega⟩
    rw [getElem!_pos (a ++ s :: b) k hk, getElem!_pos (a ++ t :: b) k hk2, List.getElem_append_right (by omega), List.getElem_append_right (by omega)]
    simp only [hd, show a.length + 1 + d - a.length = d + 1 by omega, List.getElem_cons_succ]
  · rw [getElem!_neg (a ++ s :: b) k hk, getElem!_neg (a ++ t :: b) k (by simpa using hk)]
theorem told_sum {b sb : Nat} {c : Ch} (h : ChOk b c sb) {j : Nat} (hj : j < c.st.length) : lsum c.sgs (fun s => c.told j s) = 1 := by
  have e : c.sgs = (List.range c.sgs.length).map fun i => c.sgs[i]! := eq_map_range rfl fun i _ => rfl
  have e2 : lsum c.sgs (fun s => c.told j s) = lsum ((List.range c.sgs.length).map fun i => c.sgs[i]!) fun s => c.told j s := by rw [← e]
  rw [e2, lsum_map, lsum_range, ← (h.tlAt hj).one]
  refine sg_congr fun i hi => ?_
  have hm := h.low _ (getB_mem hi)
  unfold Ch.told
  rw [if_neg (by omega), ← nodup_idx h.nd (getB hi)]
theorem ra_gap {b : Nat} {c : Ch} (h : ChOk b c) {a v : List Nat} : ∀ {k j : Nat}, j < c.st.length → a.length < k → lsum c.sgs (fun s => c.ra (a ++ s :: v) k j) = c.ra (a ++ 46 :: v) k j
  | 0, _, _, hk => by omega
  | k + 1, j, hj, hk => by
    by_cases z : k = a.length
    · have e : ∀ s, c.ra (a ++ s :: v) (k + 1) j = (if k = 0 then wq c.st j else sg c.st.length fun i => c.ra a k i * wq c.sp[i]! j) * c.told j s := fun s => by
        simp only [Ch.ra]
        rw [z, get_mid]
        congr 1
        by_cases y : a.length = 0
        · rw [if_pos y, if_pos y]
        · rw [if_neg y, if_neg y]
          exact sg_congr fun i _ => by rw [ra_ahead (Nat.le_refl _)]
      rw [lsum_congr fun s _ => e s, e 46]
      have t1 : c.told j 46 = 1 := if_pos rfl
      rw [t1, Rat.mul_one]
      have := told_sum h hj
      rw [show lsum c.sgs (fun s => (if k = 0 then wq c.st j else sg c.st.length fun i => c.ra a k i * wq c.sp[i]! j) * c.told j s) = lsum c.sgs (fun s => c.told j s * (if k = 0 then wq c.st j else sg c.st.length fun i => c.ra a k i * wq c.sp[i]! j)) from lsum_congr fun s _ => Rat.mul_comm _ _, lsum_mulr, this, Rat.one_mul]
    · have hk0 : k ≠ 0 := by omega
      have e : ∀ s, c.ra (a ++ s :: v) (k + 1) j = (sg c.st.length fun i => c.ra (a ++ s :: v) k i * wq c.sp[i]! j) * c.told j (a ++ 46 :: v)[k]! := fun s => by
        simp only [Ch.ra]
        rw [if_neg hk0, get_behind (t := 46) (by omega)]
      rw [lsum_congr fun s _ => e s, e 46, lsum_mulr, lsum_sg]
      congr 1
      refine sg_congr fun i hi => ?_
      rw [lsum_mulr, ra_gap h hi (by omega)]
/-- a gap is the sum over its signs -/
theorem chance_gap {b : Nat} {c : Ch} (h : ChOk b c) {a v : List Nat} : lsum c.sgs (fun s => c.chance (a ++ s :: v)) = c.chance (a ++ 46 :: v) := by
  unfold Ch.chance
  rw [lsum_sg]
  have e : ∀ s, (a ++ s :: v).length = (a ++ 46 :: v).length := fun s => by simp
  refine sg_congr fun j hj => ?_
  rw [lsum_congr fun s _ => by rw [e s], ra_gap h hj (by simp)]
/-- a gap behind changes nothing -/
theorem chance_dot {b : Nat} {c : Ch} (h : ChOk b c) {v : List Nat} : c.chance (v ++ [46]) = c.chance v := by
  unfold Ch.chance
  have e0 : (v ++ [46]).length = v.length + 1 := by simp
  rw [e0]
  have t : ∀ j, c.told j 46 = 1 := fun j => if_pos rfl
  have e1 : ∀ j, c.ra (v ++ [46]) (v.length + 1) j = if v.length = 0 then wq c.st j else sg c.st.length fun i => c.ra v v.length i * wq c.sp[i]! j := fun j => by
    simp only [Ch.ra]
    rw [get_snoc, t j, Rat.mul_one]
    by_cases y : v.length = 0
    · rw [if_pos y, if_pos y]
    · rw [if_neg y, if_neg y]
      exact sg_congr fun i _ => by rw [ra_ahead (Nat.le_refl _)]
  rw [sg_congr fun j _ => e1 j]
  by_cases y : v.length = 0
  · rw [sg_congr fun j _ => if_pos y, y]; rfl
  · rw [sg_congr fun j _ => if_neg y, sg_swap]
    refine sg_congr fun i hi => ?_
    rw [sg_mul, (h.spAt hi).one, Rat.mul_one]
theorem chance_signs {b : Nat} {c : Ch} (h : ChOk b c) {v : List Nat} : lsum c.sgs (fun s => c.chance (v ++ [s])) = c.chance v := by
  rw [← chance_dot h]
  exact chance_gap h
/-- all rows of one length -/
def rws (sg : List Nat) : Nat → List (List Nat)
  | 0 => [[]]
  | k + 1 => (rws sg k).flatMap fun r => sg.map fun s => r ++ [s]
theorem rws_ok {sg : List Nat} : ∀ {k : Nat} {r : List Nat}, r ∈ rws sg k → r.length = k ∧ ∀ s ∈ r, s ∈ sg
  | 0, r, h => by simp [rws] at h; subst h; simp
  | k + 1, r, h => by
    simp only [rws, List.mem_flatMap, List.mem_map] at h
    obtain ⟨r', h1, s, hs, rfl⟩ := h
    obtain ⟨a, b⟩ := rws_ok h1
    refine ⟨by simp [a], fun t ht => ?_⟩
    rcases List.mem_append.mp ht with q | q
    · exact b t q
    · rw [List.mem_singleton.mp q]; exact hs
theorem rws_len {sg : List Nat} : ∀ {k : Nat}, (rws sg k).length = sg.length ^ k
  | 0 => rfl
  | k + 1 => by
    simp only [rws, List.length_flatMap, List.length_map]
    rw [show (List.map (fun _ => sg.length) (rws sg k)).sum = (rws sg k).length * sg.length by
      generalize rws sg k = l
      induction l with
      | nil => simp
      | cons a l ih => simp only [List.map_cons, List.sum_cons, ih, List.length_cons, Nat.succ_mul]; omega, rws_len, Nat.pow_succ]
theorem chance_rws {b : Nat} {c : Ch} (h : ChOk b c) : ∀ {k : Nat}, lsum (rws c.sgs k) c.chance = 1
  | 0 => by simp only [rws, lsum_cons, lsum_nil, chance_nil h]; grind
  | k + 1 => by
    rw [rws, lsum_flatMap]
    rw [lsum_congr fun r _ => by rw [lsum_map, chance_signs h]]
    exact chance_rws h
/-! a chance lies between 0 and 1 -/
theorem sg_le {n : Nat} {f g : Nat → Rat} (h : ∀ i, i < n → f i ≤ g i) : sg n f ≤ sg n g := by
  induction n with
  | zero => exact Rat.le_refl
  | succ n ih =>
    have h1 := ih fun i hi => h i (by omega)
    have h2 := h n (by omega)
    show sg n f + f n ≤ sg n g + g n
    grind
theorem LnOk.wle {b n : Nat} {ws : List Int} (h : LnOk b n ws) {i : Nat} (hi : i < n) : wq ws i ≤ 1 := by
  have h1 := (h.at hi).2.1
  have hp : (0 : Rat) < ((ws.sum : Int) : Rat) := by have := h.pos; exact_mod_cast this
  have h2 : ((ws[i]! : Int) : Rat) ≤ ((ws.sum : Int) : Rat) := by exact_mod_cast h1
  unfold wq
  have h3 : ¬ (1 < ((ws[i]! : Int) : Rat) / ((ws.sum : Int) : Rat)) := fun z => by
    rw [Rat.lt_div_iff hp, Rat.one_mul] at z
    grind
  exact Rat.not_lt.mp h3
theorem ChOk.toldLe {b sb : Nat} {c : Ch} (h : ChOk b c sb) {i s : Nat} (hi : i < c.st.length) (hs : s = 46 ∨ s ∈ c.sgs) : c.told i s ≤ 1 := by
  unfold Ch.told
  split
  · exact Rat.le_refl
  · rename_i z
    exact (h.tlAt hi).wle (h.ix (hs.resolve_left z))
theorem ChOk.raNn {b sb : Nat} {c : Ch} (h : ChOk b c sb) (hb : 1 ≤ b) {v : List Nat} (hv : VwOk c v) : ∀ {k j : Nat}, k ≤ v.length → j < c.st.length → 0 ≤ c.ra v k j
  | 0, j, _, hj => h.st.wnn hj
  | k + 1, j, hk, hj => by
    have ht := (h.toldB hb hj (hv v[k]! (getB_mem (by omega)))).2
    simp only [Ch.ra]
    refine Rat.mul_nonneg ?_ ht
    split
    · exact h.st.wnn hj
    · exact sg_nn fun i hi => Rat.mul_nonneg (h.raNn hb hv (by omega) hi) ((h.spAt hi).wnn hj)
theorem ChOk.raLe {b sb : Nat} {c : Ch} (h : ChOk b c sb) (hb : 1 ≤ b) {v : List Nat} (hv : VwOk c v) : ∀ {k : Nat}, k ≤ v.length → sg c.st.length (c.ra v k) ≤ 1
  | 0, _ => by
    have : sg c.st.length (c.ra v 0) = 1 := h.st.one
    rw [this]; exact Rat.le_refl
  | k + 1, hk => by
    have e1 : sg c.st.length (c.ra v (k + 1)) ≤ sg c.st.length fun j => if k = 0 then wq c.st j else sg c.st.length fun i => c.ra v k i * wq c.sp[i]! j := by
      refine sg_le fun j hj => ?_
      have ht := h.toldLe hj (hv v[k]! (getB_mem (by omega)))
      have hn : 0 ≤ (if k = 0 then wq c.st j else sg c.st.length fun i => c.ra v k i * wq c.sp[i]! j) := by
        split
        · exact h.st.wnn hj
        · exact sg_nn fun i hi => Rat.mul_nonneg (h.raNn hb hv (by omega) hi) ((h.spAt hi).wnn hj)
      simp only [Ch.ra]
      have := Rat.mul_le_mul_of_nonneg_left ht hn
      rwa [Rat.mul_one] at this
    refine Rat.le_trans e1 ?_
    by_cases z : k = 0
    · rw [sg_congr fun j _ => if_pos z, h.st.one]; exact Rat.le_refl
    · rw [sg_congr fun j _ => if_neg z, sg_swap, sg_congr fun i hi => by rw [sg_mul, (h.spAt hi).one, Rat.mul_one]]
      exact h.raLe hb hv (by omega)
theorem ChOk.chance01 {b sb : Nat} {c : Ch} (h : ChOk b c sb) (hb : 1 ≤ b) {v : List Nat} (hv : VwOk c v) : 0 ≤ c.chance v ∧ c.chance v ≤ 1 :=
  ⟨sg_nn fun j hj => h.raNn hb hv (Nat.le_refl _) hj, h.raLe hb hv (Nat.le_refl _)⟩
theorem RB.unit {q : Rat} {U W : Int} {n : Nat} (h0 : 0 ≤ q) (h1 : q ≤ 1) (hU : U ≠ 0) (hb : Bd n U) (e : q * (U : Rat) = (W : Rat)) : RB n q := by
  have e2 : q = (W : Rat) / (U : Rat) := by
    have := cast_ne hU
    grind
  have hd : q.den < 2 ^ n := by
    rw [e2]
    exact Nat.lt_of_le_of_lt (divq hU).2 hb
  refine ⟨?_, hd⟩
  have h2 := (Rat.le_iff q 1).mp h1
  have h3 := Rat.num_nonneg.mpr h0
  have h4 : q.num ≤ (q.den : Int) := by simpa using h2
  omega
def isum {α : Type} (l : List α) (f : α → Int) : Int := (l.map f).foldr (· + ·) 0
theorem isum_cast {α : Type} {l : List α} {f : α → Int} : ((isum l f : Int) : Rat) = lsum l fun x => ((f x : Int) : Rat) := by
  induction l with
  | nil => rfl
  | cons a l ih =>
    show ((f a + isum l f : Int) : Rat) = _
    rw [Rat.intCast_add, ih, lsum_cons]
end Dl

namespace Dl
open PySem PySem.Spec PyProof.Rows L2
theorem if_both {c : Prop} [Decidable c] {A B : Prop} (h : c → A) (k : ¬c → B) : if c then A else B := by
  by_cases z : c
  · rw [if_pos z]; exact h z
  · rw [if_neg z]; exact k z
def cmpR (p q : Rat) : Int := if p = q then 0 else if p < q then -1 else 1
/-- two fractions -/
def fr2R (us : List R) (f : Rat → Rat → Prop) : Prop := ∃ p q : Rat, us = [.d (fD p), .d (fD q)] ∧ RB 3990 p ∧ RB 3990 q ∧ f p q
theorem q_mul (p q : Rat) : ((p.num * q.num : Int) : Rat) / (((p.den : Int) * (q.den : Int) : Int) : Rat) = p * q := by
  have h1 := num_den p
  have h2 := num_den q
  have := cast_ne (den_ne p)
  have := cast_ne (den_ne q)
  rw [Rat.intCast_mul, Rat.intCast_mul]
  grind
theorem q_add (p q : Rat) : ((p.num * (q.den : Int) + q.num * (p.den : Int) : Int) : Rat) / (((p.den : Int) * (q.den : Int) : Int) : Rat) = p + q := by
  have h1 := num_den p
  have h2 := num_den q
  have := cast_ne (den_ne p)
  have := cast_ne (den_ne q)
  rw [Rat.intCast_add, Rat.intCast_mul, Rat.intCast_mul, Rat.intCast_mul]
  grind
theorem q_div (p q : Rat) (h : q ≠ 0) : ((p.num * (q.den : Int) : Int) : Rat) / (((p.den : Int) * q.num : Int) : Rat) = p / q := by
  have h1 := num_den p
  have h2 := num_den q
  have := cast_ne (den_ne p)
  have := cast_ne (den_ne q)
  have : (q.num : Rat) ≠ 0 := fun z => h (by rw [h2, z]; grind)
  rw [Rat.intCast_mul, Rat.intCast_mul]
  grind
/-- the least common multiple -/
def lcmL (ns : List Int) : Int := ns.foldl (fun a n => ((Nat.lcm a.natAbs n.natAbs : Nat) : Int)) 1
theorem lcmL_snoc {ns : List Int} {n : Int} : lcmL (ns ++ [n]) = ((Nat.lcm (lcmL ns).natAbs n.natAbs : Nat) : Int) := by
  unfold lcmL
  rw [List.foldl_append]
  rfl
theorem lcmL_ok {b : Nat} : ∀ {ns : List Int}, (∀ n ∈ ns, 0 < n ∧ n < 2 ^ b) → 0 < lcmL ns ∧ (∀ n ∈ ns, n ∣ lcmL ns) ∧ (lcmL ns).natAbs ≤ 2 ^ (ns.length * b) := by
  intro ns
  have key : ∀ k, k ≤ ns.length → (∀ n ∈ ns, 0 < n ∧ n < 2 ^ b) → 0 < lcmL (ns.take k) ∧ (∀ n ∈ ns.take k, n ∣ lcmL (ns.take k)) ∧ (lcmL (ns.take k)).natAbs ≤ 2 ^ (k * b) := by
    intro k
    induction k with
    | zero => intro _ _; refine ⟨(by decide : (0 : Int) < 1), by simp, ?_⟩; show 1 ≤ _; exact Nat.one_le_two_pow
    | succ k ih =>
      intro hk h
      obtain ⟨h1, h2, h3⟩ := ih (by omega) h
      rw [List.take_succ_eq_append_getElem (by omega), lcmL_snoc]
      have hn := h ns[k] (List.getElem_mem _)
      generalize ns[k] = n at hn ⊢
      generalize lcmL (ns.take k) = L at *
      have hp : 0 < Nat.lcm L.natAbs n.natAbs := Nat.lcm_pos (by omega) (by omega)
      refine ⟨by omega, fun m hm => ?_, ?_⟩
      · rcases List.mem_append.mp hm with q | q
        · have := h2 m q
          exact Int.dvd_trans (Int.dvd_natAbs.mpr this) (Int.natCast_dvd_natCast.mpr (Nat.dvd_lcm_left ..))
        · rw [List.mem_singleton.mp q]
          exact Int.dvd_trans (Int.dvd_natAbs.mpr (Int.dvd_refl _)) (Int.natCast_dvd_natCast.mpr (Nat.dvd_lcm_right ..))
      · rw [Int.natAbs_natCast, Nat.add_one_mul, Nat.pow_add]
        have l1 : Nat.lcm L.natAbs n.natAbs ≤ L.natAbs * n.natAbs := Nat.le_of_dvd (Nat.mul_pos (by omega) (by omega)) (Nat.lcm_dvd_mul ..)
        have l2 : n.natAbs ≤ 2 ^ b := by
          have h5 : (n.natAbs : Int) < 2 ^ b := by omega
          have : n.natAbs < 2 ^ b := by exact_mod_cast h5
          omega
        exact Nat.le_trans l1 (Nat.mul_le_mul h3 l2)
  intro h
  have := key ns.length (Nat.le_refl _) h
  rwa [List.take_length] at this

end Dl

namespace Dl
open PySem PySem.Spec PyProof.Rows L2
/-! ### lines brought to one sum; wholes of views and courses -/
def LL (c : Ch) : Int := lcmL (c.sp.map List.sum)
def MM (c : Ch) : Int := lcmL (c.tl.map List.sum)
def undK (c : Ch) (v : List Nat) : Nat → Int
  | 0 => c.st.sum
  | k + 1 => undK c v k * (if k > 0 then LL c else 1) * (if v[k]! ≠ 46 then MM c else 1)
def und (c : Ch) (v : List Nat) : Int := if v = [] then 1 else undK c v v.length
theorem und_bd {b sb : Nat} {c : Ch} (hc : ChOk b c sb) {v : List Nat} : ∀ {k : Nat}, 0 < undK c v k ∧ Bd (sb + k * (12 * b + 2)) (undK c v k) := by
  have hs : ∀ {m : Nat} {ls : List (List Int)}, (∀ l ∈ ls, LnOk b m l) → ls.length ≤ 6 → 0 < lcmL (ls.map List.sum) ∧ Bd (6 * b + 1) (lcmL (ls.map List.sum)) := fun {m ls} hl hn => by
    obtain ⟨l1, l2, l3⟩ := lcmL_ok (b := b) (ns := ls.map List.sum) fun x hx => by
      obtain ⟨l, hm2, rfl⟩ := List.mem_map.mp hx
      exact ⟨(hl l hm2).pos, (hl l hm2).bd⟩
    rw [List.length_map] at l3
    exact ⟨l1, Nat.lt_of_le_of_lt l3 (Nat.pow_lt_pow_right (by decide) (by have := Nat.mul_le_mul_right b hn; omega))⟩
  obtain ⟨a1, a2⟩ := hs hc.sp (by rw [hc.spl]; exact hc.n6)
  obtain ⟨b1, b2⟩ := hs hc.tl (by rw [hc.tll]; exact hc.n6)
  intro k
  induction k with
  | zero => exact ⟨hc.st.pos, hc.st.sbd.mono (by omega)⟩
  | succ k ih =>
    have h1 : 0 < (if k > 0 then LL c else 1) ∧ Bd (6 * b + 1) (if k > 0 then LL c else 1) := by
      split
      · exact ⟨a1, a2⟩
      · exact ⟨by decide, Nat.one_lt_two_pow (by omega)⟩
    have h2 : 0 < (if v[k]! ≠ 46 then MM c else 1) ∧ Bd (6 * b + 1) (if v[k]! ≠ 46 then MM c else 1) := by
      split
      · exact ⟨b1, b2⟩
      · exact ⟨by decide, Nat.one_lt_two_pow (by omega)⟩
    refine ⟨Int.mul_pos (Int.mul_pos ih.1 h1.1) h2.1, ((ih.2.mul h1.2).mul h2.2).mono ?_⟩
    rw [Nat.add_one_mul k (12 * b + 2)]; omega
def toI (c : Ch) (i s : Nat) : Int := if s = 46 then 1 else (scl (MM c) c.tl)[i]![c.sgs.idxOf s]!
def cwK (c : Ch) (v r : List Nat) : Nat → Int
  | 0 => 1
  | k + 1 => cwK c v r k * (if k = 0 then c.st[r[0]!]! else (scl (LL c) c.sp)[r[k - 1]!]![r[k]!]!) * toI c r[k]! v[k]!
theorem LL_ok {b sb : Nat} {c : Ch} (hc : ChOk b c sb) : 0 < LL c ∧ (∀ l ∈ c.sp, l.sum ∣ LL c) ∧ Bd (6 * b + 1) (LL c) := by
  obtain ⟨l1, l2, l3⟩ := lcmL_ok (b := b) (ns := c.sp.map List.sum) fun x hx => by
    obtain ⟨l, hm2, rfl⟩ := List.mem_map.mp hx
    exact ⟨(hc.sp l hm2).pos, (hc.sp l hm2).bd⟩
  rw [List.length_map] at l3
  exact ⟨l1, fun l hl => l2 _ (List.mem_map_of_mem hl), Nat.lt_of_le_of_lt l3 (Nat.pow_lt_pow_right (by decide) (by have := Nat.mul_le_mul_right b (show c.sp.length ≤ 6 by rw [hc.spl]; exact hc.n6); omega))⟩
theorem MM_ok {b sb : Nat} {c : Ch} (hc : ChOk b c sb) : 0 < MM c ∧ (∀ l ∈ c.tl, l.sum ∣ MM c) ∧ Bd (6 * b + 1) (MM c) := by
  obtain ⟨l1, l2, l3⟩ := lcmL_ok (b := b) (ns := c.tl.map List.sum) fun x hx => by
    obtain ⟨l, hm2, rfl⟩ := List.mem_map.mp hx
    exact ⟨(hc.tl l hm2).pos, (hc.tl l hm2).bd⟩
  rw [List.length_map] at l3
  exact ⟨l1, fun l hl => l2 _ (List.mem_map_of_mem hl), Nat.lt_of_le_of_lt l3 (Nat.pow_lt_pow_right (by decide) (by have := Nat.mul_le_mul_right b (show c.tl.length ≤ 6 by rw [hc.tll]; exact hc.n6); omega))⟩
theorem sp_at {b sb : Nat} {c : Ch} (hc : ChOk b c sb) {i j : Nat} (hi : i < c.st.length) (hj : j < c.st.length) : (((scl (LL c) c.sp)[i]![j]! : Int) : Rat) = wq c.sp[i]! j * ((LL c : Int) : Rat) ∧ Bd (6 * b + 1) (scl (LL c) c.sp)[i]![j]! := by
  obtain ⟨l1, l2, l3⟩ := LL_ok hc
  obtain ⟨a1, a2, a3⟩ := scl_at l1 hc.sp l2 (i := i) (j := j) (by rw [hc.spl]; exact hi) hj
  exact ⟨a1, Bd.of a2 (Int.lt_of_le_of_lt a3 l3.lt)⟩
theorem tl_at {b sb : Nat} {c : Ch} (hc : ChOk b c sb) {i j : Nat} (hi : i < c.st.length) (hj : j < c.sgs.length) : (((scl (MM c) c.tl)[i]![j]! : Int) : Rat) = wq c.tl[i]! j * ((MM c : Int) : Rat) ∧ Bd (6 * b + 1) (scl (MM c) c.tl)[i]![j]! := by
  obtain ⟨l1, l2, l3⟩ := MM_ok hc
  obtain ⟨a1, a2, a3⟩ := scl_at l1 hc.tl l2 (i := i) (j := j) (by rw [hc.tll]; exact hi) hj
  exact ⟨a1, Bd.of a2 (Int.lt_of_le_of_lt a3 l3.lt)⟩
theorem toI_at {b sb : Nat} {c : Ch} (hc : ChOk b c sb) {i s : Nat} (hi : i < c.st.length) (hs : s = 46 ∨ s ∈ c.sgs) : ((toI c i s : Int) : Rat) = c.told i s * (((if s ≠ 46 then MM c else 1) : Int) : Rat) ∧ Bd (6 * b + 1) (toI c i s) := by
  unfold toI Ch.told
  by_cases z : s = 46
  · rw [if_pos z, if_pos z, if_neg (by omega)]
    exact ⟨by grind, Nat.one_lt_two_pow (by omega)⟩
  · rw [if_neg z, if_neg z, if_pos z]
    exact tl_at hc hi (hc.ix (hs.resolve_left z))
/-- a course's whole over what all are parts of is its chance -/
theorem cw_at {b : Nat} {c : Ch} (hc : ChOk b c) {v r : List Nat} (hr : CsOk c r) (hv : VwOk c v) (hl : r.length = v.length) : ∀ {k : Nat}, k ≤ r.length → ((cwK c v r k : Int) : Rat) * (if k = 0 then ((c.st.sum : Int) : Rat) else 1) = c.prk v r k * ((undK c v k : Int) : Rat) ∧ Bd (k * (12 * b + 2) + 1) (cwK c v r k)
  | 0, _ => ⟨by show (1 : Rat) * _ = 1 * _; rw [if_pos rfl]; rfl, by show (1 : Nat) < 2 ^ _; exact Nat.one_lt_two_pow (by omega)⟩
  | k + 1, hk => by
    obtain ⟨h1, h2⟩ := cw_at hc hr hv hl (k := k) (by omega)
    obtain ⟨t1, t2⟩ := toI_at hc (hr.at (k := k) (by omega)) (hv v[k]! (getB_mem (by omega)))
    have ne := cast_ne hc.st.ne
    by_cases z : k = 0
    · subst z
      rw [if_pos rfl] at h1
      have e1 : cwK c v r (0 + 1) = 1 * c.st[r[0]!]! * toI c r[0]! v[0]! := rfl
      have e2 : undK c v (0 + 1) = c.st.sum * 1 * (if v[0]! ≠ 46 then MM c else 1) := rfl
      have e3 : c.prk v r (0 + 1) = 1 * wq c.st r[0]! * c.told r[0]! v[0]! := rfl
      constructor
      · rw [if_neg (by omega), e1, e2, e3]
        simp only [Rat.intCast_mul]
        rw [t1]
        unfold wq
        have e0 : ((1 : Int) : Rat) = 1 := rfl
        rw [e0]
        grind
      · rw [e1]
        have b1 : Bd 1 1 := (by decide : (1 : Int).natAbs < 2 ^ 1)
        exact ((b1.mul (hc.st.at (hr.at (k := 0) (by omega))).2.2).mul t2).mono (by omega)
    · rw [if_neg z] at h1
      obtain ⟨s1, s2⟩ := sp_at hc (hr.at (k := k - 1) (by omega)) (hr.at (k := k) (by omega))
      constructor
      · rw [if_neg (by omega)]
        simp only [cwK, undK, Ch.prk, Ch.come]
        rw [if_neg z, if_neg z, if_pos (show k > 0 by omega)]
        simp only [Rat.intCast_mul]
        rw [t1, s1]
        grind
      · simp only [cwK]
        rw [if_neg z]
        exact ((h2.mul s2).mul t2).mono (by rw [Nat.add_one_mul k (12 * b + 2)]; omega)
theorem und_ok {b : Nat} {c : Ch} (hc : ChOk b c) {v : List Nat} : 0 < und c v ∧ Bd (b + v.length * (12 * b + 2) + 1) (und c v) := by
  unfold und
  split
  · exact ⟨by decide, Nat.one_lt_two_pow (by omega)⟩
  · exact ⟨(und_bd hc).1, (und_bd hc).2.mono (by omega)⟩
theorem cw_und {b : Nat} {c : Ch} (hc : ChOk b c) {v r : List Nat} (hr : CsOk c r) (hv : VwOk c v) (hl : r.length = v.length) : ((cwK c v r r.length : Int) : Rat) = c.prk v r r.length * ((und c v : Int) : Rat) := by
  by_cases z : v = []
  · subst z
    have z2 : r = [] := List.length_eq_zero_iff.mp hl
    subst z2
    show ((1 : Int) : Rat) = 1 * ((1 : Int) : Rat)
    rw [Rat.one_mul]
  · have h := (cw_at hc hr hv hl (k := r.length) (Nat.le_refl _)).1
    have hne : r.length ≠ 0 := fun y => z (List.length_eq_zero_iff.mp (by omega))
    rw [if_neg hne, Rat.mul_one, hl] at h
    unfold und
    rw [if_neg z, hl, h]
theorem LL_bdn {b sb : Nat} {c : Ch} (hc : ChOk b c sb) : (LL c).natAbs ≤ 2 ^ (c.st.length * b) ∧ (MM c).natAbs ≤ 2 ^ (c.st.length * b) := by
  have h : ∀ {m : Nat} {ls : List (List Int)}, (∀ l ∈ ls, LnOk b m l) → ls.length = c.st.length → (lcmL (ls.map List.sum)).natAbs ≤ 2 ^ (c.st.length * b) := fun {m ls} hl hn => by
    obtain ⟨l1, l2, l3⟩ := lcmL_ok (b := b) (ns := ls.map List.sum) fun x hx => by
      obtain ⟨l, hm2, rfl⟩ := List.mem_map.mp hx
      exact ⟨(hl l hm2).pos, (hl l hm2).bd⟩
    rwa [List.length_map, hn] at l3
  exact ⟨h hc.sp hc.spl, h hc.tl hc.tll⟩
theorem und_bdn {b sb : Nat} {c : Ch} (hc : ChOk b c sb) {v : List Nat} : ∀ {k : Nat}, Bd (sb + k * (2 * (c.st.length * b))) (undK c v k)
  | 0 => hc.st.sbd.mono (by omega)
  | k + 1 => by
    obtain ⟨l1, l2⟩ := LL_bdn hc
    have ih := und_bdn hc (v := v) (k := k)
    have one : ∀ m : Nat, (1 : Int).natAbs ≤ 2 ^ m := fun m => Nat.one_le_two_pow
    have h1 : (if k > 0 then LL c else 1).natAbs ≤ 2 ^ (c.st.length * b) := by split; exact l1; exact one _
    have h2 : (if v[k]! ≠ 46 then MM c else 1).natAbs ≤ 2 ^ (c.st.length * b) := by split; exact l2; exact one _
    show (undK c v k * _ * _).natAbs < 2 ^ _
    rw [Int.natAbs_mul, Int.natAbs_mul, Nat.add_one_mul k (2 * (c.st.length * b)), show sb + (k * (2 * (c.st.length * b)) + 2 * (c.st.length * b)) = (sb + k * (2 * (c.st.length * b))) + c.st.length * b + c.st.length * b by omega, Nat.pow_add, Nat.pow_add]
    exact Nat.mul_lt_mul_of_lt_of_le (Nat.mul_lt_mul_of_lt_of_le ih h1 (Nat.two_pow_pos _)) h2 (Nat.two_pow_pos _)
theorem chance_rb {b : Nat} {c : Ch} (hc : ChOk b c) (hb : 1 ≤ b) {v : List Nat} (hv : VwOk c v) : RB (b + v.length * (2 * (c.st.length * b)) + 1) (c.chance v) := by
  obtain ⟨h0, h1⟩ := hc.chance01 hb hv
  have hu := und_ok hc (v := v)
  have hub : Bd (b + v.length * (2 * (c.st.length * b)) + 1) (und c v) := by
    unfold und
    split
    · exact Nat.one_lt_two_pow (by omega)
    · exact (und_bdn hc).mono (by omega)
  refine RB.unit (W := isum (crs c.st.length v.length) fun r => cwK c v r r.length) h0 h1 (by omega) hub ?_
  rw [isum_cast, ← chance_crs hc, ← lsum_mulr]
  refine lsum_congr fun r hr => ?_
  obtain ⟨r1, r2⟩ := crs_ok hr
  rw [cw_und hc r2 hv r1, r1]
def csD (r : List Nat) : PyData := .tuple (r.map fun (n : Nat) => .int (n : Int))

end Dl

namespace Dl
open PySem PySem.Spec PyProof.Rows L2
/-! ### tables ahead and behind -/
def bt (c : Ch) : Int := LL c * MM c
def toM (c : Ch) (i s : Nat) : Int := if s = 46 then MM c else (scl (MM c) c.tl)[i]![c.sgs.idxOf s]!
def uM (c : Ch) (s : Nat) : Int := if s ≠ 46 then MM c else 1
/-- what the weight of k signs is divided by, in the law -/
def blw (c : Ch) : Nat → Int
  | 0 => 1
  | k + 1 => c.st.sum * MM c * bt c ^ k
def raI (c : Ch) (v : List Nat) : Nat → Nat → Int
  | 0, j => c.st[j]!
  | k + 1, j => (if k = 0 then c.st[j]! else sgi c.st.length fun i => raI c v k i * (scl (LL c) c.sp)[i]![j]!) * toI c j v[k]!
def laI (c : Ch) (v : List Nat) : Nat → Nat → Int
  | 0, j => c.st[j]!
  | k + 1, j => (if k = 0 then c.st[j]! else sgi c.st.length fun i => laI c v k i * (scl (LL c) c.sp)[i]![j]!) * toM c j v[k]!
/-- by what the last m signs' wholes are to be divided, in the program -/
def obW (c : Ch) (v : List Nat) : Nat → Int
  | 0 => 1
  | m + 1 => obW c v m * uM c v[v.length - 1 - m]! * LL c
def bRI (c : Ch) (v : List Nat) : Nat → Nat → Int
  | 0, _ => 1
  | m + 1, i => sgi c.st.length fun j => (bRI c v m j * toI c j v[v.length - 1 - m]!) * (scl (LL c) c.sp)[i]![j]!
def lbI (c : Ch) (v : List Nat) : Nat → Nat → Int
  | 0, _ => 1
  | m + 1, i => sgi c.st.length fun j => (scl (LL c) c.sp)[i]![j]! * (lbI c v m j * toM c j v[v.length - 1 - m]!)
section
variable {b sb : Nat} {c : Ch} {v : List Nat}
theorem uM_ok (hc : ChOk b c sb) (s : Nat) : 0 < uM c s ∧ Bd (6 * b + 1) (uM c s) := by
  obtain ⟨l1, l2, l3⟩ := MM_ok hc
  unfold uM
  split
  · exact ⟨l1, l3⟩
  · exact ⟨by decide, Nat.one_lt_two_pow (by omega)⟩
theorem toM_at (hc : ChOk b c sb) {i s : Nat} (hi : i < c.st.length) (hs : s = 46 ∨ s ∈ c.sgs) : ((toM c i s : Int) : Rat) = c.told i s * ((MM c : Int) : Rat) ∧ Bd (6 * b + 1) (toM c i s) := by
  unfold toM Ch.told
  by_cases z : s = 46
  · rw [if_pos z, if_pos z, Rat.one_mul]
    exact ⟨rfl, (MM_ok hc).2.2⟩
  · rw [if_neg z, if_neg z]
    exact tl_at hc hi (hc.ix (hs.resolve_left z))
theorem und_succ {k : Nat} : undK c v (k + 1) = undK c v k * (if k > 0 then LL c else 1) * uM c v[k]! := rfl
theorem raI_at (hc : ChOk b c sb) (hv : VwOk c v) : ∀ {k j : Nat}, k + 1 ≤ v.length → j < c.st.length → ((raI c v (k + 1) j : Int) : Rat) = c.ra v (k + 1) j * ((undK c v (k + 1) : Int) : Rat) ∧ Bd (sb + (k + 1) * (12 * b + 8)) (raI c v (k + 1) j)
  | 0, j, hk, hj => by
    obtain ⟨t1, t2⟩ := toI_at hc hj (hv v[0]! (getB_mem (by omega)))
    have e1 : raI c v (0 + 1) j = c.st[j]! * toI c j v[0]! := rfl
    have e2 : c.ra v (0 + 1) j = wq c.st j * c.told j v[0]! := rfl
    have e3 : undK c v (0 + 1) = c.st.sum * 1 * (if v[0]! ≠ 46 then MM c else 1) := rfl
    rw [e1, e2, e3]
    refine ⟨?_, ((hc.st.at hj).2.2.mul t2).mono (by omega)⟩
    simp only [Rat.intCast_mul]
    rw [t1]
    unfold wq
    have := cast_ne hc.st.ne
    have e0 : ((1 : Int) : Rat) = 1 := rfl
    rw [e0]
    grind
  | k + 1, j, hk, hj => by
    obtain ⟨t1, t2⟩ := toI_at hc hj (hv v[k + 1]! (getB_mem (by omega)))
    have e1 : raI c v (k + 1 + 1) j = (sgi c.st.length fun i => raI c v (k + 1) i * (scl (LL c) c.sp)[i]![j]!) * toI c j v[k + 1]! := by
      show (if k + 1 = 0 then _ else _) * _ = _
      rw [if_neg (by omega)]
    have e2 : c.ra v (k + 1 + 1) j = (sg c.st.length fun i => c.ra v (k + 1) i * wq c.sp[i]! j) * c.told j v[k + 1]! := by
      show (if k + 1 = 0 then _ else _) * _ = _
      rw [if_neg (by omega)]
    have e3 : undK c v (k + 1 + 1) = undK c v (k + 1) * LL c * (if v[k + 1]! ≠ 46 then MM c else 1) := by
      show _ * (if k + 1 > 0 then LL c else 1) * _ = _
      rw [if_pos (by omega)]
    have hs : ((sgi c.st.length fun i => raI c v (k + 1) i * (scl (LL c) c.sp)[i]![j]!) : Int) = ((sgi c.st.length fun i => raI c v (k + 1) i * (scl (LL c) c.sp)[i]![j]!) : Int) := rfl
    rw [e1, e2, e3]
    constructor
    · rw [Rat.intCast_mul, t1, sgi_cast, sg_congr (g := fun i => c.ra v (k + 1) i * wq c.sp[i]! j * (((undK c v (k + 1) : Int) : Rat) * ((LL c : Int) : Rat))) fun i hi => ?_, sg_mulr]
      · simp only [Rat.intCast_mul]
        grind
      · rw [Rat.intCast_mul, (raI_at hc hv (k := k) (by omega) hi).1, (sp_at hc hi hj).1]
        grind
    · have := (sgi_bd (N := sb + (k + 1) * (12 * b + 8) + (6 * b + 1)) (n := c.st.length) (f := fun i => raI c v (k + 1) i * (scl (LL c) c.sp)[i]![j]!) fun i hi => (raI_at hc hv (k := k) (by omega) hi).2.mul (sp_at hc hi hj).2).mul t2
      have h6 := hc.n6
      exact this.mono (by rw [Nat.add_one_mul (k + 1) (12 * b + 8)]; omega)
theorem laI_at (hc : ChOk b c sb) (hv : VwOk c v) : ∀ {k j : Nat}, k + 1 ≤ v.length → j < c.st.length → ((laI c v (k + 1) j : Int) : Rat) = c.ra v (k + 1) j * ((blw c (k + 1) : Int) : Rat) ∧ Bd (sb + (k + 1) * (12 * b + 8)) (laI c v (k + 1) j)
  | 0, j, hk, hj => by
    obtain ⟨t1, t2⟩ := toM_at hc hj (hv v[0]! (getB_mem (by omega)))
    have e1 : laI c v (0 + 1) j = c.st[j]! * toM c j v[0]! := rfl
    have e2 : c.ra v (0 + 1) j = wq c.st j * c.told j v[0]! := rfl
    have e3 : blw c (0 + 1) = c.st.sum * MM c * 1 := by
      show _ * _ * bt c ^ 0 = _
      rw [Int.pow_zero]
    rw [e1, e2, e3]
    refine ⟨?_, ((hc.st.at hj).2.2.mul t2).mono (by omega)⟩
    simp only [Rat.intCast_mul]
    rw [t1]
    unfold wq
    have := cast_ne hc.st.ne
    have e0 : ((1 : Int) : Rat) = 1 := rfl
    rw [e0]
    grind
  | k + 1, j, hk, hj => by
    obtain ⟨t1, t2⟩ := toM_at hc hj (hv v[k + 1]! (getB_mem (by omega)))
    have e1 : laI c v (k + 1 + 1) j = (sgi c.st.length fun i => laI c v (k + 1) i * (scl (LL c) c.sp)[i]![j]!) * toM c j v[k + 1]! := by
      show (if k + 1 = 0 then _ else _) * _ = _
      rw [if_neg (by omega)]
    have e2 : c.ra v (k + 1 + 1) j = (sg c.st.length fun i => c.ra v (k + 1) i * wq c.sp[i]! j) * c.told j v[k + 1]! := by
      show (if k + 1 = 0 then _ else _) * _ = _
      rw [if_neg (by omega)]
    have e3 : blw c (k + 1 + 1) = blw c (k + 1) * (LL c * MM c) := by
      show _ * _ * bt c ^ (k + 1) = _ * _ * bt c ^ k * _
      rw [Int.pow_succ, ← Int.mul_assoc]; rfl
    rw [e1, e2, e3]
    constructor
    · rw [Rat.intCast_mul, t1, sgi_cast, sg_congr (g := fun i => c.ra v (k + 1) i * wq c.sp[i]! j * (((blw c (k + 1) : Int) : Rat) * ((LL c : Int) : Rat))) fun i hi => ?_, sg_mulr]
      · simp only [Rat.intCast_mul]
        grind
      · rw [Rat.intCast_mul, (laI_at hc hv (k := k) (by omega) hi).1, (sp_at hc hi hj).1]
        grind
    · have := (sgi_bd (N := sb + (k + 1) * (12 * b + 8) + (6 * b + 1)) (n := c.st.length) (f := fun i => laI c v (k + 1) i * (scl (LL c) c.sp)[i]![j]!) fun i hi => (laI_at hc hv (k := k) (by omega) hi).2.mul (sp_at hc hi hj).2).mul t2
      have h6 := hc.n6
      exact this.mono (by rw [Nat.add_one_mul (k + 1) (12 * b + 8)]; omega)
theorem bRI_at (hc : ChOk b c sb) (hv : VwOk c v) : ∀ {m i : Nat}, m + 1 ≤ v.length → i < c.st.length → ((bRI c v m i : Int) : Rat) = c.bR v m i * ((obW c v m : Int) : Rat) ∧ Bd (m * (12 * b + 8) + 1) (bRI c v m i)
  | 0, i, _, _ => ⟨by show ((1 : Int) : Rat) = 1 * ((1 : Int) : Rat); rw [Rat.one_mul], Nat.one_lt_two_pow (by omega)⟩
  | m + 1, i, hm, hi => by
    have hs := hv v[v.length - 1 - m]! (getB_mem (by omega))
    have e1 : bRI c v (m + 1) i = sgi c.st.length fun j => (bRI c v m j * toI c j v[v.length - 1 - m]!) * (scl (LL c) c.sp)[i]![j]! := rfl
    have e2 : c.bR v (m + 1) i = sg c.st.length fun j => wq c.sp[i]! j * (c.told j v[v.length - 1 - m]! * c.bR v m j) := rfl
    have e3 : obW c v (m + 1) = obW c v m * (if v[v.length - 1 - m]! ≠ 46 then MM c else 1) * LL c := rfl
    rw [e1, e2, e3]
    constructor
    · rw [sgi_cast, ← sg_mulr]
      refine sg_congr fun j hj => ?_
      rw [Rat.intCast_mul, Rat.intCast_mul, (bRI_at hc hv (m := m) (by omega) hj).1, (toI_at hc hj hs).1, (sp_at hc hi hj).1]
      simp only [Rat.intCast_mul]
      grind
    · have h6 := hc.n6
      exact (sgi_bd (N := m * (12 * b + 8) + 1 + (6 * b + 1) + (6 * b + 1)) fun j hj => (((bRI_at hc hv (m := m) (by omega) hj).2.mul (toI_at hc hj hs).2).mul (sp_at hc hi hj).2)).mono (by rw [Nat.add_one_mul m (12 * b + 8)]; omega)
theorem lbI_at (hc : ChOk b c sb) (hv : VwOk c v) : ∀ {m i : Nat}, m + 1 ≤ v.length → i < c.st.length → ((lbI c v m i : Int) : Rat) = c.bR v m i * ((bt c ^ m : Int) : Rat) ∧ Bd (m * (12 * b + 8) + 1) (lbI c v m i)
  | 0, i, _, _ => ⟨by rw [Int.pow_zero]; show ((1 : Int) : Rat) = 1 * ((1 : Int) : Rat); rw [Rat.one_mul], Nat.one_lt_two_pow (by omega)⟩
  | m + 1, i, hm, hi => by
    have hs := hv v[v.length - 1 - m]! (getB_mem (by omega))
    have e1 : lbI c v (m + 1) i = sgi c.st.length fun j => (scl (LL c) c.sp)[i]![j]! * (lbI c v m j * toM c j v[v.length - 1 - m]!) := rfl
    have e2 : c.bR v (m + 1) i = sg c.st.length fun j => wq c.sp[i]! j * (c.told j v[v.length - 1 - m]! * c.bR v m j) := rfl
    have e3 : bt c ^ (m + 1) = bt c ^ m * (LL c * MM c) := Int.pow_succ ..
    rw [e1, e2, e3]
    constructor
    · rw [sgi_cast, ← sg_mulr]
      refine sg_congr fun j hj => ?_
      rw [Rat.intCast_mul, Rat.intCast_mul, (lbI_at hc hv (m := m) (by omega) hj).1, (toM_at hc hj hs).1, (sp_at hc hi hj).1]
      simp only [Rat.intCast_mul]
      grind
    · have h6 := hc.n6
      exact (sgi_bd (N := 6 * b + 1 + (m * (12 * b + 8) + 1 + (6 * b + 1))) fun j hj => ((sp_at hc hi hj).2.mul ((lbI_at hc hv (m := m) (by omega) hj).2.mul (toM_at hc hj hs).2))).mono (by rw [Nat.add_one_mul m (12 * b + 8)]; omega)
theorem bt_pos (hc : ChOk b c sb) : 0 < bt c := Int.mul_pos (LL_ok hc).1 (MM_ok hc).1
theorem blw_pos (hc : ChOk b c sb) : ∀ {k : Nat}, 0 < blw c k
  | 0 => by show (0 : Int) < 1; decide
  | k + 1 => Int.mul_pos (Int.mul_pos hc.st.pos (MM_ok hc).1) (Int.pow_pos (bt_pos hc))
theorem obW_pos (hc : ChOk b c sb) : ∀ {m : Nat}, 0 < obW c v m
  | 0 => by show (0 : Int) < 1; decide
  | m + 1 => Int.mul_pos (Int.mul_pos (obW_pos hc) (uM_ok hc _).1) (LL_ok hc).1
theorem bt_bd (hc : ChOk b c sb) : ∀ {k : Nat}, Bd (k * (12 * b + 2) + 1) (bt c ^ k)
  | 0 => by rw [Int.pow_zero]; exact Nat.one_lt_two_pow (by omega)
  | k + 1 => by
    rw [Int.pow_succ]
    exact ((bt_bd hc (k := k)).mul ((LL_ok hc).2.2.mul (MM_ok hc).2.2)).mono (by rw [Nat.add_one_mul k (12 * b + 2)]; omega)
theorem blw_bd (hc : ChOk b c sb) : ∀ {k : Nat}, Bd (sb + k * (12 * b + 2) + 1) (blw c k)
  | 0 => Nat.one_lt_two_pow (by omega)
  | k + 1 => ((hc.st.sbd.mul (MM_ok hc).2.2).mul (bt_bd hc (k := k))).mono (by rw [Nat.add_one_mul k (12 * b + 2)]; omega)
theorem obW_bd (hc : ChOk b c sb) : ∀ {m : Nat}, Bd (m * (12 * b + 2) + 1) (obW c v m)
  | 0 => Nat.one_lt_two_pow (by omega)
  | m + 1 => (((obW_bd hc (m := m)).mul (uM_ok hc _).2).mul (LL_ok hc).2.2).mono (by rw [Nat.add_one_mul m (12 * b + 2)]; omega)
/-! how great shares are -/
theorem obW_bdn (hc : ChOk b c sb) : ∀ {m : Nat}, (obW c v m).natAbs ≤ 2 ^ (m * (2 * (c.st.length * b)))
  | 0 => by show 1 ≤ _; exact Nat.one_le_two_pow
  | m + 1 => by
    obtain ⟨l1, l2⟩ := LL_bdn hc
    have ih := obW_bdn hc (m := m)
    have h2 : (uM c v[v.length - 1 - m]!).natAbs ≤ 2 ^ (c.st.length * b) := by unfold uM; split; exact l2; exact Nat.one_le_two_pow
    show (obW c v m * _ * _).natAbs ≤ 2 ^ _
    rw [Int.natAbs_mul, Int.natAbs_mul, Nat.add_one_mul m (2 * (c.st.length * b)), show m * (2 * (c.st.length * b)) + 2 * (c.st.length * b) = m * (2 * (c.st.length * b)) + c.st.length * b + c.st.length * b by omega, Nat.pow_add, Nat.pow_add]
    exact Nat.mul_le_mul (Nat.mul_le_mul ih h2) l1
theorem sg_part {n : Nat} {f : Nat → Rat} (h : ∀ i, i < n → 0 ≤ f i) : ∀ {j : Nat}, j < n → f j ≤ sg n f := by
  induction n with
  | zero => intro j hj; omega
  | succ n ih =>
    intro j hj
    have h0 := sg_nn fun i hi => h i (Nat.lt_succ_of_lt hi)
    have h1 := h n (Nat.lt_succ_self n)
    by_cases z : j = n
    · subst z; simp only [sg]; grind
    · have := ih (fun i hi => h i (Nat.lt_succ_of_lt hi)) (j := j) (by omega)
      simp only [sg]; grind
theorem ra_rb (hc : ChOk b c sb) (hb : 1 ≤ b) (hv : VwOk c v) {k j : Nat} (hk : k + 1 ≤ v.length) (hj : j < c.st.length) : RB (sb + (k + 1) * (2 * (c.st.length * b))) (c.ra v (k + 1) j) := by
  have h0 := hc.raNn hb hv (k := k + 1) (j := j) hk hj
  have h1 := Rat.le_trans (sg_part (fun i hi => hc.raNn hb hv (k := k + 1) (j := i) hk hi) hj) (hc.raLe hb hv (k := k + 1) hk)
  have hu := (und_bd hc (v := v) (k := k + 1)).1
  exact RB.unit (W := raI c v (k + 1) j) h0 h1 (by omega) (und_bdn hc) (raI_at hc hv hk hj).1.symm
theorem bR01 (hc : ChOk b c sb) (hb : 1 ≤ b) (hv : VwOk c v) : ∀ {m i : Nat}, m + 1 ≤ v.length → i < c.st.length → 0 ≤ c.bR v m i ∧ c.bR v m i ≤ 1
  | 0, _, _, _ => ⟨by show (0 : Rat) ≤ 1; decide, Rat.le_refl⟩
  | m + 1, i, hm, hi => by
    have hs := hv v[v.length - 1 - m]! (getB_mem (by omega))
    have ih := fun j hj => bR01 hc hb hv (m := m) (i := j) (by omega) hj
    have e2 : c.bR v (m + 1) i = sg c.st.length fun j => wq c.sp[i]! j * (c.told j v[v.length - 1 - m]! * c.bR v m j) := rfl
    rw [e2]
    refine ⟨sg_nn fun j hj => Rat.mul_nonneg ((hc.spAt hi).wnn hj) (Rat.mul_nonneg (hc.toldB hb hj hs).2 (ih j hj).1), ?_⟩
    refine Rat.le_trans (sg_le (g := fun j => wq c.sp[i]! j) fun j hj => ?_) (by rw [(hc.spAt hi).one]; exact Rat.le_refl)
    have a := Rat.mul_le_mul_of_nonneg_left (ih j hj).2 (hc.toldB hb hj hs).2
    rw [Rat.mul_one] at a
    have d := Rat.mul_le_mul_of_nonneg_left (Rat.le_trans a (hc.toldLe hj hs)) ((hc.spAt hi).wnn hj)
    rwa [Rat.mul_one] at d
theorem bR_rb (hc : ChOk b c sb) (hb : 1 ≤ b) (hv : VwOk c v) {m i : Nat} (hm : m + 1 ≤ v.length) (hi : i < c.st.length) : RB (m * (2 * (c.st.length * b)) + 1) (c.bR v m i) := by
  obtain ⟨h0, h1⟩ := bR01 hc hb hv hm hi
  have hu := obW_pos hc (v := v) (m := m)
  exact RB.unit (W := bRI c v m i) h0 h1 (by omega) (Nat.lt_of_le_of_lt (obW_bdn hc) (Nat.pow_lt_pow_right (by decide) (by omega))) (bRI_at hc hv hm hi).1.symm
/-! the same for lines multiplied -/
theorem Mult.ra {c' : Ch} (h : Mult c c') (k : ChOk b c sb) (hv : VwOk c v) : ∀ {m j : Nat}, m + 1 ≤ v.length → j < c.st.length → c'.ra v (m + 1) j = c.ra v (m + 1) j
  | 0, j, hm, hj => by
    have e1 : c'.ra v (0 + 1) j = wq c'.st j * c'.told j v[0]! := rfl
    have e2 : c.ra v (0 + 1) j = wq c.st j * c.told j v[0]! := rfl
    rw [e1, e2, h.told k hj (hv v[0]! (getB_mem (by omega))), h.st.wq k.st hj]
  | m + 1, j, hm, hj => by
    have e : ∀ d : Ch, d.ra v (m + 1 + 1) j = (Dl.sg d.st.length fun i => d.ra v (m + 1) i * wq d.sp[i]! j) * d.told j v[m + 1]! := fun d => by
      show (if m + 1 = 0 then _ else _) * _ = _
      rw [if_neg (by omega)]
    rw [e, e, h.told k hj (hv v[m + 1]! (getB_mem (by omega))), h.stl, sg_congr fun i hi => by rw [h.ra k hv (m := m) (by omega) hi, h.step k hi hj]]
theorem Mult.bR {c' : Ch} (h : Mult c c') (k : ChOk b c sb) (hv : VwOk c v) : ∀ {m i : Nat}, m + 1 ≤ v.length → i < c.st.length → c'.bR v m i = c.bR v m i
  | 0, _, _, _ => rfl
  | m + 1, i, hm, hi => by
    have e : ∀ d : Ch, d.bR v (m + 1) i = Dl.sg d.st.length fun j => wq d.sp[i]! j * (d.told j v[v.length - 1 - m]! * d.bR v m j) := fun d => rfl
    rw [e, e, h.stl]
    refine sg_congr fun j hj => ?_
    rw [h.step k hi hj, h.told k hj (hv _ (getB_mem (by omega))), h.bR k hv (m := m) (by omega) hj]
/-! by all courses -/
def wtI (c : Ch) (v r : List Nat) : Nat → Int
  | 0 => 1
  | k + 1 => wtI c v r k * (if k = 0 then c.st[r[0]!]! else (scl (LL c) c.sp)[r[k - 1]!]![r[k]!]!) * toM c r[k]! v[k]!
theorem wtI_at (hc : ChOk b c) {r : List Nat} (hr : CsOk c r) (hv : VwOk c v) (hl : r.length ≤ v.length) : ∀ {k : Nat}, k ≤ r.length → ((wtI c v r k : Int) : Rat) = c.prk v r k * ((blw c k : Int) : Rat) ∧ Bd (b + k * (12 * b + 2) + 1) (wtI c v r k)
  | 0, _ => ⟨by show ((1 : Int) : Rat) = 1 * ((1 : Int) : Rat); rw [Rat.one_mul], Nat.one_lt_two_pow (by omega)⟩
  | k + 1, hk => by
    obtain ⟨h1, h2⟩ := wtI_at hc hr hv hl (k := k) (by omega)
    obtain ⟨t1, t2⟩ := toM_at hc (hr.at (k := k) (by omega)) (hv v[k]! (getB_mem (by omega)))
    by_cases z : k = 0
    · subst z
      have e1 : wtI c v r (0 + 1) = 1 * c.st[r[0]!]! * toM c r[0]! v[0]! := rfl
      have e2 : blw c (0 + 1) = c.st.sum * MM c * 1 := by
        show _ * _ * bt c ^ 0 = _
        rw [Int.pow_zero]
      have e3 : c.prk v r (0 + 1) = 1 * wq c.st r[0]! * c.told r[0]! v[0]! := rfl
      have ne := cast_ne hc.st.ne
      rw [e1, e2, e3]
      constructor
      · simp only [Rat.intCast_mul]
        rw [t1]
        unfold wq
        have e0 : ((1 : Int) : Rat) = 1 := rfl
        rw [e0]
        grind
      · have b1 : Bd 1 1 := (by decide : (1 : Int).natAbs < 2 ^ 1)
        exact ((b1.mul (hc.st.at (hr.at (k := 0) (by omega))).2.2).mul t2).mono (by omega)
    · obtain ⟨s1, s2⟩ := sp_at hc (hr.at (k := k - 1) (by omega)) (hr.at (k := k) (by omega))
      obtain ⟨m, rfl⟩ : ∃ m, k = m + 1 := ⟨k - 1, by omega⟩
      have e3 : blw c (m + 1 + 1) = blw c (m + 1) * (LL c * MM c) := by
        show _ * _ * bt c ^ (m + 1) = _ * _ * bt c ^ m * _
        rw [Int.pow_succ, ← Int.mul_assoc]; rfl
      rw [e3]
      simp only [wtI] at h1 h2 ⊢
      simp only [Ch.prk, Ch.come] at h1 ⊢
      rw [if_neg (show ¬ m + 1 = 0 by omega), if_neg (show ¬ m + 1 = 0 by omega)]
      constructor
      · simp only [Rat.intCast_mul] at h1 ⊢
        rw [t1, s1]
        grind
      · exact ((h2.mul s2).mul t2).mono (by rw [Nat.add_one_mul (m + 1) (12 * b + 2)]; omega)
theorem sg_ind {n j : Nat} {f : Nat → Rat} (hj : j < n) : sg n (fun i => f i * (if i = j then 1 else 0)) = f j := by
  have z : ∀ m, m ≤ j → sg m (fun i => f i * (if i = j then 1 else 0)) = 0 := fun m hm => by
    rw [sg_congr (g := fun _ => (0 : Rat)) fun i hi => by rw [if_neg (by omega), Rat.mul_zero]]
    exact sg_zero
  have : ∀ m, j < m → sg m (fun i => f i * (if i = j then 1 else 0)) = f j := by
    intro m
    induction m with
    | zero => intro h; omega
    | succ m ih =>
      intro h
      simp only [sg]
      by_cases q : m = j
      · subst q; rw [z m (Nat.le_refl _), if_pos rfl]; grind
      · rw [ih (by omega), if_neg q]; grind
  exact this n hj
/-- the weights of all courses up to place k that end at j -/
theorem ahead_all (hc : ChOk b c) (hv : VwOk c v) {k j : Nat} (hk : k + 1 ≤ v.length) (hj : j < c.st.length) :
    ((isum (crs c.st.length (k + 1)) (fun r => if r[k]! = j then wtI c v r (k + 1) else 0) : Int) : Rat) = c.ra v (k + 1) j * ((blw c (k + 1) : Int) : Rat) := by
  rw [isum_cast, ← sg_ind (f := fun i => c.ra v (k + 1) i) hj, ← ra_crs (g := fun i => if i = j then 1 else 0), ← lsum_mulr]
  refine lsum_congr fun r hr => ?_
  obtain ⟨r1, r2⟩ := crs_ok hr
  by_cases z : r[k]! = j
  · rw [if_pos z, if_pos z, (wtI_at hc r2 hv (by omega) (k := k + 1) (by omega)).1, Rat.mul_one]
  · rw [if_neg z, if_neg z]
    have e0 : ((0 : Int) : Rat) = 0 := rfl
    rw [e0]; grind
/-- a way on from i at place p -/
def owI (c : Ch) (v : List Nat) : Nat → Nat → List Nat → Int
  | _, _, [] => 1
  | p, i, s :: r => (scl (LL c) c.sp)[i]![s]! * toM c s v[p + 1]! * owI c v (p + 1) s r
theorem owI_snoc {s : Nat} : ∀ {r : List Nat} {p i : Nat}, owI c v p i (r ++ [s]) = owI c v p i r * (scl (LL c) c.sp)[r.getLastD i]![s]! * toM c s v[p + 1 + r.length]!
  | [], p, i => by simp [owI]
  | t :: r, p, i => by
    have ih := owI_snoc (s := s) (r := r) (p := p + 1) (i := t)
    show _ * _ * owI c v (p + 1) t (r ++ [s]) = _
    rw [ih]
    have e1 : (t :: r).getLastD i = r.getLastD t := by cases r <;> rfl
    have e2 : p + 1 + (t :: r).length = p + 1 + 1 + r.length := by simp; omega
    rw [e1, e2]
    show _ = (_ * _ * owI c v (p + 1) t r) * _ * _
    simp only [Int.mul_assoc]
def owQ (c : Ch) (v : List Nat) : Nat → Nat → List Nat → Rat
  | _, _, [] => 1
  | p, i, s :: r => wq c.sp[i]! s * (c.told s v[p + 1]! * owQ c v (p + 1) s r)
theorem owI_at (hc : ChOk b c) (hv : VwOk c v) : ∀ {r : List Nat} {p i : Nat}, CsOk c r → i < c.st.length → p + r.length < v.length → ((owI c v p i r : Int) : Rat) = owQ c v p i r * ((bt c ^ r.length : Int) : Rat) ∧ Bd (r.length * (12 * b + 2) + 1) (owI c v p i r)
  | [], p, i, _, _, _ => ⟨by show ((1 : Int) : Rat) = 1 * ((bt c ^ 0 : Int) : Rat); rw [Int.pow_zero, Rat.one_mul], Nat.one_lt_two_pow (by omega)⟩
  | s :: r, p, i, hr, hi, hl => by
    have hs : s < c.st.length := hr s List.mem_cons_self
    rw [List.length_cons] at hl
    obtain ⟨h1, h2⟩ := owI_at hc hv (r := r) (p := p + 1) (i := s) (fun t ht => hr t (List.mem_cons_of_mem _ ht)) hs (by omega)
    obtain ⟨t1, t2⟩ := toM_at hc hs (hv v[p + 1]! (getB_mem (by omega)))
    obtain ⟨s1, s2⟩ := sp_at hc hi hs
    have e1 : owI c v p i (s :: r) = (scl (LL c) c.sp)[i]![s]! * toM c s v[p + 1]! * owI c v (p + 1) s r := rfl
    have e2 : owQ c v p i (s :: r) = wq c.sp[i]! s * (c.told s v[p + 1]! * owQ c v (p + 1) s r) := rfl
    rw [e1, e2, List.length_cons, Int.pow_succ]
    constructor
    · simp only [Rat.intCast_mul]
      rw [h1, t1, s1]
      have e3 : ((bt c : Int) : Rat) = ((LL c : Int) : Rat) * ((MM c : Int) : Rat) := Rat.intCast_mul ..
      rw [e3]
      grind
    · exact ((s2.mul t2).mul h2).mono (by rw [Nat.add_one_mul r.length (12 * b + 2)]; omega)
theorem crs_front {n : Nat} : ∀ {m : Nat} {f : List Nat → Rat}, lsum (crs n (m + 1)) f = sg n fun s => lsum (crs n m) fun r => f (s :: r)
  | 0, f => by
    show lsum ((([[]] : List (List Nat))).flatMap fun r => (List.range n).map fun s => r ++ [s]) f = _
    rw [lsum_flatMap, lsum_cons, lsum_nil, lsum_map, lsum_range]
    have : ∀ s, lsum (crs n 0) (fun r => f (s :: r)) = f [s] := fun s => by
      show lsum [[]] _ = _
      rw [lsum_cons, lsum_nil]; grind
    rw [sg_congr (g := fun s => lsum (crs n 0) fun r => f (s :: r)) fun i _ => by rw [this]; rfl]
    grind
  | m + 1, f => by
    have e : ∀ k (g : List Nat → Rat), lsum (crs n (k + 1)) g = lsum (crs n k) fun r => sg n fun t => g (r ++ [t]) := fun k g => by
      show lsum ((crs n k).flatMap fun r => (List.range n).map fun s => r ++ [s]) g = _
      rw [lsum_flatMap]
      refine lsum_congr fun r _ => ?_
      rw [lsum_map, lsum_range]
    rw [e, crs_front]
    refine sg_congr fun s _ => ?_
    rw [e]
    rfl
theorem on_all : ∀ {m p i : Nat}, p + m + 1 = v.length → lsum (crs c.st.length m) (owQ c v p i) = c.bR v m i
  | 0, p, i, _ => by
    show lsum [[]] _ = _
    rw [lsum_cons, lsum_nil]
    show (1 : Rat) + 0 = 1
    grind
  | m + 1, p, i, h => by
    rw [crs_front]
    have e2 : c.bR v (m + 1) i = sg c.st.length fun j => wq c.sp[i]! j * (c.told j v[v.length - 1 - m]! * c.bR v m j) := rfl
    rw [e2]
    refine sg_congr fun s _ => ?_
    rw [← on_all (m := m) (p := p + 1) (i := s) (by omega), show v.length - 1 - m = p + 1 by omega]
    have e3 : (fun r => owQ c v p i (s :: r)) = fun r => owQ c v (p + 1) s r * (wq c.sp[i]! s * c.told s v[p + 1]!) := by
      funext r
      show _ * (_ * _) = _
      grind
    rw [e3, lsum_mulr]
    grind
theorem behind_all (hc : ChOk b c) (hv : VwOk c v) {m p i : Nat} (hi : i < c.st.length) (h : p + m + 1 = v.length) : ((isum (crs c.st.length m) (owI c v p i) : Int) : Rat) = c.bR v m i * ((bt c ^ m : Int) : Rat) := by
  rw [isum_cast, ← on_all (i := i) h, ← lsum_mulr]
  refine lsum_congr fun r hr => ?_
  obtain ⟨r1, r2⟩ := crs_ok hr
  rw [(owI_at hc hv (p := p) r2 hi (by omega)).1, r1]
end
/-! a table of shares -/
def tabD (K n : Nat) (f : Nat → Nat → Rat) : PyData := .tuple ((List.range K).map fun k => .tuple ((List.range n).map fun j => fD (f k j)))
theorem tab_congr {K n : Nat} {f g : Nat → Nat → Rat} (h : ∀ k j, k < K → j < n → f k j = g k j) : tabD K n f = tabD K n g := by
  unfold tabD
  congr 1
  refine List.map_congr_left fun k hk => ?_
  rw [List.mem_range] at hk
  congr 1
  refine List.map_congr_left fun j hj => ?_
  rw [List.mem_range] at hj
  rw [h k j hk hj]
theorem Rp.tab {K n : Nat} {f : Nat → Nat → Rat} (h : ∀ k j, k < K → j < n → RB 1920 (f k j)) : Rp (K * (n * 3851 + 5) + 3) 4 (tabD K n f) := by
  refine (RpA.all (n := n * 3851 + 3) (d := 3) (m := K) (fun x hx => ?_) (by simp)).tup.mono (Nat.le_of_eq (by rw [show n * 3851 + 3 + 2 = n * 3851 + 5 from by omega])) (by omega)
  obtain ⟨k, hk, rfl⟩ := List.mem_map.mp hx
  rw [List.mem_range] at hk
  refine (RpA.all (n := 3849) (d := 2) (m := n) (fun y hy => ?_) (by simp)).tup
  obtain ⟨j, hj, rfl⟩ := List.mem_map.mp hy
  rw [List.mem_range] at hj
  exact Rp.fr (h k j hk hj)
end Dl

namespace Dl
open PySem PySem.Spec PyProof.Rows L2
/-! ### one step behind a view -/
/-- the chance of k signs and of being at j next -/
def Ch.on (c : Ch) (v : List Nat) : Nat → Nat → Rat
  | 0, j => wq c.st j
  | k + 1, j => sg c.st.length fun i => c.ra v (k + 1) i * wq c.sp[i]! j
theorem ra_on {c : Ch} {v : List Nat} {k j : Nat} : c.ra v (k + 1) j = c.on v k j * c.told j v[k]! := by
  cases k with
  | zero => rfl
  | succ k =>
    show (if k + 1 = 0 then _ else _) * _ = _
    rw [if_neg (by omega)]; rfl
/-- in the program, behind a view of one sign at least -/
def onI (c : Ch) (v : List Nat) (k j : Nat) : Int := sgi c.st.length fun i => raI c v k i * (scl (LL c) c.sp)[i]![j]!
/-- the law's row behind k signs -/
def goI (c : Ch) (v : List Nat) : Nat → Nat → Int
  | 0, j => c.st[j]!
  | k + 1, j => sgi c.st.length fun i => (goI c v k i * toI c i v[k]!) * (scl (LL c) c.sp)[i]![j]!
/-- .. and its whole, gaps not counted -/
def goW (c : Ch) (v : List Nat) : Nat → Int
  | 0 => c.st.sum
  | k + 1 => goW c v k * uM c v[k]! * LL c
section
variable {b sb : Nat} {c : Ch} {v : List Nat}
theorem onI_at (hc : ChOk b c sb) (hv : VwOk c v) {k j : Nat} (hk : k + 1 ≤ v.length) (hj : j < c.st.length) : ((onI c v (k + 1) j : Int) : Rat) = c.on v (k + 1) j * ((undK c v (k + 1) * LL c : Int) : Rat) := by
  have e : c.on v (k + 1) j = sg c.st.length fun i => c.ra v (k + 1) i * wq c.sp[i]! j := rfl
  unfold onI
  rw [e, sgi_cast, ← sg_mulr]
  refine sg_congr fun i hi => ?_
  rw [Rat.intCast_mul, Rat.intCast_mul, (raI_at hc hv hk hi).1, (sp_at hc hi hj).1]
  grind
theorem goI_at (hc : ChOk b c sb) (hv : VwOk c v) : ∀ {k j : Nat}, k ≤ v.length → j < c.st.length → ((goI c v k j : Int) : Rat) = c.on v k j * ((goW c v k : Int) : Rat) ∧ Bd (sb + k * (12 * b + 8)) (goI c v k j)
  | 0, j, hk, hj => by
    refine ⟨?_, (hc.st.at hj).2.2.mono (by omega)⟩
    show ((c.st[j]! : Int) : Rat) = wq c.st j * ((c.st.sum : Int) : Rat)
    unfold wq
    have := cast_ne hc.st.ne
    grind
  | k + 1, j, hk, hj => by
    have hvk := hv v[k]! (getB_mem (by omega))
    have e1 : goI c v (k + 1) j = sgi c.st.length fun i => (goI c v k i * toI c i v[k]!) * (scl (LL c) c.sp)[i]![j]! := rfl
    have e2 : c.on v (k + 1) j = sg c.st.length fun i => c.ra v (k + 1) i * wq c.sp[i]! j := rfl
    have e3 : goW c v (k + 1) = goW c v k * (if v[k]! ≠ 46 then MM c else 1) * LL c := rfl
    rw [e1, e2, e3]
    constructor
    · rw [sgi_cast, ← sg_mulr]
      refine sg_congr fun i hi => ?_
      rw [Rat.intCast_mul, Rat.intCast_mul, (goI_at hc hv (k := k) (by omega) hi).1, (toI_at hc hi hvk).1, (sp_at hc hi hj).1, ra_on]
      simp only [Rat.intCast_mul]
      grind
    · have h6 := hc.n6
      exact (sgi_bd (N := sb + k * (12 * b + 8) + (6 * b + 1) + (6 * b + 1)) fun i hi => (((goI_at hc hv (k := k) (by omega) hi).2.mul (toI_at hc hi hvk).2).mul (sp_at hc hi hj).2)).mono (by rw [Nat.add_one_mul k (12 * b + 8)]; omega)
theorem goW_pos (hc : ChOk b c sb) : ∀ {k : Nat}, 0 < goW c v k
  | 0 => hc.st.pos
  | k + 1 => Int.mul_pos (Int.mul_pos (goW_pos hc) (uM_ok hc _).1) (LL_ok hc).1
theorem goW_bd (hc : ChOk b c sb) : ∀ {k : Nat}, Bd (sb + k * (12 * b + 2)) (goW c v k)
  | 0 => hc.st.sbd.mono (by omega)
  | k + 1 => (((goW_bd hc (k := k)).mul (uM_ok hc _).2).mul (LL_ok hc).2.2).mono (by rw [Nat.add_one_mul k (12 * b + 2)]; omega)
theorem goW_bdn (hc : ChOk b c sb) : ∀ {k : Nat}, Bd (sb + k * (2 * (c.st.length * b))) (goW c v k)
  | 0 => hc.st.sbd.mono (by omega)
  | k + 1 => by
    obtain ⟨l1, l2⟩ := LL_bdn hc
    have ih := goW_bdn hc (k := k)
    have h2 : (uM c v[k]!).natAbs ≤ 2 ^ (c.st.length * b) := by unfold uM; split; exact l2; exact Nat.one_le_two_pow
    show (goW c v k * _ * _).natAbs < 2 ^ _
    rw [Int.natAbs_mul, Int.natAbs_mul, Nat.add_one_mul k (2 * (c.st.length * b)), show sb + (k * (2 * (c.st.length * b)) + 2 * (c.st.length * b)) = (sb + k * (2 * (c.st.length * b))) + c.st.length * b + c.st.length * b by omega, Nat.pow_add, Nat.pow_add]
    exact Nat.mul_lt_mul_of_lt_of_le (Nat.mul_lt_mul_of_lt_of_le ih h2 (Nat.two_pow_pos _)) l1 (Nat.two_pow_pos _)
theorem on01 (hc : ChOk b c sb) (hb : 1 ≤ b) (hv : VwOk c v) : ∀ {k j : Nat}, k ≤ v.length → j < c.st.length → 0 ≤ c.on v k j ∧ c.on v k j ≤ 1
  | 0, j, _, hj => ⟨hc.st.wnn hj, hc.st.wle hj⟩
  | k + 1, j, hk, hj => by
    have e2 : c.on v (k + 1) j = sg c.st.length fun i => c.ra v (k + 1) i * wq c.sp[i]! j := rfl
    rw [e2]
    refine ⟨sg_nn fun i hi => Rat.mul_nonneg (hc.raNn hb hv hk hi) ((hc.spAt hi).wnn hj), Rat.le_trans (sg_le (g := fun i => c.ra v (k + 1) i) fun i hi => ?_) (hc.raLe hb hv (k := k + 1) hk)⟩
    have := Rat.mul_le_mul_of_nonneg_left ((hc.spAt hi).wle hj) (hc.raNn hb hv (k := k + 1) hk hi)
    rwa [Rat.mul_one] at this
theorem on_rb (hc : ChOk b c sb) (hb : 1 ≤ b) (hv : VwOk c v) {k j : Nat} (hk : k ≤ v.length) (hj : j < c.st.length) : RB (sb + k * (2 * (c.st.length * b))) (c.on v k j) := by
  obtain ⟨h0, h1⟩ := on01 hc hb hv hk hj
  have hu := goW_pos hc (v := v) (k := k)
  exact RB.unit (W := goI c v k j) h0 h1 (by omega) (goW_bdn hc) (goI_at hc hv hk hj).1.symm
theorem Mult.on {c' : Ch} (h : Mult c c') (k : ChOk b c sb) (hv : VwOk c v) : ∀ {m j : Nat}, m ≤ v.length → j < c.st.length → c'.on v m j = c.on v m j
  | 0, j, hm, hj => h.st.wq k.st hj
  | m + 1, j, hm, hj => by
    have e : ∀ d : Ch, d.on v (m + 1) j = Dl.sg d.st.length fun i => d.ra v (m + 1) i * wq d.sp[i]! j := fun d => rfl
    rw [e, e, h.stl]
    refine sg_congr fun i hi => ?_
    rw [h.ra k hv (m := m) hm hi, h.step k hi hj]
end
/-- the shares one step behind a view, as data -/
def onD (c : Ch) (v : List Nat) : PyData := .tuple ((List.range c.st.length).map fun j => fD (c.on v v.length j))
theorem Rp.on {b sb : Nat} {c : Ch} {v : List Nat} (hc : ChOk b c sb) (hb : 1 ≤ b) (hv : VwOk c v) (h : sb + v.length * (2 * (c.st.length * b)) ≤ 1920) : Rp 30000 3 (onD c v) := by
  refine (RpA.all (n := 3849) (d := 2) (m := 6) (fun y hy => ?_) (by simpa using hc.n6)).tup.mono (by decide) (by decide)
  obtain ⟨j, hj, rfl⟩ := List.mem_map.mp hy
  rw [List.mem_range] at hj
  exact Rp.fr ((on_rb hc hb hv (Nat.le_refl _) hj).mono h)
end Dl

namespace Dl
open PySem PySem.Spec PyProof.Rows L2
/-! ### plain lines -/
def gcdF (a : Nat) (w : Int) : Nat := Int.gcd (a : Int) w
def gcdL (ws : List Int) : Nat := ws.foldl gcdF 0
def plainL (ws : List Int) : List Int := ws.map fun w => w / (gcdL ws : Int)
theorem gcdL_snoc {ws : List Int} {w : Int} : gcdL (ws ++ [w]) = gcdF (gcdL ws) w := by
  unfold gcdL
  rw [List.foldl_append]; rfl
theorem gcdF_dvd : ∀ {ws : List Int} {a : Nat}, ws.foldl gcdF a ∣ a ∧ ∀ w ∈ ws, ((ws.foldl gcdF a : Nat) : Int) ∣ w
  | [], a => ⟨Nat.dvd_refl _, fun w h => nomatch h⟩
  | x :: ws, a => by
    obtain ⟨h1, h2⟩ := gcdF_dvd (ws := ws) (a := gcdF a x)
    rw [List.foldl_cons]
    have e1 : gcdF a x ∣ a := by
      have := Int.gcd_dvd_left (a := (a : Int)) (b := x)
      exact Int.natCast_dvd_natCast.mp this
    have e2 : ((gcdF a x : Nat) : Int) ∣ x := Int.gcd_dvd_right ..
    refine ⟨Nat.dvd_trans h1 e1, fun w hw => ?_⟩
    rcases List.mem_cons.mp hw with rfl | hw
    · exact Int.dvd_trans (Int.natCast_dvd_natCast.mpr h1) e2
    · exact h2 w hw
theorem gcdL_dvd {ws : List Int} {w : Int} (h : w ∈ ws) : (gcdL ws : Int) ∣ w := gcdF_dvd.2 w h
theorem gcdL_ne {ws : List Int} {w : Int} (h : w ∈ ws) (z : w ≠ 0) : gcdL ws ≠ 0 := fun e => by
  have := gcdL_dvd h
  rw [e] at this
  exact z (Int.zero_dvd.mp this)
theorem gcdF_mul {k : Int} : ∀ {ws : List Int} {a : Nat}, (ws.map fun w => w * k).foldl gcdF (a * k.natAbs) = ws.foldl gcdF a * k.natAbs
  | [], a => rfl
  | x :: ws, a => by
    rw [List.map_cons, List.foldl_cons, List.foldl_cons, ← gcdF_mul (ws := ws)]
    congr 1
    show Int.gcd ((a * k.natAbs : Nat) : Int) (x * k) = Int.gcd (a : Int) x * k.natAbs
    rw [← Int.gcd_mul_right]
    show Nat.gcd _ _ = Nat.gcd _ _
    rw [Int.natAbs_natCast, Int.natAbs_mul (a : Int) k, Int.natAbs_natCast]
theorem plain_mul {ws : List Int} {k : Int} (h : 0 < k) : plainL (ws.map fun w => w * k) = plainL ws := by
  unfold plainL
  have e : gcdL (ws.map fun w => w * k) = gcdL ws * k.natAbs := by
    have := gcdF_mul (ws := ws) (a := 0) (k := k)
    rwa [Nat.zero_mul] at this
  rw [e, List.map_map]
  refine List.map_congr_left fun w _ => ?_
  show w * k / ((gcdL ws * k.natAbs : Nat) : Int) = _
  rw [Int.natCast_mul, Int.natAbs_of_nonneg (Int.le_of_lt h), Int.mul_ediv_mul_of_pos_left _ _ h]
theorem plain_eq {x y : List Int} {A B : Int} (hl : x.length = y.length) (hA : 0 < A) (hB : 0 < B) (h : ∀ i, i < x.length → x[i]! * A = y[i]! * B) : plainL x = plainL y := by
  rw [← plain_mul hA, ← plain_mul (ws := y) hB]
  congr 1
  refine extB (by simpa using hl) fun i hi => ?_
  have hi' : i < x.length := by simpa using hi
  rw [getB_map hi', getB_map (by omega)]
  exact h i hi'
theorem plain_back (ws : List Int) : ∃ m : Int, 0 < m ∧ (plainL ws).map (fun w => w * m) = ws := by
  by_cases z : gcdL ws = 0
  · refine ⟨1, by decide, ?_⟩
    have hz : ∀ w ∈ ws, w = 0 := fun w hw => by
      by_cases q : w = 0
      · exact q
      · exact absurd z (gcdL_ne hw q)
    unfold plainL
    rw [List.map_map]
    conv => rhs; rw [← List.map_id ws]
    refine List.map_congr_left fun w hw => ?_
    rw [hz w hw]
    simp
  · refine ⟨gcdL ws, by omega, ?_⟩
    unfold plainL
    rw [List.map_map]
    conv => rhs; rw [← List.map_id ws]
    refine List.map_congr_left fun w hw => ?_
    exact Int.ediv_mul_cancel (gcdL_dvd hw)
theorem plain_len {ws : List Int} : (plainL ws).length = ws.length := by simp [plainL]
theorem plain_idem {ws : List Int} : plainL (plainL ws) = plainL ws := by
  obtain ⟨m, hm, e⟩ := plain_back ws
  have := plain_mul (ws := plainL ws) hm
  rw [e] at this
  exact this.symm
theorem plain_nn {ws : List Int} (h : ∀ w ∈ ws, 0 ≤ w) : ∀ w ∈ plainL ws, 0 ≤ w := fun w hw => by
  obtain ⟨x, hx, rfl⟩ := List.mem_map.mp hw
  exact Int.ediv_nonneg (h x hx) (by omega)
theorem plain_ln {b n : Nat} {ws : List Int} (h : LnOk b n ws) : LnOk b n (plainL ws) := by
  obtain ⟨m, hm, e⟩ := plain_back ws
  have hs : (plainL ws).sum * m = ws.sum := by rw [← sum_mul, e]
  have hn := plain_nn h.nn
  have hp := h.pos
  have h0 : 0 < (plainL ws).sum := by
    have := sum_nn hn
    rcases Int.lt_or_eq_of_le this with q | q
    · exact q
    · rw [← q] at hs; omega
  refine ⟨by rw [plain_len]; exact h.len, hn, h0, ?_⟩
  have h1 : (plainL ws).sum ≤ (plainL ws).sum * m := by
    have := Int.mul_le_mul_of_nonneg_left (show 1 ≤ m by omega) (Int.le_of_lt h0)
    rwa [Int.mul_one] at this
  have := h.bd
  omega
theorem wq_mul {ws : List Int} {m : Int} (hm : 0 < m) (hs : ws.sum ≠ 0) {i : Nat} (hi : i < ws.length) : wq (ws.map fun w => w * m) i = wq ws i := by
  unfold wq
  rw [getB_map hi, sum_mul, Rat.intCast_mul, Rat.intCast_mul]
  have := cast_ne (show m ≠ 0 by omega)
  have := cast_ne hs
  grind
theorem plain_wq {b n : Nat} {ws : List Int} (h : LnOk b n ws) {i : Nat} (hi : i < n) : wq (plainL ws) i = wq ws i := by
  obtain ⟨m, hm, e⟩ := plain_back ws
  have := wq_mul (ws := plainL ws) hm (plain_ln h).ne (i := i) (by rw [plain_len, h.len]; exact hi)
  rw [e] at this
  exact this.symm
theorem plain_MulL {l l' : List Int} (h : MulL l l') : plainL l' = plainL l := by
  obtain ⟨k, k0, _, rfl⟩ := h
  exact plain_mul k0
/-! ### the chain behind a view -/
def goR (c : Ch) (v : List Nat) (k : Nat) : List Int := (List.range c.st.length).map (goI c v k)
def behC (c : Ch) (v : List Nat) : Ch := ⟨c.sgs, plainL (goR c v v.length), c.sp.map plainL, c.tl.map plainL⟩
/-- the view never comes -/
def Ch.nev (c : Ch) (v : List Nat) : Prop := ∀ j, j < c.st.length → c.on v v.length j = 0
section
variable {b sb : Nat} {c : Ch} {v : List Nat}
theorem goR_len {k : Nat} : (goR c v k).length = c.st.length := by simp [goR]
theorem goR_at {k j : Nat} (hj : j < c.st.length) : (goR c v k)[j]! = goI c v k j := getB_range hj
theorem on_sum (hc : ChOk b c sb) {k : Nat} (hk : k ≤ v.length) : sg c.st.length (c.on v k) = if k = 0 then 1 else sg c.st.length (c.ra v k) := by
  cases k with
  | zero => exact hc.st.one
  | succ k =>
    rw [if_neg (by omega)]
    have e : sg c.st.length (c.on v (k + 1)) = sg c.st.length fun j => sg c.st.length fun i => c.ra v (k + 1) i * wq c.sp[i]! j := rfl
    rw [e, sg_swap]
    refine sg_congr fun i hi => ?_
    rw [sg_congr (g := fun j => wq c.sp[i]! j * c.ra v (k + 1) i) fun j _ => Rat.mul_comm .., sg_mulr, (hc.spAt hi).one, Rat.one_mul]
theorem on_sum1 (hc : ChOk b c sb) (hb : 1 ≤ b) (hv : VwOk c v) {k : Nat} (hk : k ≤ v.length) : sg c.st.length (c.on v k) ≤ 1 := by
  rw [on_sum hc hk]
  split
  · exact Rat.le_refl
  · exact hc.raLe hb hv hk
theorem goI_nn (hc : ChOk b c sb) (hb : 1 ≤ b) (hv : VwOk c v) {k j : Nat} (hk : k ≤ v.length) (hj : j < c.st.length) : 0 ≤ goI c v k j := by
  have h3 : (0 : Rat) ≤ ((goI c v k j : Int) : Rat) := by
    rw [(goI_at hc hv hk hj).1]
    exact Rat.mul_nonneg (on01 hc hb hv hk hj).1 (Rat.intCast_nonneg.mpr (by have := goW_pos hc (v := v) (k := k); omega))
  exact Rat.intCast_nonneg.mp h3
theorem goR_sum (hc : ChOk b c sb) (hv : VwOk c v) {k : Nat} (hk : k ≤ v.length) : (((goR c v k).sum : Int) : Rat) = sg c.st.length (c.on v k) * ((goW c v k : Int) : Rat) := by
  unfold goR
  rw [sum_map_range, sgi_cast, ← sg_mulr]
  exact sg_congr fun j hj => (goI_at hc hv hk hj).1
theorem goR_le (hc : ChOk b c sb) (hb : 1 ≤ b) (hv : VwOk c v) {k : Nat} (hk : k ≤ v.length) : (goR c v k).sum ≤ goW c v k := by
  have h1 : (((goR c v k).sum : Int) : Rat) ≤ ((goW c v k : Int) : Rat) := by
    rw [goR_sum hc hv hk]
    have h2 := on_sum1 hc hb hv hk
    have h3 : (0 : Rat) ≤ ((goW c v k : Int) : Rat) := Rat.intCast_nonneg.mpr (by have := goW_pos hc (v := v) (k := k); omega)
    have := Rat.mul_le_mul_of_nonneg_right h2 h3
    rwa [Rat.one_mul] at this
  exact Rat.intCast_le_intCast.mp h1
theorem goR_zero (hc : ChOk b c sb) (hb : 1 ≤ b) (hv : VwOk c v) : (goR c v v.length).sum = 0 ↔ c.nev v := by
  have hn : ∀ w ∈ goR c v v.length, 0 ≤ w := fun w hw => by
    obtain ⟨j, hj, rfl⟩ := List.mem_map.mp hw
    exact goI_nn hc hb hv (Nat.le_refl _) (List.mem_range.mp hj)
  have hW := goW_pos hc (v := v) (k := v.length)
  have hWr := cast_ne (show goW c v v.length ≠ 0 by omega)
  constructor
  · intro h j hj
    have hm : goI c v v.length j ∈ goR c v v.length := List.mem_map.mpr ⟨j, List.mem_range.mpr hj, rfl⟩
    have h1 := sum_ge hn hm
    have h2 := hn _ hm
    have h3 : goI c v v.length j = 0 := by omega
    have h4 := (goI_at hc hv (Nat.le_refl _) hj).1
    rw [h3] at h4
    have e0 : ((0 : Int) : Rat) = 0 := rfl
    rw [e0] at h4
    grind
  · intro h
    have h1 := goR_sum hc hv (Nat.le_refl v.length)
    rw [sg_congr (g := fun _ => (0 : Rat)) fun j hj => h j hj, sg_zero, Rat.zero_mul] at h1
    exact Rat.intCast_eq_zero_iff.mp h1
theorem goR_ln (hc : ChOk b c sb) (hb : 1 ≤ b) (hv : VwOk c v) (h : ¬ c.nev v) : LnOk (sb + v.length * (2 * (c.st.length * b))) c.st.length (goR c v v.length) := by
  have hn : ∀ w ∈ goR c v v.length, 0 ≤ w := fun w hw => by
    obtain ⟨j, hj, rfl⟩ := List.mem_map.mp hw
    exact goI_nn hc hb hv (Nat.le_refl _) (List.mem_range.mp hj)
  refine ⟨goR_len, hn, ?_, ?_⟩
  · have h1 := sum_nn hn
    have h2 : (goR c v v.length).sum ≠ 0 := fun z => h ((goR_zero hc hb hv).mp z)
    omega
  · exact Int.lt_of_le_of_lt (goR_le hc hb hv (Nat.le_refl _)) (goW_bdn hc).lt
theorem behC_ok (hc : ChOk b c sb) (hb : 1 ≤ b) (hv : VwOk c v) (h : ¬ c.nev v) : ChOk b (behC c v) (sb + v.length * (2 * (c.st.length * b))) := by
  have k := plain_ln (goR_ln hc hb hv h)
  have e : (behC c v).st.length = c.st.length := k.len
  refine ⟨by rw [e]; exact hc.n1, by rw [e]; exact hc.n6, hc.m1, hc.m5, hc.nd, hc.low, by rw [e]; exact k, ?_, ?_, ?_, ?_⟩
  · rw [e]; show (c.sp.map plainL).length = _; rw [List.length_map]; exact hc.spl
  · rw [e]; intro l hl
    obtain ⟨x, hx, rfl⟩ := List.mem_map.mp hl
    exact plain_ln (hc.sp x hx)
  · rw [e]; show (c.tl.map plainL).length = _; rw [List.length_map]; exact hc.tll
  · intro l hl
    obtain ⟨x, hx, rfl⟩ := List.mem_map.mp hl
    exact plain_ln (hc.tl x hx)
theorem behC_len : (behC c v).st.length = c.st.length := by show (plainL _).length = _; rw [plain_len, goR_len]
theorem goI_prop {c' : Ch} (hc : ChOk b c sb) (h : Mult c c') (hc' : ∃ b' sb', ChOk b' c' sb') (hv : VwOk c v) {k j : Nat} (hk : k ≤ v.length) (hj : j < c.st.length) : goI c' v k j * goW c v k = goI c v k j * goW c' v k := by
  obtain ⟨b', sb', k'⟩ := hc'
  have h1 := (goI_at k' (h.vw hv) hk (by rw [h.stl]; exact hj)).1
  have h2 := (goI_at hc hv hk hj).1
  rw [h.on hc hv hk hj] at h1
  have h3 : ((goI c' v k j * goW c v k : Int) : Rat) = ((goI c v k j * goW c' v k : Int) : Rat) := by
    rw [Rat.intCast_mul, Rat.intCast_mul, h1, h2]
    grind
  exact Rat.intCast_inj.mp h3
theorem behC_mult {c' : Ch} (hc : ChOk b c sb) (h : Mult c c') (hc' : ∃ b' sb', ChOk b' c' sb') (hv : VwOk c v) : behC c' v = behC c v := by
  have e1 : plainL (goR c' v v.length) = plainL (goR c v v.length) := by
    refine plain_eq (A := goW c v v.length) (B := goW c' v v.length) (by rw [goR_len, goR_len, h.stl]) (goW_pos hc) (goW_pos hc'.choose_spec.choose_spec) fun j hj => ?_
    rw [goR_len, h.stl] at hj
    rw [goR_at (by rw [h.stl]; exact hj), goR_at hj]
    exact goI_prop hc h hc' hv (Nat.le_refl _) hj
  have e2 : c'.sp.map plainL = c.sp.map plainL := extB (by simp [h.spl]) fun i hi => by
    have hi' : i < c.sp.length := by rw [← h.spl]; simpa using hi
    rw [getB_map (by rw [h.spl]; exact hi'), getB_map hi']
    exact plain_MulL (h.sp i hi')
  have e3 : c'.tl.map plainL = c.tl.map plainL := extB (by simp [h.tll]) fun i hi => by
    have hi' : i < c.tl.length := by rw [← h.tll]; simpa using hi
    rw [getB_map (by rw [h.tll]; exact hi'), getB_map hi']
    exact plain_MulL (h.tl i hi')
  unfold behC
  rw [e1, e2, e3, h.sg]
theorem on_ahead {w : List Nat} : ∀ {k j : Nat}, k ≤ v.length → c.on (v ++ w) k j = c.on v k j
  | 0, j, _ => rfl
  | k + 1, j, hk => by
    show sg _ _ = sg _ _
    exact sg_congr fun i _ => by rw [ra_ahead hk]
theorem on_succ {k j : Nat} : c.on v (k + 1) j = sg c.st.length fun i => c.on v k i * c.told i v[k]! * wq c.sp[i]! j := by
  show sg _ _ = _
  exact sg_congr fun i _ => by rw [ra_on]
theorem behC_told (hc : ChOk b c sb) {i s : Nat} (hi : i < c.st.length) (hs : s = 46 ∨ s ∈ c.sgs) : (behC c v).told i s = c.told i s := by
  show (if s = 46 then (1 : Rat) else wq (c.tl.map plainL)[i]! (c.sgs.idxOf s)) = (if s = 46 then 1 else wq c.tl[i]! (c.sgs.idxOf s))
  by_cases z : s = 46
  · rw [if_pos z, if_pos z]
  · rw [if_neg z, if_neg z, getB_map (by rw [hc.tll]; exact hi)]
    exact plain_wq (hc.tlAt hi) (hc.ix (hs.resolve_left z))
theorem behC_step (hc : ChOk b c sb) {i j : Nat} (hi : i < c.st.length) (hj : j < c.st.length) : wq (behC c v).sp[i]! j = wq c.sp[i]! j := by
  show wq (c.sp.map plainL)[i]! j = _
  rw [getB_map (by rw [hc.spl]; exact hi)]
  exact plain_wq (hc.spAt hi) hj
/-- the view behind a view: what is to be divided by the sum -/
theorem behC_on (hc : ChOk b c sb) (hb : 1 ≤ b) (hv : VwOk c v) (h : ¬ c.nev v) {w : List Nat} (hw : VwOk c w) : ∀ {k j : Nat}, k ≤ w.length → j < c.st.length → (behC c v).on w k j * sg c.st.length (c.on v v.length) = c.on (v ++ w) (v.length + k) j
  | 0, j, _, hj => by
    have hl := goR_ln hc hb hv h
    have hW := cast_ne (show goW c v v.length ≠ 0 by have := goW_pos hc (v := v) (k := v.length); omega)
    rw [Nat.add_zero, on_ahead (Nat.le_refl _)]
    show wq (plainL (goR c v v.length)) j * _ = _
    rw [plain_wq hl hj]
    unfold wq
    rw [goR_at hj, (goI_at hc hv (Nat.le_refl _) hj).1, goR_sum hc hv (Nat.le_refl _)]
    have hS : sg c.st.length (c.on v v.length) ≠ 0 := fun z => by
      have h1 := goR_sum hc hv (Nat.le_refl v.length)
      rw [z, Rat.zero_mul] at h1
      exact h ((goR_zero hc hb hv).mp (Rat.intCast_eq_zero_iff.mp h1))
    grind
  | k + 1, j, hk, hj => by
    rw [on_succ, ← Nat.add_assoc, on_succ, behC_len, ← sg_mulr]
    refine sg_congr fun i hi => ?_
    have e1 : (v ++ w)[v.length + k]! = w[k]! := by
      rw [getElem!_pos _ _ (by simp; omega), getElem!_pos w k (by omega), List.getElem_append_right (by omega)]
      congr 1
      omega
    rw [e1, ← behC_on hc hb hv h hw (k := k) (by omega) hi, behC_told hc hi (hw _ (getB_mem (by omega))), behC_step hc hi hj]
    grind
theorem nev_app (h : c.nev v) : ∀ {w : List Nat} {k j : Nat}, k ≤ w.length → j < c.st.length → c.on (v ++ w) (v.length + k) j = 0
  | w, 0, j, _, hj => by rw [Nat.add_zero, on_ahead (Nat.le_refl _)]; exact h j hj
  | w, k + 1, j, hk, hj => by
    rw [← Nat.add_assoc, on_succ, sg_congr (g := fun _ => (0 : Rat)) fun i hi => by rw [nev_app h (w := w) (k := k) (by omega) hi, Rat.zero_mul, Rat.zero_mul], sg_zero]
theorem nev_more (h : c.nev v) {w : List Nat} : c.nev (v ++ w) := fun j hj => by
  rw [List.length_append]
  exact nev_app h (Nat.le_refl _) hj
theorem sum_on_ne (hc : ChOk b c sb) (hb : 1 ≤ b) (hv : VwOk c v) (h : ¬ c.nev v) : sg c.st.length (c.on v v.length) ≠ 0 := fun z => by
  have h1 := goR_sum hc hv (Nat.le_refl v.length)
  rw [z, Rat.zero_mul] at h1
  exact h ((goR_zero hc hb hv).mp (Rat.intCast_eq_zero_iff.mp h1))
theorem nev_beh (hc : ChOk b c sb) (hb : 1 ≤ b) (hv : VwOk c v) (h : ¬ c.nev v) {w : List Nat} (hw : VwOk c w) : (behC c v).nev w ↔ c.nev (v ++ w) := by
  have hS := sum_on_ne hc hb hv h
  constructor
  · intro q j hj
    rw [List.length_append, ← behC_on hc hb hv h hw (Nat.le_refl _) hj, q j (by rw [behC_len]; exact hj), Rat.zero_mul]
  · intro q j hj
    rw [behC_len] at hj
    have := q j hj
    rw [List.length_append, ← behC_on hc hb hv h hw (Nat.le_refl _) hj] at this
    rcases Rat.mul_eq_zero.mp this with y | y
    · exact y
    · exact absurd y hS
theorem behC_beh (hc : ChOk b c sb) (hb : 1 ≤ b) (hv : VwOk c v) (h : ¬ c.nev v) {w : List Nat} (hw : VwOk c w) : behC (behC c v) w = behC c (v ++ w) := by
  have hc2 := behC_ok hc hb hv h
  have hvw : VwOk c (v ++ w) := fun s hs => by
    rcases List.mem_append.mp hs with q | q
    · exact hv s q
    · exact hw s q
  have hS := sum_on_ne hc hb hv h
  have e1 : plainL (goR (behC c v) w w.length) = plainL (goR c (v ++ w) (v ++ w).length) := by
    refine plain_eq (A := goW c (v ++ w) (v ++ w).length * (goR c v v.length).sum) (B := goW (behC c v) w w.length * goW c v v.length) (by rw [goR_len, goR_len, behC_len]) (Int.mul_pos (goW_pos hc) (goR_ln hc hb hv h).pos) (Int.mul_pos (goW_pos hc2) (goW_pos hc)) fun j hj => ?_
    rw [goR_len, behC_len] at hj
    rw [goR_at (by rw [behC_len]; exact hj), goR_at hj]
    have h1 := (goI_at hc2 (show VwOk (behC c v) w from hw) (Nat.le_refl _) (by rw [behC_len]; exact hj)).1
    have h2 := (goI_at hc hvw (Nat.le_refl _) hj).1
    have h3 := behC_on hc hb hv h hw (Nat.le_refl w.length) hj
    have h4 := goR_sum hc hv (Nat.le_refl v.length)
    have e2 : (v ++ w).length = v.length + w.length := List.length_append
    rw [e2] at h2 ⊢
    rw [← h3] at h2
    refine Rat.intCast_inj.mp ?_
    rw [Rat.intCast_mul, Rat.intCast_mul, Rat.intCast_mul, Rat.intCast_mul, h1, h2, h4]
    grind
  have e2 : (c.sp.map plainL).map plainL = c.sp.map plainL := by
    rw [List.map_map]; exact List.map_congr_left fun _ _ => plain_idem
  have e3 : (c.tl.map plainL).map plainL = c.tl.map plainL := by
    rw [List.map_map]; exact List.map_congr_left fun _ _ => plain_idem
  show (⟨c.sgs, plainL _, (c.sp.map plainL).map plainL, (c.tl.map plainL).map plainL⟩ : Ch) = ⟨c.sgs, _, _, _⟩
  rw [e1, e2, e3]
end
end Dl

namespace Dl
open PySem PySem.Spec PyProof.Rows L2

theorem v_ix {K : PySem.W.Frag} {σ : L2.St} {H : Hp} {ta tb : TE} {a : Addr} {i : Int} {xs : List V} {v : V} (ha : Val ta σ H (.ref a)) (hb : Val tb σ H (.int i)) (e : H a = some (.lst xs)) (hv : atI xs i = some v) : Val (tOp (rIxL K) ta tb) σ H v := val_op ha hb fun Q q => ⟨a, xs, i, v, rfl, rfl, SqL.of e, hv, q⟩
abbrev kvC (dl : Addr) (s t : Int) : List V := [.ref dl, .int s, .int t]
def dkiC : Addr → HO → HO → Prop := fun dl o1 o2 => ∃ (s t : Int) (gs : List Int), o1 = .lst (kvC dl s t) ∧ o2 = .lst (gs.map V.int) ∧ 0 ≤ s ∧ s < 4294967296 ∧ (∀ g ∈ gs, (0 : Int) ≤ g) ∧ gs.length ≤ 100
def t_drawC (K : PySem.W.Frag) : TS :=
  tSeq (tIfS (tTest (tOp rLtI (tVar 1) (tC (.int 2)))) (tRet (tC (.int 0))) tNext)
  (tSeq (tIfS (tNeNil K (tOp (rIxL K) (tVar 0) (tC (.int 0))))
    (tSeq (tAsg (tBM0 K "list" rPop (tOp (rIxL K) (tVar 0) (tC (.int 0)))) (gName 2))
    (tSeq (tIfS (tTest (tOp L2.rGe (tVar 2) (tVar 1))) (tDrop (tBM K "list" rAppend (tOp (rIxL K) (tVar 0) (tC (.int 0))) (tCons (tOp rDivI (tVar 2) (tVar 1)) tNil))) tNext)
    (tRet (tOp rModI (tCB rToInt (tCons (tVar 2) tNil)) (tVar 1))))) tNext)
  (tSeq (tAsg (tOp rAddI (tOp (rIxL K) (tVar 0) (tC (.int 2))) (tC (.int 1))) (gSub (tVar 0) (tC (.int 2)) rSetL))
  (tSeq (tAsg (tOp rModI (tCB rToInt (tCons (tOp rAddI (tOp (rIxL K) (tVar 0) (tC (.int 1))) (tOp rMulI (tC (.int 2654435761)) (tOp (rIxL K) (tVar 0) (tC (.int 2))))) tNil)) (tC (.int 4294967291))) (gName 3))
  (tSeq (tAsg (tOp rModI (tCB rToInt (tCons (tOp rAddI (tOp rAddI (tOp rMulI (tVar 3) (tVar 3)) (tOp rMulI (tC (.int 40503)) (tOp (rIxL K) (tVar 0) (tC (.int 2))))) (tC (.int 11))) tNil)) (tC (.int 4294967279))) (gName 3))
  (tSeq (tAsg (tOp rModI (tCB rToInt (tCons (tOp rAddI (tOp rMulI (tVar 3) (tVar 3)) (tOp (rIxL K) (tVar 0) (tC (.int 1)))) tNil)) (tC (.int 4294967231))) (gName 3))
  (tRet (tOp rModI (tCB rToInt (tCons (tOp rDivI (tVar 3) (tC (.int 64))) tNil)) (tVar 1))))))))
theorem pure_drawC {K : PySem.W.Frag} {H : Hp} {da dl : Addr} {o1 o2 : HO} {n : Int} {D : Ends} (h1 : H da = some o1) (h2 : H dl = some o2) (hne : da ≠ dl) (inv : dkiC dl o1 o2) (hn : n < drawMax)
    (hq : ∀ r H' o1' o2', drawOk n r → H' da = some o1' → H' dl = some o2' → dkiC dl o1' o2' → (∀ a, a ≠ da → a ≠ dl → ∀ o, H a = some o → H' a = some o) → D.rt (.int r) H') :
    t_drawC K D [some (.ref da), some (.int n), none, none] H := by
  obtain ⟨s, t, gs, rfl, rfl, s0, s1, g0, g1⟩ := inv
  by_cases c : n < 2
  · refine sq_yes ((v_lt (n := n) (i := n) (j := 2) (val_var rfl) val_c).to (decide_eq_true c)) ?_
    exact hq 0 H _ _ ⟨by omega, .inr rfl⟩ h1 h2 ⟨s, t, gs, rfl, rfl, s0, s1, g0, g1⟩ fun _ _ _ _ e => e
  · have hn0 : 0 < n := by omega
    refine sq_no ((v_lt (n := n) (i := n) (j := 2) (val_var rfl) val_c).to (decide_eq_false c)) ?_
    refine st_seq ?_
    refine a_neNil (a := dl) (gs := gs) (v_ix (K := K) (a := da) (i := 0) (xs := kvC dl s t) (v := .ref dl) (val_var rfl) val_c h1 rfl) h2 fun p hp => ?_
    have pa : da ≠ p := fun z => by rw [z, hp] at h1; cases h1
    have pl : dl ≠ p := fun z => by rw [z, hp] at h2; cases h2
    have h1' : upd H p (.lst []) da = some (.lst (kvC dl s t)) := by rw [upd_ne pa]; exact h1
    have h2' : upd H p (.lst []) dl = some (.lst (gs.map V.int)) := by rw [upd_ne pl]; exact h2
    have keep : ∀ a, a ≠ da → a ≠ dl → ∀ o, H a = some o → upd H p (.lst []) a = some o := fun a _ _ o e => by
      rw [upd_ne (ne_of_none e hp)]; exact e
    generalize upd H p (.lst []) = H1 at h1' h2' keep
    by_cases cg : gs = []
    · rw [decide_eq_false (not_not_intro cg), if_neg Bool.false_ne_true]
      subst cg
      refine st_seq ?_
      refine v_add (v_ix (K := K) (a := da) (i := 2) (xs := kvC dl s t) (v := .int t) (val_var rfl) val_c h1' rfl) val_c _ ?_
      refine val_var (i := 0) (v := .ref da) rfl _ ?_
      refine val_c _ ?_
      refine ⟨da, _, 2, 2, rfl, rfl, h1', rfl, ?_⟩
      have e2 : (kvC dl s t).set 2 (.int (t + 1)) = kvC dl s (t + 1) := rfl
      rw [e2]
      have h3 : upd H1 da (.lst (kvC dl s (t + 1))) da = some (.lst (kvC dl s (t + 1))) := upd_same
      have h4 : upd H1 da (.lst (kvC dl s (t + 1))) dl = some (.lst (([] : List Int).map V.int)) := by rw [upd_ne (Ne.symm hne)]; exact h2'
      have keep2 : ∀ a, a ≠ da → a ≠ dl → ∀ o, H a = some o → upd H1 da (.lst (kvC dl s (t + 1))) a = some o := fun a na nl o e => by rw [upd_ne na]; exact keep a na nl o e
      generalize upd H1 da (.lst (kvC dl s (t + 1))) = H2 at h3 h4 keep2
      refine sq_asg (v_mod (v_int (v_add (v_ix (K := K) (a := da) (i := 1) (xs := kvC dl s (t + 1)) (v := .int s) (val_var rfl) val_c h3 rfl) (v_mul val_c (v_ix (K := K) (a := da) (i := 2) (xs := kvC dl s (t + 1)) (v := .int (t + 1)) (val_var rfl) val_c h3 rfl) (mulC_l (by decide))))) val_c (by decide)) ?_
      generalize hx : (s + 2654435761 * (t + 1)).fmod 4294967291 = x
      have bx := fmod_bd (s + 2654435761 * (t + 1)) (j := 4294967291) (by decide)
      rw [hx] at bx
      refine sq_asg (v_mod (v_int (v_add (v_add (v_mul (i := x) (j := x) (val_var rfl) (val_var rfl) (mulC_l (by omega))) (v_mul val_c (v_ix (K := K) (a := da) (i := 2) (xs := kvC dl s (t + 1)) (v := .int (t + 1)) (val_var rfl) val_c h3 rfl) (mulC_l (by decide)))) val_c)) val_c (by decide)) ?_
      generalize hy : (x * x + 40503 * (t + 1) + 11).fmod 4294967279 = y
      have by_ := fmod_bd (x * x + 40503 * (t + 1) + 11) (j := 4294967279) (by decide)
      rw [hy] at by_
      refine sq_asg (v_mod (v_int (v_add (v_mul (i := y) (j := y) (val_var rfl) (val_var rfl) (mulC_l (by omega))) (v_ix (K := K) (a := da) (i := 1) (xs := kvC dl s (t + 1)) (v := .int s) (val_var rfl) val_c h3 rfl))) val_c (by decide)) ?_
      generalize hz : (y * y + s).fmod 4294967231 = z
      have bz := fmod_bd (y * y + s) (j := 4294967231) (by decide)
      rw [hz] at bz
      refine v_mod (i := z.fdiv 64) (j := n) (v_int (v_div (i := z) (j := 64) (val_var rfl) val_c (divC_small (by decide) (by decide)))) (val_var rfl) (by omega) _ ?_
      have br := fmod_bd (z.fdiv 64) hn0
      exact hq _ H2 _ _ ⟨br.1, .inl br.2⟩ h3 h4 ⟨s, t + 1, [], rfl, rfl, s0, s1, g0, g1⟩ keep2
    · rw [decide_eq_true cg, if_pos rfl]
      obtain ⟨g', x, rfl⟩ := getLast_split gs cg
      have x0 : 0 ≤ x := g0 x (by simp)
      have g0' : ∀ g ∈ g', (0 : Int) ≤ g := fun g hg => g0 g (by simp [hg])
      have g1' : g'.length + 1 ≤ 100 := by rw [List.length_append] at g1; exact g1
      refine sq_pop (a := dl) (y := .int x) (v_ix (K := K) (a := da) (i := 0) (xs := kvC dl s t) (v := .ref dl) (val_var rfl) val_c h1' rfl) h2' (by simp) ?_
      have e5 : ((g' ++ [x]).map V.int).dropLast = g'.map V.int := by simp
      rw [e5]
      have h3 : upd H1 dl (.lst (g'.map V.int)) da = some (.lst (kvC dl s t)) := by rw [upd_ne hne]; exact h1'
      have h4 : upd H1 dl (.lst (g'.map V.int)) dl = some (.lst (g'.map V.int)) := upd_same
      have keep2 : ∀ a, a ≠ da → a ≠ dl → ∀ o, H a = some o → upd H1 dl (.lst (g'.map V.int)) a = some o := fun a na nl o e => by rw [upd_ne nl]; exact keep a na nl o e
      generalize upd H1 dl (.lst (g'.map V.int)) = H2 at h3 h4 keep2
      have fin : ∀ (H3 : Hp) (g2 : List Int), H3 da = some (.lst (kvC dl s t)) → H3 dl = some (.lst (g2.map V.int)) → (∀ g ∈ g2, (0 : Int) ≤ g) → g2.length ≤ 100 → (∀ a, a ≠ da → a ≠ dl → ∀ o, H a = some o → H3 a = some o) →
          ∀ D' : Ends, D'.rt = D.rt → tRet (tOp rModI (tCB rToInt (tCons (tVar 2) tNil)) (tVar 1)) D' [some (.ref da), some (.int n), some (.int x), none] H3 := fun H3 g2 a1 a2 a3 a4 a5 D' eD => by
        have br := fmod_bd x hn0
        refine v_mod (i := x) (j := n) (v_int (val_var rfl)) (val_var rfl) (by omega) _ ?_
        rw [eD]
        exact hq _ H3 _ _ ⟨br.1, .inl br.2⟩ a1 a2 ⟨s, t, g2, rfl, rfl, s0, s1, a3, a4⟩ a5
      by_cases cx : n ≤ x
      · refine sq_yes ((v_ge (i := x) (j := n) (val_var rfl) (val_var rfl)).to (decide_eq_true cx)) ?_
        refine sq_app (a := dl) (y := .int (x.fdiv n)) (v_ix (K := K) (a := da) (i := 0) (xs := kvC dl s t) (v := .ref dl) (val_var rfl) val_c h3 rfl) (v_div (i := x) (j := n) (val_var rfl) (val_var rfl) (divC_small hn0 hn)) h4 (by rw [sizeLine_eq, List.length_map]; omega) ?_
        have e6 : g'.map V.int ++ [V.int (x.fdiv n)] = (g' ++ [x.fdiv n]).map V.int := by simp
        rw [e6]
        refine fin _ (g' ++ [x.fdiv n]) (by rw [upd_ne hne]; exact h3) upd_same (fun g hg => ?_) (by rw [List.length_append]; exact g1') (fun a na nl o e => by rw [upd_ne nl]; exact keep2 a na nl o e) _ rfl
        rcases List.mem_append.mp hg with hg | hg
        · exact g0' g hg
        · rw [List.mem_singleton.mp hg]; exact fdiv_nn x0 hn0
      · refine sq_no ((v_ge (i := x) (j := n) (val_var rfl) (val_var rfl)).to (decide_eq_false cx)) ?_
        exact fin H2 g' h3 h4 g0' (by omega) keep2 _ rfl
theorem run_drawC {g : DG} (hg : g.dki = dkiC) (x1 x2 x3 x4 : Str) {vs : List V} {H : Hp} {Q : VK} {E : XK} (h : spOf g sDraw vs H Q E) : t_drawC g.K { nx := fun _ H' => Q .non H', rt := Q } (start [x1, x2, x3, x4] vs) H := by
  obtain ⟨F, dk, us, sF, dO, aO, P, Ex, ⟨n, rfl, hn, hP⟩, hQ, _⟩ := h
  match vs, aO with
  | [v1, v2], aO =>
    obtain ⟨⟨da, dl, rfl, rfl⟩, h2, _⟩ := aO
    cases h2
    obtain ⟨f1, f2, ne, o1, o2, e1, e2, iv⟩ := id dO
    rw [hg] at iv
    exact pure_drawC e1 e2 ne iv hn fun r H' o1' o2' hr a1 a2 a3 a4 => hQ (.d (.int r)) _ H' F (hP r hr) (draw_spec rfl sF dO a1 a2 (by rw [hg]; exact a3) a4) (Dq.int r)
  | [], aO => exact aO.elim
  | [_], aO => exact aO.2.elim
  | _ :: _ :: _ :: _, aO => exact aO.2.2.elim
end Dl

namespace Dl
open PySem PySem.Spec PyProof.Rows L2
/-! ### the deck is made -/
/-- names: script, cells, stirred, cell -/
def t_deckC (K : PySem.W.Frag) : TS :=
  tSeq (tPar 1 2 (tCons (tLc (iList K (tSl (rSlL K) (tVar 0) tNoPart (tPart (tC (.int 63))))) (gName 3) tYes
      (tOp rAddI (tOp rMulI (tC (.int 2)) (tCB rAbs (tCons (tVar 3) tNil))) (tCB rToInt (tCons (tOp rLtI (tVar 3) (tC (.int 0))) tNil))) [3])
    (tCons (tOp rAddI (tC (.int 71003)) (tCB (rLenSq K) (tCons (tVar 0) tNil))) tNil)))
  (tSeq (tFor (iList K (tVar 1)) (gName 3) (tAsg (tOp rModI (tCB rToInt (tCons (tOp rAddI (tOp rAddI (tOp rMulI (tVar 2) (tC (.int 16807))) (tVar 3)) (tC (.int 5))) tNil)) (tC (.int 4294967291))) (gName 2)))
  (tRet (tLst (tCons (tLc (iList K (tVar 1)) (gName 3) (tTest (tOp L2.rGe (tVar 3) (tOp rPowI (tC (.int 10)) (tC (.int 15))))) (tVar 3) [3]) (tCons (tVar 2) (tCons (tC (.int 0)) tNil))))))
theorem run_deckC {g : DG} (hg : g.dki = dkiC) (x1 x2 x3 x4 : Str) {vs : List V} {H : Hp} {Q : VK} {E : XK} (h : spDeck g vs H Q E) : t_deckC g.K { nx := fun _ H' => Q .non H', rt := Q } (start [x1, x2, x3, x4] vs) H := by
  obtain ⟨a, ns, rfl, hs, hl, hq⟩ := h
  show tSeq _ _ _ [some (.ref a), none, none, none] H
  refine st_seq ?_
  refine ⟨.ref a, rfl, 63, rfl, a, _, rfl, hs, fun p hp => ?_⟩
  have e60 : cutV (ns.map V.int) none (some 63) = (ns.take 63).map V.int := by
    rw [show (63 : Int) = ((63 : Nat) : Int) from rfl, cutV_take, List.map_take]
  rw [e60]
  have hp1 : upd H p (.lst ((ns.take 63).map V.int)) p = some (.lst ((ns.take 63).map V.int)) := upd_same
  have k1 : ∀ b o, H b = some o → upd H p (.lst ((ns.take 63).map V.int)) b = some o := fun b o e => by rw [upd_ne (ne_of_none e hp)]; exact e
  generalize upd H p (.lst ((ns.take 63).map V.int)) = H1 at hp1 k1
  refine ⟨p, rfl, ⟨_, SqL.of hp1⟩, fun D hD => ?_⟩
  have l60 : (ns.take 63).length < sizeLine := by rw [sizeLine_eq, List.length_take]; omega
  refine raw_lc (f := fun n => 2 * (n.natAbs : Int) + (if decide (n < 0) then 1 else 0)) (keep := fun _ => true) (SqL.of hp1) hD l60 (fun n H' _ => ⟨fun Q q => q, v_add (v_mul val_c (v_abs (val_var rfl)) (mulC_l (by decide))) (v_intb (v_ltb (val_var rfl) val_c))⟩) fun H2 hD2 k2 => ?_
  have hns : SqL g.K H2 a (ns.map V.int) := Same.seq (fun b o e => k2 b o (k1 b o e)) hs
  refine ⟨.ref a, rfl, a, _, rfl, .inl hns, _, _, rfl, rfl, _, _, rfl, ?_⟩
  have ef : (ns.take 63).filter (fun _ => true) = ns.take 63 := List.filter_eq_self.mpr fun _ _ => rfl
  rw [ef] at hD2
  generalize hc : (ns.take 63).map (fun n => 2 * (n.natAbs : Int) + (if decide (n < 0) then 1 else 0)) = cs at hD2
  have c0 : ∀ c ∈ cs, (0 : Int) ≤ c := by
    intro c hm
    rw [← hc] at hm
    obtain ⟨n, _, rfl⟩ := List.mem_map.mp hm
    split <;> omega
  have cl : cs.length ≤ 63 := by rw [← hc, List.length_map, List.length_take]; omega
  have kH : ∀ b o, H b = some o → H2 b = some o := fun b o e => k2 b o (k1 b o e)
  have nD : H D = none := by
    cases q : H D with
    | none => rfl
    | some o => rw [k1 _ _ q] at hD; cases hD
  have s0 : (0 : Int) ≤ 71003 + ((ns.map V.int).length : Int) ∧ 71003 + ((ns.map V.int).length : Int) < 4294967296 := by rw [List.length_map]; omega
  refine ⟨.ref D, rfl, D, rfl, ⟨_, SqL.of hD2⟩, ?_⟩
  refine for_list (K := g.K) (a := D) (xs := cs.map V.int) (fun i σ H' => H' = H2 ∧ ∃ (s : Int) (v : Option V), σ = [some (.ref a), some (.ref D), some (.int s), v] ∧ 0 ≤ s ∧ s < 4294967296) ⟨rfl, 71003 + ((ns.map V.int).length : Int), none, rfl, s0.1, s0.2⟩ (fun i σ H' _ p => by rw [p.1]; exact SqL.of hD2) ?_ ?_
  · rintro i x σ H' hx ⟨rfl, s, v, rfl, s1, s2⟩
    obtain ⟨n, hn, rfl⟩ : ∃ n, cs[i]? = some n ∧ V.int n = x := by
      rw [List.getElem?_map] at hx
      cases e : cs[i]? with
      | none => rw [e] at hx; cases hx
      | some n => rw [e] at hx; exact ⟨n, rfl, Option.some.inj hx⟩
    refine v_mod (v_int (v_add (v_add (v_mul (i := s) (val_var rfl) val_c (mulC_r (by decide))) (val_var (v := .int n) rfl)) val_c)) val_c (by decide) _ ?_
    have b := fmod_bd (s * 16807 + n + 5) (j := 4294967291) (by decide)
    exact ⟨rfl, _, _, rfl, b.1, by omega⟩
  · rintro σ H' ⟨rfl, s, v, rfl, s1, s2⟩
    refine ⟨.ref D, rfl, D, rfl, ⟨_, SqL.of hD2⟩, fun D2 hD2n => ?_⟩
    have nD2 : H D2 = none := by
      cases z : H D2 with
      | none => rfl
      | some o => rw [kH _ _ z] at hD2n; cases hD2n
    refine raw_lc (f := fun n => n) (keep := fun n => decide (10 ^ (15 : Int).toNat ≤ n)) (SqL.of hD2) hD2n (by rw [sizeLine_eq]; omega) (fun n H4 _ => ⟨v_ge (i := n) (j := 10 ^ (15 : Int).toNat) (val_var rfl) (v_pow (i := 10) (j := 15) val_c val_c ⟨by decide, by decide, by decide⟩), val_var (v := .int n) rfl⟩) fun H4 hg4 k4 => ?_
    refine ⟨.int s, rfl, by rw [sizeLine_eq]; show (3 : Nat) ≤ 16777216; omega, fun q hq0 => ?_⟩
    have nq : H q = none := by
      cases z : H q with
      | none => rfl
      | some o => rw [k4 _ _ (kH _ _ z)] at hq0; cases hq0
    have nqD : q ≠ D2 := fun z => by rw [z, hg4] at hq0; cases hq0
    refine hq q D2 _ nq nD2 (fun b o e => ?_) ⟨rfl, rfl, nqD, _, _, upd_same, by rw [upd_ne (Ne.symm nqD)]; exact hg4, ?_⟩
    · rw [upd_ne (fun z => by rw [z, nq] at e; cases e)]
      exact k4 _ _ (kH _ _ e)
    · rw [hg]
      refine ⟨s, 0, _, rfl, rfl, s1, s2, fun x hx => ?_, ?_⟩
      · rw [List.map_id'] at hx
        exact c0 x (List.mem_filter.mp hx).1
      · rw [List.length_map]
        exact Nat.le_trans (List.length_filter_le _ _) (by omega)
end Dl

namespace Dl
open PySem PySem.Spec PyProof.Rows L2

local macro_rules | `(tactic| walk_at "dl") => `(tactic| (simp (config := { maxSteps := 2000000, failIfUnchanged := false }) only [startE, startI, bodyI, slOf, List.map_cons, List.map_nil, List.length_cons, List.length_nil, List.cons_append, List.nil_append, List.append_nil, Nat.reduceAdd, Nat.reduceSub, List.replicate_succ, List.replicate_zero, List.getElem?_cons_zero, List.getElem?_cons_succ, List.getElem?_nil, List.set_cons_zero, List.set_cons_succ, Nat.zero_add,
  ↓wV_eq, ↓wC_eq, ↓wOp_eq, ↓wOp1_eq, ↓wB_eq, ↓wA_nil, ↓wA_cons, ↓wTup_eq, ↓wLst_eq, ↓wCall_eq, ↓wCallK_eq, ↓wIf_eq, ↓wAnd_eq, ↓wOr_eq, ↓tOf_eq, ↓tNotW_eq, ↓tAndW_eq, ↓tOrW_eq, ↓wIsE_eq, ↓toD_d, ↓toD_nw, ↓toD_bw, toD_deck, ↓calm_d, ↓calm_nw, ↓calm_bw, calm_deck, ↓hold_d, ↓hold_nw, ↓hold_bw, hold_deck, ↓holdAll_nil, ↓holdAll_cons, ↓toDs_nil, ↓toDs_d, ↓toDs_bw, argOf_d, argOf_bw, argOf_nw, argOf_deck,
  flat_int, flat_str, flat_bool, flat_none, flat_list, flat_tuple, flat_nw, ↓dAdd_int, ↓dAdd_str, ↓dAdd_list, ↓dAdd_tuple, ↓dSub_int, ↓dMul_int, ↓dMul_list, ↓dInt_int, ↓dNeg_int, ↓dEq_int, ↓dEq_str, ↓dNe_int, ↓dNe_str, ↓dCmp_int, ↓dAbs_int, ↓dInt1_int, ↓dInt1_bool, ↓dGcd_int, dIx_tm, dIx_lm, dIx_tm0, dIx_lm0, dIx_tm1, dIx_lm1, dIx_t0, dIx_t1, dIx_t2, dIx_t3, dIx_l0, dIx_l1, dIx_l2, dIx_tl, dIx_ll, dIx_s, dIx_s0, ↓dLen_list, ↓dLen_tuple, ↓dLen_str, ↓gTupW_eq, ↓gTupL_eq, ↓gNilW_eq, ↓gConsW_eq, ↓wiC_eq, ↓wiS_eq, itemsD_l, itemsD_t, cR1_eq, oR1_eq, cR2_e, oR2_e, rangeD0, rangeDn, subNat, subNat1, Int.reduceToNat, Int.toNat_natCast, intsD_map, boolsD_map, strsD_map, Option.some.injEq, exists_eq_left', sS_length, sS_append, one_beq, dIn_s, itemsL_l, itemsL_t, itemsL_s, cE_l, cE_t, cE_s, oE_l, oE_t, oE_s, cZ_tt, cZ_tl, cZ_lt, cZ_ll, cZ_ss, oZ_tt, oZ_tl, oZ_lt, oZ_ll, oZ_ss, signsD_sS, dJoin_s, cutS_s, cutA_from1, cutA_f1, cutA_t1, cutA_to, cutA_from, cutA_mid, List.length_map, List.length_range, true_and, and_true, beq_iff_eq, decide_eq_true_eq, Bool.not_eq_true', decide_eq_false_iff_not, beq_eq_false_iff_ne, ne_eq, not_true_eq_false, not_false_eq_true, eq_self, beq_self_eq_true, Bool.true_eq_false, List.take_succ_cons, List.take_zero, prm, List.filterMap_cons, List.filterMap_nil,
  ↓wSl_eq, ↓oNone_eq, ↓oSome_eq, ↓dSl_list, ↓dSl_tuple, ↓dSl_str, ↓wChain_eq, ↓wDisp_eq, ↓wDict0_eq, ↓wM_eq, ↓dSum_list, ↓dSum_tuple, ↓dMax_list, ↓dMax_two, ↓dMin_list, ↓dMin_two, ↓dLcm_int, ↓dAllAny_list, ↓dIsi_eq, ↓dList2_list, ↓dList2_tuple, ↓dList2_str, ↓dTuple2_list, ↓dTuple2_tuple, ↓dTuple2_str, ↓dIx_dictS, ↓dIx_dictI, ↓wApp_eq, ↓wAppPop_eq, ↓wExt_eq, ↓wLc_eq, ↓tYesW_eq, wipeE_nil, wipeE_cons, restE_nil, restE_cons, frzAll_nil, frzAll_cons, frz_nil, frz_zero, frz_succ, frzS_no, frzS_d, frzS_deck, frzS_opq, frzS_lst, getD_some, ↓wSto_eq, ↓toD_nwc, ↓toD_bwc, ↓ctoD_lst, ↓ctoD_dic, ↓calm_dic, ↓calm_ins, itemsD_s,
  ↓wSet_eq, ↓wSetD_eq, ↓wIns_eq, ↓wDUpd_eq, ↓wFld_eq, ↓wSetF_eq, ↓wMeth_eq, ↓wAsgH_eq, ↓hTup_eq, ↓hCons_eq, ↓hNil_eq, ↓hOf_eq, ↓hFld_eq, ↓hSub_eq, ↓wPar3DOO_eq, ↓dRev0_s, ↓dMulT_eq, ↓wPopS_eq, ↓wSetPop_eq, ↓wSetPopAt_eq, ↓dRev_list, dRev_s, ↓dLr1_eq, ↓dLr2_eq, ↓wParDO_eq, ↓wPar3O_eq, calm_opq, stE_opq, ↓wRet_eq, ↓wDrop_eq, ↓wIfS_eq, ↓wNext_eq, ↓wBreak_eq, ↓wCont_eq, ↓wPar_eq, ↓wParO_eq, ↓wPar3_eq, ↓wTryAs_eq, ↓wTryAsF_eq, ↓wAsF_one, ↓wRaise1_eq, ↓wIsF_eq, ↓wXf_eq, ↓wAsg_eq, ↓wForI_eq, ↓stE_d, ↓stE_nw, ↓stE_bw, ↓stE_deck, retR_d, retR_nw, bodyP_nx, bodyP_rd, bodyP_rn, bodyP_ex, ↓gN_eq, lit_dot, lit_nil, gTupF, dIx_f0, dIx_f1, dMul_s, dMul_sN, flat_fD, ↓lawE_eq, lawP_rt, lawP_nx, ite_self, if_true, if_false, Bool.false_eq_true, reduceIte]))

local macro_rules | `(tactic| walk_at "bd") => `(tactic| first | with_reducible assumption | ((with_reducible apply RB.bn); assumption) | ((with_reducible apply RB.bd); assumption) | ((with_reducible apply Bd.mul); (focus walk_at "bd"); (focus walk_at "bd")))
local macro_rules | `(tactic| walk_at "sd") => `(tactic| first | with_reducible assumption | with_reducible rfl | with_reducible exact True.intro | omega | with_reducible exact ⟨_, rfl⟩ | ((with_reducible apply smallI) <;> omega) | ((with_reducible apply dmLt); omega) | ((with_reducible apply slLe); omega) | ((with_reducible apply slLt); omega) | ((with_reducible apply slLe); (simp only [List.length_append, List.length_cons, List.length_nil, List.length_map, List.length_range, List.length_take, List.length_drop, List.length_reverse]); omega) | ((with_reducible apply slLt); (simp only [List.length_append, List.length_cons, List.length_nil, List.length_map, List.length_range, List.length_take, List.length_drop, List.length_reverse]); omega) | ((with_reducible apply rgOk) <;> omega) | ((with_reducible apply Bd.mc); (focus walk_at "bd"); (focus walk_at "bd"); decide) | ((with_reducible apply Bd.dc); (focus walk_at "bd"); (focus (first | assumption | omega)); decide))
local macro_rules | `(tactic| walk_at "w") => `(tactic| (walk_at "dl"; repeat ((with_reducible (refine And.intro ?_ ?_)); (focus walk_at "sd"); walk_at "dl")))
local macro_rules | `(tactic| walk_at "n") => `(tactic| ((with_reducible refine nx_of (by assumption) ?_); walk_at "w"))
local macro_rules | `(tactic| walk_at "t") => `(tactic| (walk_at "w"; with_reducible assumption))
local macro_rules | `(tactic| walk_at "g") => `(tactic| (walk_at "w"; (repeat ((first | with_reducible refine p_seq fun _ _ => ?_ | with_reducible refine nx_of (by assumption) ?_); walk_at "w")); try (with_reducible assumption)))


abbrev s_law_draw : FSem := sDraw
def s_greatest_divisor : FSem := fun us P Ex => ∃ a b : Int, us = [.d (.int a), .d (.int b)] ∧ P (.d (.int (Int.gcd a b)))

def w_greatest_divisor : WS := (wRet (wB dGcd [(wV 0), (wV 1)]))
theorem pure_greatest_divisor : ∀ us P Ex, s_greatest_divisor us P Ex → w_greatest_divisor (startE ["a", "b"] us) (bodyP P Ex) := by
  unfold w_greatest_divisor
  rintro us P Ex ⟨a, b, rfl, h⟩
  walk_at "w"
  exact h

def s_least_multiple : FSem := fun us P Ex => ∃ (b : Nat) (ns : List Int), us = [.d (.list (ns.map .int))] ∧ (∀ n ∈ ns, 0 < n ∧ n < 2 ^ b) ∧ ns.length * b ≤ 7990 ∧ b ≤ 7990 ∧ P (.d (.int (lcmL ns)))

def w_least_multiple : WS := (wSeq (wSetD 1 (wC (.int 1)))
    (wSeq (wForI (wiS (wV 0)) (gN 2) (wSetD 1 (wB dLcm [(wV 1), (wV 2)])))
    (wRet (wV 1))))
theorem pure_least_multiple : ∀ us P Ex, s_least_multiple us P Ex → w_least_multiple (startE ["numbers", "found", "number"] us) (bodyP P Ex) := by
  unfold w_least_multiple
  rintro us P Ex ⟨b, ns, rfl, hn, hl, hb, h⟩
  refine p_seq fun N hN => ?_
  walk_at "w"
  refine hN _ ?_
  refine p_seq fun N2 hN2 => ?_
  walk_at "w"
  refine p_forA (fun k e => ∃ t : Sl, e = [.d (.list (ns.map .int)), .d (.int (lcmL (ns.take k))), t]) ⟨_, rfl⟩ (fun i e K hi ⟨t, he⟩ hk => ?_) ?_
  · subst he
    walk_at "w"
    have hm := hn ns[i]! (getB_mem hi)
    obtain ⟨l1, l2, l3⟩ := lcmL_ok (ns := ns.take i) (b := b) fun n h => hn n (List.mem_of_mem_take h)
    rw [List.length_take, Nat.min_eq_left (by omega)] at l3
    have h1 : i * b ≤ ns.length * b := Nat.mul_le_mul_right b (by omega)
    have h2 : Bd b ns[i]! := Bd.of (by omega) hm.2
    refine ⟨LcmC.of l3 (by omega), LcmC.of (Nat.le_of_lt h2) (by omega), ?_⟩
    refine hk _ ⟨.d (.int ns[i]!), ?_⟩
    rw [List.take_succ_eq_append_getElem hi, lcmL_snoc, ← getElem!_pos ns i hi]
  · rintro e ⟨t, rfl⟩
    rw [List.take_length]
    refine hN2 _ ?_
    walk_at "w"
    exact h

def s_lowest : FSem := fun us P Ex => ∃ a b : Int, us = [.d (.int a), .d (.int b)] ∧ Bd 8000 b ∧ (b = 0 → Ex ⟨"Unfit", []⟩) ∧ (b ≠ 0 → P (.d (fD ((a : Rat) / (b : Rat)))))

def w_lowest : WS := (wSeq (wIfS (tOf (wOp dEq (wV 1) (wC (.int 0)))) (fun env P => P.ex ⟨"Unfit", []⟩ env) wNext)
    (wSeq (wSetD 2 (wIf (tOf (wOp dGt (wV 1) (wC (.int 0)))) (wB dGcd [(wV 0), (wV 1)]) (wOp1 dNeg (wB dGcd [(wV 0), (wV 1)]))))
    (wRet (wTup [(wOp (dInt Int.fdiv DivC) (wV 0) (wV 2)), (wOp (dInt Int.fdiv DivC) (wV 1) (wV 2))]))))
theorem pure_lowest : ∀ us P Ex, s_lowest us P Ex → w_lowest (startE ["a", "b", "divisor"] us) (bodyP P Ex) := by
  unfold w_lowest
  rintro us P Ex ⟨a, b, rfl, hb, h0, h1⟩
  refine p_seq fun N hN => ?_
  walk_at "w"
  by_cases z : b = 0
  · rw [if_pos z]
    exact h0 z
  · rw [if_neg z]
    refine hN _ ?_
    refine p_seq fun N2 hN2 => ?_
    have k := h1 z
    rw [← frD_fD z] at k
    have hd := (cdv_bd (a := a) z hb).divC (cdv_ne z) (by decide) (by decide) (i := a)
    have he := (cdv_bd (a := a) z hb).divC (cdv_ne z) (by decide) (by decide) (i := b)
    unfold frD frP frQ at k
    walk_at "w"
    by_cases c : 0 < b
    · have e : cdv a b = (Int.gcd a b : Int) := if_neg (by omega)
      rw [e] at hd he k
      rw [if_pos c]
      refine hN2 _ ?_
      walk_at "w"
      exact k
    · have e : cdv a b = -(Int.gcd a b : Int) := if_pos (by omega)
      rw [e] at hd he k
      rw [if_neg c]
      refine hN2 _ ?_
      walk_at "w"
      exact k

end Dl

namespace Dl
open PySem PySem.Spec PyProof.Rows L2

local macro_rules | `(tactic| walk_at "dl") => `(tactic| (simp (config := { maxSteps := 2000000, failIfUnchanged := false }) only [startE, startI, bodyI, slOf, List.map_cons, List.map_nil, List.length_cons, List.length_nil, List.cons_append, List.nil_append, List.append_nil, Nat.reduceAdd, Nat.reduceSub, List.replicate_succ, List.replicate_zero, List.getElem?_cons_zero, List.getElem?_cons_succ, List.getElem?_nil, List.set_cons_zero, List.set_cons_succ, Nat.zero_add,
  ↓wV_eq, ↓wC_eq, ↓wOp_eq, ↓wOp1_eq, ↓wB_eq, ↓wA_nil, ↓wA_cons, ↓wTup_eq, ↓wLst_eq, ↓wCall_eq, ↓wCallK_eq, ↓wIf_eq, ↓wAnd_eq, ↓wOr_eq, ↓tOf_eq, ↓tNotW_eq, ↓tAndW_eq, ↓tOrW_eq, ↓wIsE_eq, ↓toD_d, ↓toD_nw, ↓toD_bw, toD_deck, ↓calm_d, ↓calm_nw, ↓calm_bw, calm_deck, ↓hold_d, ↓hold_nw, ↓hold_bw, hold_deck, ↓holdAll_nil, ↓holdAll_cons, ↓toDs_nil, ↓toDs_d, ↓toDs_bw, argOf_d, argOf_bw, argOf_nw, argOf_deck,
  flat_int, flat_str, flat_bool, flat_none, flat_list, flat_tuple, flat_nw, ↓dAdd_int, ↓dAdd_str, ↓dAdd_list, ↓dAdd_tuple, ↓dSub_int, ↓dMul_int, ↓dMul_list, ↓dInt_int, ↓dNeg_int, ↓dEq_int, ↓dEq_str, ↓dNe_int, ↓dNe_str, ↓dCmp_int, ↓dAbs_int, ↓dInt1_int, ↓dInt1_bool, ↓dGcd_int, dIx_tm, dIx_lm, dIx_tm0, dIx_lm0, dIx_tm1, dIx_lm1, dIx_t0, dIx_t1, dIx_t2, dIx_t3, dIx_l0, dIx_l1, dIx_l2, dIx_tl, dIx_ll, dIx_s, dIx_s0, ↓dLen_list, ↓dLen_tuple, ↓dLen_str, ↓gTupW_eq, ↓gTupL_eq, ↓gNilW_eq, ↓gConsW_eq, ↓wiC_eq, ↓wiS_eq, itemsD_l, itemsD_t, cR1_eq, oR1_eq, cR2_e, oR2_e, rangeD0, rangeDn, subNat, subNat1, Int.reduceToNat, Int.toNat_natCast, intsD_map, boolsD_map, strsD_map, Option.some.injEq, exists_eq_left', sS_length, sS_append, one_beq, dIn_s, itemsL_l, itemsL_t, itemsL_s, cE_l, cE_t, cE_s, oE_l, oE_t, oE_s, cZ_tt, cZ_tl, cZ_lt, cZ_ll, cZ_ss, oZ_tt, oZ_tl, oZ_lt, oZ_ll, oZ_ss, signsD_sS, dJoin_s, cutS_s, cutA_from1, cutA_f1, cutA_t1, cutA_to, cutA_from, cutA_mid, List.length_map, List.length_range, true_and, and_true, beq_iff_eq, decide_eq_true_eq, Bool.not_eq_true', decide_eq_false_iff_not, beq_eq_false_iff_ne, ne_eq, not_true_eq_false, not_false_eq_true, eq_self, beq_self_eq_true, Bool.true_eq_false, List.take_succ_cons, List.take_zero, prm, List.filterMap_cons, List.filterMap_nil,
  ↓wSl_eq, ↓oNone_eq, ↓oSome_eq, ↓dSl_list, ↓dSl_tuple, ↓dSl_str, ↓wChain_eq, ↓wDisp_eq, ↓wDict0_eq, ↓wM_eq, ↓dSum_list, ↓dSum_tuple, ↓dMax_list, ↓dMax_two, ↓dMin_list, ↓dMin_two, ↓dLcm_int, ↓dAllAny_list, ↓dIsi_eq, ↓dList2_list, ↓dList2_tuple, ↓dList2_str, ↓dTuple2_list, ↓dTuple2_tuple, ↓dTuple2_str, ↓dIx_dictS, ↓dIx_dictI, ↓wApp_eq, ↓wAppPop_eq, ↓wExt_eq, ↓wLc_eq, ↓tYesW_eq, wipeE_nil, wipeE_cons, restE_nil, restE_cons, frzAll_nil, frzAll_cons, frz_nil, frz_zero, frz_succ, frzS_no, frzS_d, frzS_deck, frzS_opq, frzS_lst, getD_some, ↓wSto_eq, ↓toD_nwc, ↓toD_bwc, ↓ctoD_lst, ↓ctoD_dic, ↓calm_dic, ↓calm_ins, itemsD_s,
  ↓wSet_eq, ↓wSetD_eq, ↓wIns_eq, ↓wDUpd_eq, ↓wFld_eq, ↓wSetF_eq, ↓wMeth_eq, ↓wAsgH_eq, ↓hTup_eq, ↓hCons_eq, ↓hNil_eq, ↓hOf_eq, ↓hFld_eq, ↓hSub_eq, ↓wPar3DOO_eq, ↓dRev0_s, ↓dMulT_eq, ↓wPopS_eq, ↓wSetPop_eq, ↓wSetPopAt_eq, ↓dRev_list, dRev_s, ↓dLr1_eq, ↓dLr2_eq, ↓wParDO_eq, ↓wPar3O_eq, calm_opq, stE_opq, ↓wRet_eq, ↓wDrop_eq, ↓wIfS_eq, ↓wNext_eq, ↓wBreak_eq, ↓wCont_eq, ↓wPar_eq, ↓wParO_eq, ↓wPar3_eq, ↓wTryAs_eq, ↓wTryAsF_eq, ↓wAsF_one, ↓wRaise1_eq, ↓wIsF_eq, ↓wXf_eq, ↓wAsg_eq, ↓wForI_eq, ↓stE_d, ↓stE_nw, ↓stE_bw, ↓stE_deck, retR_d, retR_nw, bodyP_nx, bodyP_rd, bodyP_rn, bodyP_ex, ↓gN_eq, lit_dot, lit_nil, gTupF, dIx_f0, dIx_f1, dMul_s, dMul_sN, flat_fD, ↓lawE_eq, lawP_rt, lawP_nx, ite_self, if_true, if_false, Bool.false_eq_true, reduceIte]))

local macro_rules | `(tactic| walk_at "bd") => `(tactic| first | with_reducible assumption | ((with_reducible apply RB.bn); assumption) | ((with_reducible apply RB.bd); assumption) | ((with_reducible apply Bd.mul); (focus walk_at "bd"); (focus walk_at "bd")))
local macro_rules | `(tactic| walk_at "sd") => `(tactic| first | with_reducible assumption | with_reducible rfl | with_reducible exact True.intro | omega | with_reducible exact ⟨_, rfl⟩ | ((with_reducible apply smallI) <;> omega) | ((with_reducible apply dmLt); omega) | ((with_reducible apply slLe); omega) | ((with_reducible apply slLt); omega) | ((with_reducible apply slLe); (simp only [List.length_append, List.length_cons, List.length_nil, List.length_map, List.length_range, List.length_take, List.length_drop, List.length_reverse]); omega) | ((with_reducible apply slLt); (simp only [List.length_append, List.length_cons, List.length_nil, List.length_map, List.length_range, List.length_take, List.length_drop, List.length_reverse]); omega) | ((with_reducible apply rgOk) <;> omega) | ((with_reducible apply Bd.mc); (focus walk_at "bd"); (focus walk_at "bd"); decide) | ((with_reducible apply Bd.dc); (focus walk_at "bd"); (focus (first | assumption | omega)); decide))
local macro_rules | `(tactic| walk_at "w") => `(tactic| (walk_at "dl"; repeat ((with_reducible (refine And.intro ?_ ?_)); (focus walk_at "sd"); walk_at "dl")))
local macro_rules | `(tactic| walk_at "n") => `(tactic| ((with_reducible refine nx_of (by assumption) ?_); walk_at "w"))
local macro_rules | `(tactic| walk_at "t") => `(tactic| (walk_at "w"; with_reducible assumption))
local macro_rules | `(tactic| walk_at "g") => `(tactic| (walk_at "w"; (repeat ((first | with_reducible refine p_seq fun _ _ => ?_ | with_reducible refine nx_of (by assumption) ?_); walk_at "w")); try (with_reducible assumption)))

theorem fD_one : (PyData.tuple [.int 1, .int 1]) = fD 1 := rfl
theorem natPred {k : Nat} (h : k ≠ 0) : ((k : Int) - 1) = ((k - 1 : Nat) : Int) := by omega

def s_scaled : FSem := fun us P Ex => ∃ (b m : Nat) (ls : List (List Int)), us = [.d (lnsD ls)] ∧ (∀ l ∈ ls, LnOk b m l) ∧ ls.length ≤ 6 ∧ 6 * b ≤ 7900 ∧ m ≤ 1000 ∧ P (.d (.tuple [.list ((scl (lcmL (ls.map List.sum)) ls).map llD), .int (lcmL (ls.map List.sum))]))

def w_scaled : WS := (wSeq (wSetD 1 (wCall s_least_multiple [(wLc [2] (wiS (wV 0)) (gN 2) tYesW (wB dSum [(wV 2)]))]))
    (wRet (wTup [(wLc [2] (wiS (wV 0)) (gN 2) tYesW (wLc [3] (wiS (wV 2)) (gN 3) tYesW (wOp dMul (wV 3) (wOp (dInt Int.fdiv DivC) (wV 1) (wB dSum [(wV 2)]))))), (wV 1)])))
theorem pure_scaled : ∀ us P Ex, s_scaled us P Ex → w_scaled (startE ["lines", "common", "line", "weight"] us) (bodyP P Ex) := by
  unfold w_scaled
  rintro us P Ex ⟨b, m, ls, rfl, hl, hn, hb, hm, h⟩
  have hs : ∀ x ∈ ls.map List.sum, 0 < x ∧ x < 2 ^ b := fun x hx => by
    obtain ⟨l, hm2, rfl⟩ := List.mem_map.mp hx
    exact ⟨(hl l hm2).pos, (hl l hm2).bd⟩
  have hlb : (ls.map List.sum).length * b ≤ 7900 := by
    rw [List.length_map]
    exact Nat.le_trans (Nat.mul_le_mul_right b hn) hb
  obtain ⟨l1, l2, l3⟩ := lcmL_ok hs
  have hL : Bd 8000 (lcmL (ls.map List.sum)) := Nat.lt_of_le_of_lt l3 (Nat.pow_lt_pow_right (by decide) (by omega))
  walk_at "g"
  refine p_lcA PyData.int List.sum (fun l hm2 K' ac hk => by walk_at "t") ?_
  refine ⟨b, _, rfl, hs, by omega, by omega, ?_⟩
  generalize lcmL (ls.map List.sum) = L at *
  walk_at "g"
  refine p_lcA llD (fun l => l.map fun w => w * (L / l.sum)) (fun l hm2 K' ac hk => ?_) ?_
  · have hlo := hl l hm2
    have e1 := hlo.len
    walk_at "w"
    refine p_lcA PyData.int (fun w => w * (L / l.sum)) (fun x hx K' ac hk => ?_) ?_
    · have hd : DivC L l.sum := (hlo.sbd.mono (n := 8000) (by omega)).dc hlo.ne (by decide)
      have hx2 : Bd b x := Bd.of (hlo.nn x hx) (Int.lt_of_le_of_lt (sum_ge hlo.nn hx) hlo.bd)
      have hq : Bd 8000 (L / l.sum) := hL.le (Int.natAbs_ediv_le_natAbs ..)
      rw [show L / l.sum = L.fdiv l.sum from (Int.fdiv_eq_ediv_of_nonneg _ (Int.le_of_lt hlo.pos)).symm] at *
      have hmc : MulC x (L.fdiv l.sum) := hx2.mc hq (by omega)
      walk_at "t"
    · walk_at "t"
  · walk_at "g"

def s_gone_on : FSem := fun us P Ex => ∃ (n : Nat) (row : List Int) (ls : List (List Int)), us = [.d (.list (row.map .int)), .d (.list (ls.map llD))] ∧ row.length = n ∧ ls.length = n ∧ (∀ l ∈ ls, l.length = n) ∧ n ≤ 1000 ∧ (∀ x ∈ row, Bd 20000 x) ∧ (∀ l ∈ ls, ∀ x ∈ l, Bd 20000 x) ∧
  P (.nw (.lst (((List.range n).map fun j => sgi n fun i => row[i]! * ls[i]![j]!).map .int)))

def w_gone_on : WS := (wRet (wLc [4] (wiC cR1 oR1 [(wB dLen [(wV 0)])]) (gN 4) tYesW (wB dSum [(wLc [2, 3] (wiC cZ oZ [(wV 0), (wV 1)]) (gTupW 2 (gConsW (gN 2) (gConsW (gN 3) gNilW))) tYesW (wOp dMul (wV 2) (wOp dIx (wV 3) (wV 4))))])))
theorem pure_gone_on : ∀ us P Ex, s_gone_on us P Ex → w_gone_on (startE ["row", "steps", "number", "line", "state"] us) (bodyP P Ex) := by
  unfold w_gone_on
  rintro us P Ex ⟨n, row, ls, rfl, hn, hn2, hl, hn3, hr, hx, h⟩
  walk_at "g"
  refine p_lcD PyData.int (fun j => sgi n fun i => row[i]! * ls[i]![j]!) (fun j hj K' ac hk => ?_) ?_
  · walk_at "w"
    refine p_lcD PyData.int (fun i => row[i]! * ls[i]![j]!) (fun i hi K' ac hk => ?_) ?_
    · have e1 := hl ls[i]! (getB_mem (by omega))
      have b1 := hr row[i]! (getB_mem (by omega))
      have b2 := hx ls[i]! (getB_mem (by omega)) ls[i]![j]! (getB_mem (by omega))
      walk_at "t"
    · walk_at "w"
      rw [sum_map_range, show min row.length ls.length = n by omega]
      exact hk
  · rw [hn]
    walk_at "g"

end Dl

namespace Dl
open PySem PySem.Spec PyProof.Rows L2

local macro_rules | `(tactic| walk_at "dl") => `(tactic| (simp (config := { maxSteps := 2000000, failIfUnchanged := false }) only [startE, startI, bodyI, slOf, List.map_cons, List.map_nil, List.length_cons, List.length_nil, List.cons_append, List.nil_append, List.append_nil, Nat.reduceAdd, Nat.reduceSub, List.replicate_succ, List.replicate_zero, List.getElem?_cons_zero, List.getElem?_cons_succ, List.getElem?_nil, List.set_cons_zero, List.set_cons_succ, Nat.zero_add,
  ↓wV_eq, ↓wC_eq, ↓wOp_eq, ↓wOp1_eq, ↓wB_eq, ↓wA_nil, ↓wA_cons, ↓wTup_eq, ↓wLst_eq, ↓wCall_eq, ↓wCallK_eq, ↓wIf_eq, ↓wAnd_eq, ↓wOr_eq, ↓tOf_eq, ↓tNotW_eq, ↓tAndW_eq, ↓tOrW_eq, ↓wIsE_eq, ↓toD_d, ↓toD_nw, ↓toD_bw, toD_deck, ↓calm_d, ↓calm_nw, ↓calm_bw, calm_deck, ↓hold_d, ↓hold_nw, ↓hold_bw, hold_deck, ↓holdAll_nil, ↓holdAll_cons, ↓toDs_nil, ↓toDs_d, ↓toDs_bw, argOf_d, argOf_bw, argOf_nw, argOf_deck,
  flat_int, flat_str, flat_bool, flat_none, flat_list, flat_tuple, flat_nw, ↓dAdd_int, ↓dAdd_str, ↓dAdd_list, ↓dAdd_tuple, ↓dSub_int, ↓dMul_int, ↓dMul_list, ↓dInt_int, ↓dNeg_int, ↓dEq_int, ↓dEq_str, ↓dNe_int, ↓dNe_str, ↓dCmp_int, ↓dAbs_int, ↓dInt1_int, ↓dInt1_bool, ↓dGcd_int, dIx_tm, dIx_lm, dIx_tm0, dIx_lm0, dIx_tm1, dIx_lm1, dIx_t0, dIx_t1, dIx_t2, dIx_t3, dIx_l0, dIx_l1, dIx_l2, dIx_tl, dIx_ll, dIx_s, dIx_s0, ↓dLen_list, ↓dLen_tuple, ↓dLen_str, ↓gTupW_eq, ↓gTupL_eq, ↓gNilW_eq, ↓gConsW_eq, ↓wiC_eq, ↓wiS_eq, itemsD_l, itemsD_t, cR1_eq, oR1_eq, cR2_e, oR2_e, rangeD0, rangeDn, subNat, subNat1, Int.reduceToNat, Int.toNat_natCast, intsD_map, boolsD_map, strsD_map, Option.some.injEq, exists_eq_left', sS_length, sS_append, one_beq, dIn_s, itemsL_l, itemsL_t, itemsL_s, cE_l, cE_t, cE_s, oE_l, oE_t, oE_s, cZ_tt, cZ_tl, cZ_lt, cZ_ll, cZ_ss, oZ_tt, oZ_tl, oZ_lt, oZ_ll, oZ_ss, signsD_sS, dJoin_s, cutS_s, cutA_from1, cutA_f1, cutA_t1, cutA_to, cutA_from, cutA_mid, List.length_map, List.length_range, true_and, and_true, beq_iff_eq, decide_eq_true_eq, Bool.not_eq_true', decide_eq_false_iff_not, beq_eq_false_iff_ne, ne_eq, not_true_eq_false, not_false_eq_true, eq_self, beq_self_eq_true, Bool.true_eq_false, List.take_succ_cons, List.take_zero, prm, List.filterMap_cons, List.filterMap_nil,
  ↓wSl_eq, ↓oNone_eq, ↓oSome_eq, ↓dSl_list, ↓dSl_tuple, ↓dSl_str, ↓wChain_eq, ↓wDisp_eq, ↓wDict0_eq, ↓wM_eq, ↓dSum_list, ↓dSum_tuple, ↓dMax_list, ↓dMax_two, ↓dMin_list, ↓dMin_two, ↓dLcm_int, ↓dAllAny_list, ↓dIsi_eq, ↓dList2_list, ↓dList2_tuple, ↓dList2_str, ↓dTuple2_list, ↓dTuple2_tuple, ↓dTuple2_str, ↓dIx_dictS, ↓dIx_dictI, ↓wApp_eq, ↓wAppPop_eq, ↓wExt_eq, ↓wLc_eq, ↓tYesW_eq, wipeE_nil, wipeE_cons, restE_nil, restE_cons, frzAll_nil, frzAll_cons, frz_nil, frz_zero, frz_succ, frzS_no, frzS_d, frzS_deck, frzS_opq, frzS_lst, getD_some, ↓wSto_eq, ↓toD_nwc, ↓toD_bwc, ↓ctoD_lst, ↓ctoD_dic, ↓calm_dic, ↓calm_ins, itemsD_s,
  ↓wSet_eq, ↓wSetD_eq, ↓wIns_eq, ↓wDUpd_eq, ↓wFld_eq, ↓wSetF_eq, ↓wMeth_eq, ↓wAsgH_eq, ↓hTup_eq, ↓hCons_eq, ↓hNil_eq, ↓hOf_eq, ↓hFld_eq, ↓hSub_eq, ↓wPar3DOO_eq, ↓dRev0_s, ↓dMulT_eq, ↓wPopS_eq, ↓wSetPop_eq, ↓wSetPopAt_eq, ↓dRev_list, dRev_s, ↓dLr1_eq, ↓dLr2_eq, ↓wParDO_eq, ↓wPar3O_eq, calm_opq, stE_opq, ↓wRet_eq, ↓wDrop_eq, ↓wIfS_eq, ↓wNext_eq, ↓wBreak_eq, ↓wCont_eq, ↓wPar_eq, ↓wParO_eq, ↓wPar3_eq, ↓wTryAs_eq, ↓wTryAsF_eq, ↓wAsF_one, ↓wRaise1_eq, ↓wIsF_eq, ↓wXf_eq, ↓wAsg_eq, ↓wForI_eq, ↓stE_d, ↓stE_nw, ↓stE_bw, ↓stE_deck, retR_d, retR_nw, bodyP_nx, bodyP_rd, bodyP_rn, bodyP_ex, ↓gN_eq, lit_dot, lit_nil, gTupF, dIx_f0, dIx_f1, dMul_s, dMul_sN, flat_fD, ↓lawE_eq, lawP_rt, lawP_nx, ite_self, if_true, if_false, Bool.false_eq_true, reduceIte]))

local macro_rules | `(tactic| walk_at "bd") => `(tactic| first | with_reducible assumption | ((with_reducible apply RB.bn); assumption) | ((with_reducible apply RB.bd); assumption) | ((with_reducible apply Bd.mul); (focus walk_at "bd"); (focus walk_at "bd")))
local macro_rules | `(tactic| walk_at "sd") => `(tactic| first | with_reducible assumption | with_reducible rfl | with_reducible exact True.intro | omega | with_reducible exact ⟨_, rfl⟩ | ((with_reducible apply smallI) <;> omega) | ((with_reducible apply dmLt); omega) | ((with_reducible apply slLe); omega) | ((with_reducible apply slLt); omega) | ((with_reducible apply slLe); (simp only [List.length_append, List.length_cons, List.length_nil, List.length_map, List.length_range, List.length_take, List.length_drop, List.length_reverse]); omega) | ((with_reducible apply slLt); (simp only [List.length_append, List.length_cons, List.length_nil, List.length_map, List.length_range, List.length_take, List.length_drop, List.length_reverse]); omega) | ((with_reducible apply rgOk) <;> omega) | ((with_reducible apply Bd.mc); (focus walk_at "bd"); (focus walk_at "bd"); decide) | ((with_reducible apply Bd.dc); (focus walk_at "bd"); (focus (first | assumption | omega)); decide))
local macro_rules | `(tactic| walk_at "w") => `(tactic| (walk_at "dl"; repeat ((with_reducible (refine And.intro ?_ ?_)); (focus walk_at "sd"); walk_at "dl")))
local macro_rules | `(tactic| walk_at "n") => `(tactic| ((with_reducible refine nx_of (by assumption) ?_); walk_at "w"))
local macro_rules | `(tactic| walk_at "t") => `(tactic| (walk_at "w"; with_reducible assumption))
local macro_rules | `(tactic| walk_at "g") => `(tactic| (walk_at "w"; (repeat ((first | with_reducible refine p_seq fun _ _ => ?_ | with_reducible refine nx_of (by assumption) ?_); walk_at "w")); try (with_reducible assumption)))

/-! an instance of Scales, told as data -/
def scF : List Str := ["signs", "start", "begun", "steps", "step_whole", "tells", "tell_whole", "beat"]
def scV (c : Ch) : List PyData := [.str (sS c.sgs), llD c.st, .int c.st.sum, .list ((scl (LL c) c.sp).map llD), .int (LL c), .list ((scl (MM c) c.tl).map llD), .int (MM c), .int (LL c * MM c)]
def scI (c : Ch) : PyData := .dict (insD "Scales" scF (scV c))
theorem scI_fold {c : Ch} : PyData.dict (insD "Scales" scF (scV c)) = scI c := rfl
section
variable {c : Ch} {K : R → Prop}
theorem dFld_of {f : Str} {ks : List Str} {xs : List PyData} {y : PyData} (h : (ks.zip xs).lookup f = some y) : dFld f ks xs K = K (.d y) :=
  propext ⟨fun ⟨z, h1, h2⟩ => by rw [h] at h1; cases h1; exact h2, fun q => ⟨y, h, q⟩⟩
theorem fl_signs : dFld "signs" scF (scV c) K = K (.d (.str (sS c.sgs))) := dFld_of rfl
theorem fl_start : dFld "start" scF (scV c) K = K (.d (llD c.st)) := dFld_of rfl
theorem fl_begun : dFld "begun" scF (scV c) K = K (.d (.int c.st.sum)) := dFld_of rfl
theorem fl_steps : dFld "steps" scF (scV c) K = K (.d (.list ((scl (LL c) c.sp).map llD))) := dFld_of rfl
theorem fl_stepw : dFld "step_whole" scF (scV c) K = K (.d (.int (LL c))) := dFld_of rfl
theorem fl_tells : dFld "tells" scF (scV c) K = K (.d (.list ((scl (MM c) c.tl).map llD))) := dFld_of rfl
theorem fl_tellw : dFld "tell_whole" scF (scV c) K = K (.d (.int (MM c))) := dFld_of rfl
theorem fl_beat : dFld "beat" scF (scV c) K = K (.d (.int (LL c * MM c))) := dFld_of rfl
theorem sc_f {f : Str} {K : R → Prop} (h : dFld f scF (scV c) K) : ∃ ks xs, scI c = .dict (insD "Scales" ks xs) ∧ ks.length = xs.length ∧ dFld f ks xs K := ⟨scF, scV c, rfl, rfl, h⟩
end
theorem Ln_row {c : Ch} : c.st = (List.range c.st.length).map fun j => c.st[j]! := eq_map_range rfl fun _ _ => rfl
local macro_rules | `(tactic| walk_at "fs") => `(tactic| (refine sc_f ?_; simp only [fl_signs, fl_start, fl_begun, fl_steps, fl_stepw, fl_tells, fl_tellw, fl_beat]; walk_at "w"))

def s_wall : FSem := fun us P Ex => False

def w_wall : WS := (wWhile (tOf (wC (.bool true))) wNext)
theorem pure_wall : ∀ us P Ex, s_wall us P Ex → w_wall (startE ["k"] us) (bodyP P Ex) := by
  unfold w_wall
  intro us P Ex h
  exact h.elim

def s_Scales_told : FSem := fun us P Ex => ∃ (b sb s : Nat) (c : Ch) (row : List Int), us = [.d (scI c), .d (llD row), .d (.str (sS [s]))] ∧ ChOk b c sb ∧ s ∈ c.sgs ∧ b ≤ 2000 ∧ row.length = c.st.length ∧ (∀ x ∈ row, Bd 400000 x) ∧ P (.nw (.lst (((List.range c.st.length).map fun j => row[j]! * (scl (MM c) c.tl)[j]![c.sgs.idxOf s]!).map .int)))

def w_Scales_told : WS := (wSeq (wSetD 3 (wM dSIndex (wFld "Scales" "signs" (wV 0)) [(wV 2)]))
    (wRet (wLc [4, 5] (wiC cZ oZ [(wV 1), (wFld "Scales" "tells" (wV 0))]) (gTupW 2 (gConsW (gN 4) (gConsW (gN 5) gNilW))) tYesW (wOp dMul (wV 4) (wOp dIx (wV 5) (wV 3))))))
theorem pure_Scales_told : ∀ us P Ex, s_Scales_told us P Ex → w_Scales_told (startE ["self", "line", "sign", "place", "number", "tells"] us) (bodyP P Ex) := by
  unfold w_Scales_told
  rintro us P Ex ⟨b, sb, s, c, row, rfl, hc, hs, hb, hl, hr, h⟩
  have hix := hc.ix hs
  have e1 := hc.tll
  have e6 := hc.n6
  walk_at "w"
  refine p_seq fun N hN => ?_
  walk_at "w"
  walk_at "fs"
  refine dSIndex_s hc.nd hs ?_
  refine hN _ ?_
  walk_at "w"
  walk_at "fs"
  refine p_lcD PyData.int (fun j => row[j]! * (scl (MM c) c.tl)[j]![c.sgs.idxOf s]!) (fun j hj K' ac hk => ?_) ?_
  · have hj' : j < c.st.length := by omega
    have b1 := hr row[j]! (getB_mem (by omega))
    have b2 := (tl_at hc hj' hix).2
    have e2 := scl_row (L := MM c) hc.tl (i := j) (by omega)
    have m := b1.mc b2 (by omega)
    walk_at "t"
  · rw [show min row.length c.tl.length = c.st.length by omega]
    walk_at "g"

def s_told_on : FSem := fun us P Ex => ∃ (b sb s : Nat) (c : Ch) (row : List Int) (w : Int), us = [.d (scI c), .d (llD row), .d (.int w), .d (.str (sS [s]))] ∧ ChOk b c sb ∧ (s = 46 ∨ s ∈ c.sgs) ∧ b ≤ 2000 ∧ row.length = c.st.length ∧ (∀ x ∈ row, Bd 400000 x) ∧ Bd 400000 w ∧ P (.d (.tuple [llD ((List.range c.st.length).map fun j => row[j]! * toI c j s), .int (w * uM c s)]))

def w_told_on : WS := (wSeq (wIfS (tOf (wOp dEq (wV 3) (wC (.str ".")))) (wRet (wTup [(wV 1), (wV 2)])) wNext)
    (wRet (wTup [(wMeth "Scales" "told" s_Scales_told (wV 0) [(wV 1), (wV 3)]), (wOp dMul (wV 2) (wFld "Scales" "tell_whole" (wV 0)))])))
theorem pure_told_on : ∀ us P Ex, s_told_on us P Ex → w_told_on (startE ["scales", "line", "whole", "sign"] us) (bodyP P Ex) := by
  unfold w_told_on
  rintro us P Ex ⟨b, sb, s, c, row, w, rfl, hc, hs, hb, hl, hr, hw, h⟩
  walk_at "w"
  refine p_seq fun N hN => ?_
  walk_at "w"
  refine if_both (fun z => ?_) fun z => ?_
  · have e1 : (List.range c.st.length).map (fun j => row[j]! * toI c j s) = row := by
      refine (eq_map_range hl fun j _ => ?_).symm
      rw [show toI c j s = 1 from if_pos z, Int.mul_one]
    have e2 : uM c s = 1 := if_neg (by omega)
    rw [e1, e2, Int.mul_one] at h
    walk_at "g"
  · have e1 : ∀ j, toI c j s = (scl (MM c) c.tl)[j]![c.sgs.idxOf s]! := fun j => if_neg z
    have e2 : uM c s = MM c := if_pos z
    simp only [e1, e2] at h
    have m := hw.mc (MM_ok hc).2.2 (by omega)
    refine hN _ ?_
    walk_at "w"
    refine ⟨scF, scV c, rfl, rfl, by decide, ?_⟩
    rw [scI_fold]
    walk_at "w"
    refine ⟨b, sb, s, c, row, rfl, hc, hs.resolve_left z, hb, hl, hr, ?_⟩
    walk_at "w"
    walk_at "fs"
    exact h

def s_ahead_lines : FSem := fun us P Ex => ∃ (b sb : Nat) (v : List Nat) (c : Ch), us = [.d (scI c), .d (.str (sS v))] ∧ ChOk b c sb ∧ 1 ≤ b ∧ b ≤ 600 ∧ VwOk c v ∧ sb + v.length * (12 * b + 8) ≤ 19000 ∧ v.length ≤ 1000 ∧ P (.nw (.lst ((List.range v.length).map fun k => .tuple [llD ((List.range c.st.length).map (raI c v (k + 1))), .int (undK c v (k + 1))])))

def w_ahead_lines : WS := (wSeq (wPar3O 2 3 4 (wLst []) (wFld "Scales" "start" (wV 0)) (wFld "Scales" "begun" (wV 0)))
    (wSeq (wForI (wiC cE oE [(wV 1)]) (gTupW 2 (gConsW (gN 5) (gConsW (gN 6) gNilW))) (wSeq (wIfS (tOf (wOp dGt (wV 5) (wC (.int 0)))) (wPar 3 4 (wCall s_gone_on [(wV 3), (wFld "Scales" "steps" (wV 0))]) (wOp dMul (wV 4) (wFld "Scales" "step_whole" (wV 0)))) wNext)
    (wSeq (wAsg (wCall s_told_on [(wV 0), (wV 3), (wV 4), (wV 6)]) (gTupW 2 (gConsW (gN 3) (gConsW (gN 4) gNilW))))
    (wApp 2 (wTup [(wV 3), (wV 4)])))))
    (wRet (wV 2))))
theorem pure_ahead_lines : ∀ us P Ex, s_ahead_lines us P Ex → w_ahead_lines (startE ["scales", "view", "found", "line", "whole", "place", "sign"] us) (bodyP P Ex) := by
  unfold w_ahead_lines
  rintro us P Ex ⟨b, sb, v, c, rfl, hc, hb, hb6, hv, hn, hvl, h⟩
  have e1 := hc.n1
  have e2 := hc.n6
  have e3 := hc.spl
  have hbk : ∀ k, k ≤ v.length → sb + k * (12 * b + 8) ≤ 19000 := fun k hk => by
    have := Nat.mul_le_mul_right (12 * b + 8) hk
    omega
  have hub : ∀ k, k ≤ v.length → Bd 310000 (undK c v k) := fun k hk => (und_bd hc (v := v) (k := k)).2.mono (by have := hbk k hk; have := Nat.mul_le_mul_left k (show 12 * b + 2 ≤ 12 * b + 8 by omega); omega)
  refine p_seq fun N hN => ?_
  walk_at "w"
  walk_at "fs"
  walk_at "fs"
  refine hN _ ?_
  refine p_seq fun N2 hN2 => ?_
  walk_at "w"
  refine p_forR (fun k e => ∃ t5 t6 : Sl, e = [.d (scI c), .d (.str (sS v)), .own (.lst ((List.range k).map fun k => .tuple [llD ((List.range c.st.length).map (raI c v (k + 1))), .int (undK c v (k + 1))])), .d (llD ((List.range c.st.length).map (raI c v k))), .d (.int (undK c v k)), t5, t6]) ⟨.no, .no, ?_⟩ (fun k e K hk ⟨t5, t6, he⟩ hK => ?_) ?_
  · have e4 : (List.range c.st.length).map (raI c v 0) = c.st := Ln_row.symm
    rw [e4]
    rfl
  · subst he
    have hbk1 := hbk (k + 1) (by omega)
    have hu := hub k (by omega)
    rw [Nat.add_one_mul] at hbk1
    have hvk := hv v[k]! (getB_mem hk)
    have hrb : ∀ x ∈ (List.range c.st.length).map (raI c v k), Bd 19000 x := fun x hx => by
      obtain ⟨j, hj, rfl⟩ := List.mem_map.mp hx
      rw [List.mem_range] at hj
      cases k with
      | zero => exact (hc.st.at hj).2.2.mono (by omega)
      | succ k => exact (raI_at hc hv (k := k) (by omega) hj).2.mono (by have := hbk (k + 1) (by omega); omega)
    walk_at "w"
    refine p_seq fun N3 hN3 => ?_
    have mid : ∀ (row : List Int) (w : Int), row.length = c.st.length → (∀ x ∈ row, Bd 400000 x) → Bd 400000 w → (∀ j, j < c.st.length → row[j]! * toI c j v[k]! = raI c v (k + 1) j) → w * uM c v[k]! = undK c v (k + 1) →
        N3 [.d (scI c), .d (.str (sS v)), .own (.lst ((List.range k).map fun k => .tuple [llD ((List.range c.st.length).map (raI c v (k + 1))), .int (undK c v (k + 1))])), .d (llD row), .d (.int w), .d (.int (k : Int)), .d (.str (sS [v[k]!]))] := by
      intro row w q1 q2 q3 q4 q5
      refine hN3 _ ?_
      refine p_seq fun N4 hN4 => ?_
      walk_at "w"
      refine ⟨b, sb, _, c, row, w, rfl, hc, hvk, by omega, q1, q2, q3, ?_⟩
      rw [q5, show (List.range c.st.length).map (fun j => row[j]! * toI c j v[k]!) = (List.range c.st.length).map (raI c v (k + 1)) from List.map_congr_left fun j hj => q4 j (List.mem_range.mp hj)]
      walk_at "w"
      refine hN4 _ ?_
      walk_at "w"
      refine ⟨_, _, rfl, rfl, slLt (by simp; omega), ?_⟩
      refine hK _ ⟨_, _, by rw [List.range_succ, List.map_append]; rfl⟩
    walk_at "w"
    refine if_both (fun z => ?_) fun z => ?_
    · obtain ⟨m, rfl⟩ : ∃ m, k = m + 1 := ⟨k - 1, by omega⟩
      have m1 := hu.mc (LL_ok hc).2.2 (by omega)
      have hsl : (scl (LL c) c.sp).length = c.st.length := by rw [scl_len, e3]
      walk_at "w"
      walk_at "fs"
      have e9 : ∀ l ∈ scl (LL c) c.sp, l.length = c.st.length := fun l hl => by
        obtain ⟨i, hi, rfl⟩ := List.mem_iff_getElem.mp hl
        have := scl_row (L := LL c) hc.sp (i := i) (by rw [hsl] at hi; omega)
        rwa [getElem!_pos (scl (LL c) c.sp) i hi] at this
      refine ⟨c.st.length, _, scl (LL c) c.sp, rfl, by simp, hsl, e9, by omega, fun x hx => (hrb x hx).mono (by omega), fun l hl x hx => ?_, ?_⟩
      · obtain ⟨i, hi, rfl⟩ := List.mem_iff_getElem.mp hl
        obtain ⟨j, hj, rfl⟩ := List.mem_iff_getElem.mp hx
        have e11 := e9 _ hl
        have := (sp_at hc (i := i) (j := j) (by omega) (by omega)).2
        rw [getElem!_pos (scl (LL c) c.sp) i hi, getElem!_pos (scl (LL c) c.sp)[i] j hj] at this
        exact this.mono (by omega)
      · walk_at "w"
        walk_at "fs"
        refine mid _ _ (by simp) (fun x hx => ?_) (hu.mul (LL_ok hc).2.2 |>.mono (by omega)) (fun j hj => ?_) ?_
        · obtain ⟨j, hj, rfl⟩ := List.mem_map.mp hx
          rw [List.mem_range] at hj
          refine (sgi_bd (N := 19000 + (6 * b + 1)) fun i hi => ?_).mono (by omega)
          exact (hrb _ (getB_mem (by simpa using hi))).mul (sp_at hc hi hj).2
        · rw [getB_range hj]
          show _ = (if m + 1 = 0 then _ else _) * _
          rw [if_neg (by omega)]
          congr 1
          exact sgi_congr fun i hi => by rw [getB_range hi]
        · show _ = undK c v (m + 1) * (if m + 1 > 0 then LL c else 1) * _
          rw [if_pos (by omega)]; rfl
    · have k0 : k = 0 := by omega
      subst k0
      walk_at "w"
      refine mid _ _ (by simp) (fun x hx => (hrb x hx).mono (by omega)) (hu.mono (by omega)) (fun j hj => ?_) ?_
      · rw [getB_range hj]; rfl
      · show _ = undK c v 0 * 1 * _
        rw [Int.mul_one]; rfl
  · rintro e ⟨t5, t6, rfl⟩
    refine hN2 _ ?_
    walk_at "w"
    exact h

def s_shares_in : FSem := fun us P Ex => ∃ (K n a : Nat) (A : Nat → Nat → Int) (U : Nat → Int), us = [.d (.list ((List.range K).map fun k => .tuple [llD ((List.range n).map (A k)), .int (U k)]))] ∧ K ≤ 1000 ∧ n ≤ 1000 ∧ (∀ k, k < K → 0 < U k ∧ Bd 8000 (U k)) ∧ P (.d (tabD K n fun k j => ((A k j : Int) : Rat) / ((U k : Int) : Rat)))

def w_shares_in : WS := (wRet (wB dTuple2 [(wLc [2, 3] (wiS (wV 0)) (gTupW 2 (gConsW (gN 2) (gConsW (gN 3) gNilW))) tYesW (wB dTuple2 [(wLc [1] (wiS (wV 2)) (gN 1) tYesW (wCall s_lowest [(wV 1), (wV 3)]))]))]))
theorem pure_shares_in : ∀ us P Ex, s_shares_in us P Ex → w_shares_in (startE ["pairs", "number", "line", "whole"] us) (bodyP P Ex) := by
  unfold w_shares_in
  rintro us P Ex ⟨K, n, a, A, U, rfl, hK, hn, hU, h⟩
  walk_at "w"
  refine p_lcD (fun k => .tuple ((List.range n).map fun j => fD (((A k j : Int) : Rat) / ((U k : Int) : Rat)))) (fun k => k) (fun k hk K' ac hk' => ?_) ?_
  · obtain ⟨u0, u1⟩ := hU k hk
    walk_at "w"
    refine p_lcA fD (fun x => ((x : Int) : Rat) / ((U k : Int) : Rat)) (fun x hx K2 ac2 hk2 => ?_) ?_
    · walk_at "w"
      refine ⟨_, _, rfl, u1, fun z => absurd z (by omega), fun _ => ?_⟩
      walk_at "w"
      exact hk2
    · walk_at "w"
      rw [List.map_map, List.map_map]
      exact hk'
  · walk_at "w"
    rw [List.map_map]
    exact h

def s_Scales___init__ : FSem := fun us P Ex => ∃ (b sb : Nat) (c : Ch), us = [.d (chD c)] ∧ ChOk b c sb ∧ 6 * b ≤ 3900 ∧ P (.nw (.ins none "Scales" scF (scV c)))

def w_Scales___init__ : WS := (wSeq (wAsgH (wTup [(wOp dIx (wV 1) (wC (.int 0))), (wB dList2 [(wOp dIx (wV 1) (wC (.int 1)))]), (wB dSum [(wOp dIx (wV 1) (wC (.int 1)))])]) (hTup 3 (hCons (hFld 0 "Scales" "signs") (hCons (hFld 0 "Scales" "start") (hCons (hFld 0 "Scales" "begun") hNil)))))
    (wSeq (wAsgH (wCall s_scaled [(wOp dIx (wV 1) (wC (.int 2)))]) (hTup 2 (hCons (hFld 0 "Scales" "steps") (hCons (hFld 0 "Scales" "step_whole") hNil))))
    (wSeq (wAsgH (wCall s_scaled [(wOp dIx (wV 1) (wC (.int 3)))]) (hTup 2 (hCons (hFld 0 "Scales" "tells") (hCons (hFld 0 "Scales" "tell_whole") hNil))))
    (wSetF 0 "Scales" "beat" (wOp dMul (wFld "Scales" "step_whole" (wV 0)) (wFld "Scales" "tell_whole" (wV 0)))))))
theorem pure_Scales___init__ : ∀ us P Ex, s_Scales___init__ us P Ex → ∀ dx, w_Scales___init__ (startI ["self", "chain"] "Scales" dx us) (bodyI "Scales" dx P Ex) := by
  unfold w_Scales___init__
  rintro us P Ex ⟨b, sb, c, rfl, hc, hb, h⟩ dx
  have e1 := hc.n6
  have e2 := hc.m5
  have e3 := hc.spl
  have e4 := hc.tll
  have m1 := (LL_ok hc).2.2.mc (MM_ok hc).2.2 (by omega)
  refine p_seq fun N hN => ?_
  walk_at "w"
  refine ⟨_, _, _, rfl, by decide, by decide, ?_⟩
  walk_at "w"
  refine ⟨_, _, _, rfl, by decide, by decide, ?_⟩
  walk_at "w"
  refine ⟨_, _, _, rfl, by decide, by decide, ?_⟩
  refine hN _ ?_
  refine p_seq fun N hN => ?_
  walk_at "w"
  refine ⟨b, _, c.sp, rfl, hc.sp, by omega, by omega, by omega, ?_⟩
  walk_at "w"
  refine ⟨_, _, _, rfl, by decide, by decide, ?_⟩
  walk_at "w"
  refine ⟨_, _, _, rfl, by decide, by decide, ?_⟩
  refine hN _ ?_
  refine p_seq fun N hN => ?_
  walk_at "w"
  refine ⟨b, _, c.tl, rfl, hc.tl, by omega, by omega, by omega, ?_⟩
  walk_at "w"
  refine ⟨_, _, _, rfl, by decide, by decide, ?_⟩
  walk_at "w"
  refine ⟨_, _, _, rfl, by decide, by decide, ?_⟩
  refine hN _ ?_
  walk_at "w"
  refine ⟨_, rfl, ?_⟩
  walk_at "w"
  refine ⟨_, rfl, ?_⟩
  walk_at "w"
  refine ⟨m1, _, _, _, rfl, by decide, by decide, ?_⟩
  exact ⟨_, _, rfl, h⟩

end Dl

namespace Dl
open PySem PySem.Spec PyProof.Rows L2

local macro_rules | `(tactic| walk_at "dl") => `(tactic| (simp (config := { maxSteps := 2000000, failIfUnchanged := false }) only [startE, startI, bodyI, slOf, List.map_cons, List.map_nil, List.length_cons, List.length_nil, List.cons_append, List.nil_append, List.append_nil, Nat.reduceAdd, Nat.reduceSub, List.replicate_succ, List.replicate_zero, List.getElem?_cons_zero, List.getElem?_cons_succ, List.getElem?_nil, List.set_cons_zero, List.set_cons_succ, Nat.zero_add,
  ↓wV_eq, ↓wC_eq, ↓wOp_eq, ↓wOp1_eq, ↓wB_eq, ↓wA_nil, ↓wA_cons, ↓wTup_eq, ↓wLst_eq, ↓wCall_eq, ↓wCallK_eq, ↓wIf_eq, ↓wAnd_eq, ↓wOr_eq, ↓tOf_eq, ↓tNotW_eq, ↓tAndW_eq, ↓tOrW_eq, ↓wIsE_eq, ↓toD_d, ↓toD_nw, ↓toD_bw, toD_deck, ↓calm_d, ↓calm_nw, ↓calm_bw, calm_deck, ↓hold_d, ↓hold_nw, ↓hold_bw, hold_deck, ↓holdAll_nil, ↓holdAll_cons, ↓toDs_nil, ↓toDs_d, ↓toDs_bw, argOf_d, argOf_bw, argOf_nw, argOf_deck,
  flat_int, flat_str, flat_bool, flat_none, flat_list, flat_tuple, flat_nw, ↓dAdd_int, ↓dAdd_str, ↓dAdd_list, ↓dAdd_tuple, ↓dSub_int, ↓dMul_int, ↓dMul_list, ↓dInt_int, ↓dNeg_int, ↓dEq_int, ↓dEq_str, ↓dNe_int, ↓dNe_str, ↓dCmp_int, ↓dAbs_int, ↓dInt1_int, ↓dInt1_bool, ↓dGcd_int, dIx_tm, dIx_lm, dIx_tm0, dIx_lm0, dIx_tm1, dIx_lm1, dIx_t0, dIx_t1, dIx_t2, dIx_t3, dIx_l0, dIx_l1, dIx_l2, dIx_tl, dIx_ll, dIx_s, dIx_s0, ↓dLen_list, ↓dLen_tuple, ↓dLen_str, ↓gTupW_eq, ↓gTupL_eq, ↓gNilW_eq, ↓gConsW_eq, ↓wiC_eq, ↓wiS_eq, itemsD_l, itemsD_t, cR1_eq, oR1_eq, cR2_e, oR2_e, rangeD0, rangeDn, subNat, subNat1, Int.reduceToNat, Int.toNat_natCast, intsD_map, boolsD_map, strsD_map, Option.some.injEq, exists_eq_left', sS_length, sS_append, one_beq, dIn_s, itemsL_l, itemsL_t, itemsL_s, cE_l, cE_t, cE_s, oE_l, oE_t, oE_s, cZ_tt, cZ_tl, cZ_lt, cZ_ll, cZ_ss, oZ_tt, oZ_tl, oZ_lt, oZ_ll, oZ_ss, signsD_sS, dJoin_s, cutS_s, cutA_from1, cutA_f1, cutA_t1, cutA_to, cutA_from, cutA_mid, List.length_map, List.length_range, true_and, and_true, beq_iff_eq, decide_eq_true_eq, Bool.not_eq_true', decide_eq_false_iff_not, beq_eq_false_iff_ne, ne_eq, not_true_eq_false, not_false_eq_true, eq_self, beq_self_eq_true, Bool.true_eq_false, List.take_succ_cons, List.take_zero, prm, List.filterMap_cons, List.filterMap_nil,
  ↓wSl_eq, ↓oNone_eq, ↓oSome_eq, ↓dSl_list, ↓dSl_tuple, ↓dSl_str, ↓wChain_eq, ↓wDisp_eq, ↓wDict0_eq, ↓wM_eq, ↓dSum_list, ↓dSum_tuple, ↓dMax_list, ↓dMax_two, ↓dMin_list, ↓dMin_two, ↓dLcm_int, ↓dAllAny_list, ↓dIsi_eq, ↓dList2_list, ↓dList2_tuple, ↓dList2_str, ↓dTuple2_list, ↓dTuple2_tuple, ↓dTuple2_str, ↓dIx_dictS, ↓dIx_dictI, ↓wApp_eq, ↓wAppPop_eq, ↓wExt_eq, ↓wLc_eq, ↓tYesW_eq, wipeE_nil, wipeE_cons, restE_nil, restE_cons, frzAll_nil, frzAll_cons, frz_nil, frz_zero, frz_succ, frzS_no, frzS_d, frzS_deck, frzS_opq, frzS_lst, getD_some, ↓wSto_eq, ↓toD_nwc, ↓toD_bwc, ↓ctoD_lst, ↓ctoD_dic, ↓calm_dic, ↓calm_ins, itemsD_s,
  ↓wSet_eq, ↓wSetD_eq, ↓wIns_eq, ↓wDUpd_eq, ↓wFld_eq, ↓wSetF_eq, ↓wMeth_eq, ↓wAsgH_eq, ↓hTup_eq, ↓hCons_eq, ↓hNil_eq, ↓hOf_eq, ↓hFld_eq, ↓hSub_eq, ↓wPar3DOO_eq, ↓dRev0_s, ↓dMulT_eq, ↓wPopS_eq, ↓wSetPop_eq, ↓wSetPopAt_eq, ↓dRev_list, dRev_s, ↓dLr1_eq, ↓dLr2_eq, ↓wParDO_eq, ↓wPar3O_eq, calm_opq, stE_opq, ↓wRet_eq, ↓wDrop_eq, ↓wIfS_eq, ↓wNext_eq, ↓wBreak_eq, ↓wCont_eq, ↓wPar_eq, ↓wParO_eq, ↓wPar3_eq, ↓wTryAs_eq, ↓wTryAsF_eq, ↓wAsF_one, ↓wRaise1_eq, ↓wIsF_eq, ↓wXf_eq, ↓wAsg_eq, ↓wForI_eq, ↓stE_d, ↓stE_nw, ↓stE_bw, ↓stE_deck, retR_d, retR_nw, bodyP_nx, bodyP_rd, bodyP_rn, bodyP_ex, ↓gN_eq, lit_dot, lit_nil, gTupF, dIx_f0, dIx_f1, dMul_s, dMul_sN, flat_fD, ↓lawE_eq, lawP_rt, lawP_nx, ite_self, if_true, if_false, Bool.false_eq_true, reduceIte]))

local macro_rules | `(tactic| walk_at "bd") => `(tactic| first | with_reducible assumption | ((with_reducible apply RB.bn); assumption) | ((with_reducible apply RB.bd); assumption) | ((with_reducible apply Bd.mul); (focus walk_at "bd"); (focus walk_at "bd")))
local macro_rules | `(tactic| walk_at "sd") => `(tactic| first | with_reducible assumption | with_reducible rfl | with_reducible exact True.intro | omega | with_reducible exact ⟨_, rfl⟩ | ((with_reducible apply smallI) <;> omega) | ((with_reducible apply dmLt); omega) | ((with_reducible apply slLe); omega) | ((with_reducible apply slLt); omega) | ((with_reducible apply slLe); (simp only [List.length_append, List.length_cons, List.length_nil, List.length_map, List.length_range, List.length_take, List.length_drop, List.length_reverse]); omega) | ((with_reducible apply slLt); (simp only [List.length_append, List.length_cons, List.length_nil, List.length_map, List.length_range, List.length_take, List.length_drop, List.length_reverse]); omega) | ((with_reducible apply rgOk) <;> omega) | ((with_reducible apply Bd.mc); (focus walk_at "bd"); (focus walk_at "bd"); decide) | ((with_reducible apply Bd.dc); (focus walk_at "bd"); (focus (first | assumption | omega)); decide))
local macro_rules | `(tactic| walk_at "w") => `(tactic| (walk_at "dl"; repeat ((with_reducible (refine And.intro ?_ ?_)); (focus walk_at "sd"); walk_at "dl")))
local macro_rules | `(tactic| walk_at "n") => `(tactic| ((with_reducible refine nx_of (by assumption) ?_); walk_at "w"))
local macro_rules | `(tactic| walk_at "t") => `(tactic| (walk_at "w"; with_reducible assumption))
local macro_rules | `(tactic| walk_at "g") => `(tactic| (walk_at "w"; (repeat ((first | with_reducible refine p_seq fun _ _ => ?_ | with_reducible refine nx_of (by assumption) ?_); walk_at "w")); try (with_reducible assumption)))

theorem small_ln {n : Nat} {ws : List Int} (hl : ws.length = n) (hn : n ≤ 6) (hw : ∀ w ∈ ws, 0 ≤ w ∧ w ≤ 5) (hp : 0 < ws.sum) : LnOk 5 n ws := ⟨hl, fun w h => (hw w h).1, hp, by
  have := sum_le (b := 5) fun w h => (hw w h).2
  have e : (2 : Int) ^ 5 = 32 := by decide
  omega⟩
theorem intsMem {ws : List Int} {x : PyData} (h : x ∈ ws.map PyData.int) : ∃ w ∈ ws, x = .int w := by
  obtain ⟨w, h1, rfl⟩ := List.mem_map.mp h
  exact ⟨w, h1, rfl⟩
theorem perm_erase {α : Type} : ∀ {l : List α} {n : Nat} (h : n < l.length), (l[n] :: l.eraseIdx n).Perm l
  | a :: l, 0, _ => List.Perm.refl _
  | a :: l, n + 1, h => (List.Perm.swap a _ _).trans ((perm_erase (l := l) (n := n) (Nat.lt_of_succ_lt_succ h)).cons a)
theorem ne_same (s : Str) : ¬ ((!(s == s)) = true) := by simp
theorem lcmL_one {x : Int} (h : 0 < x) : lcmL [x] = x := by
  have e := lcmL_snoc (ns := []) (n := x)
  rw [List.nil_append] at e
  rw [e]
  show ((Nat.lcm 1 x.natAbs : Nat) : Int) = x
  rw [Nat.lcm_one_left]
  omega
theorem sc_one {ws : List Int} {x : Int} (h : 0 < x) : ws.map (fun w => w * (x / x)) = ws := by
  rw [Int.ediv_self (by omega)]
  simp
theorem p_forC {t : WG} {b : WS} {x : PyData} {xs : List PyData} {env : En} {P : Pd} (Q : En → Prop) (first : ∀ K : En → Prop, (∀ e, Q e → K e) → t x env fun e1 => b e1 { P with nx := K, ct := K, bk := P.nx }) (rest : ∀ e, Q e → wFor t b xs e P) : wFor t b (x :: xs) env P := first _ rest
theorem p_forN {t : WG} {b : WS} {env : En} {P : Pd} (h : P.nx env) : wFor t b [] env P := h
theorem LnOk.times {b n : Nat} {l : List Int} (k : LnOk b n l) {m : Int} (m0 : 0 < m) (m1 : m ≤ 4) : LnOk (b + 2) n (l.map fun w => w * m) := by
  refine ⟨by simpa using k.len, fun w hw => ?_, ?_, ?_⟩
  · obtain ⟨x, hx, rfl⟩ := List.mem_map.mp hw
    exact Int.mul_nonneg (k.nn x hx) (by omega)
  · rw [sum_mul]; exact Int.mul_pos k.pos m0
  · rw [sum_mul, Int.pow_add]
    have h1 := k.bd
    have h2 := Int.mul_le_mul_of_nonneg_left m1 (Int.le_of_lt k.pos)
    have h3 : (2 : Int) ^ 2 = 4 := by decide
    omega
theorem gt_snoc {α : Type} [Inhabited α] {r : List α} {x : α} : (r ++ [x])[r.length]! = x := by
  rw [getElem!_pos _ _ (by simp), List.getElem_append_right (Nat.le_refl _)]; simp
theorem gt_ahead {α : Type} [Inhabited α] {r t : List α} {k : Nat} (h : k < r.length) : (r ++ t)[k]! = r[k]! := by
  rw [getElem!_pos _ _ (by simp; omega), getElem!_pos r k h, List.getElem_append_left h]
instance : Inhabited Ch := ⟨⟨[], [], [], []⟩⟩
/-! the law's model of a chain -/
def mdX (c : Ch) : List PyData := [.str (sS c.sgs), llD c.st, .list ((scl (LL c) c.sp).map llD), .list ((scl (MM c) c.tl).map llD)]
def mdD (c : Ch) : PyData := .tuple (mdX c)
theorem md_0 {c : Ch} {K : R → Prop} : dIx (mdD c) (.int 0) K = K (.d (.str (sS c.sgs))) := rfl
theorem md_1 {c : Ch} {K : R → Prop} : dIx (mdD c) (.int 1) K = K (.d (llD c.st)) := rfl
theorem md_2 {c : Ch} {K : R → Prop} : dIx (mdD c) (.int 2) K = K (.d (.list ((scl (LL c) c.sp).map llD))) := rfl
theorem md_3 {c : Ch} {K : R → Prop} : dIx (mdD c) (.int 3) K = K (.d (.list ((scl (MM c) c.tl).map llD))) := rfl
/-- each line times a number of its own -/
def MulLs (ls ls' : List (List Int)) : Prop := ls'.length = ls.length ∧ ∀ i, i < ls.length → ∃ k : Int, 0 < k ∧ k ≤ 4 ∧ ls'[i]! = ls[i]!.map fun w => w * k
theorem MulLs.at {ls ls' : List (List Int)} (h : MulLs ls ls') {i : Nat} (hi : i < ls.length) : MulL ls[i]! ls'[i]! := by
  obtain ⟨k, k0, k1, e⟩ := h.2 i hi
  exact ⟨k, k0, by have : (2 : Int) ^ 30 = 1073741824 := by decide
                   omega, e⟩
theorem MulLs.ok {b n : Nat} {ls ls' : List (List Int)} (h : MulLs ls ls') (q : ∀ l ∈ ls, LnOk b n l) : ∀ l ∈ ls', LnOk (b + 2) n l := fun l hl => by
  obtain ⟨i, hi, rfl⟩ := List.mem_iff_getElem.mp hl
  obtain ⟨k, k0, k1, e⟩ := h.2 i (by rw [← h.1]; exact hi)
  rw [← getElem!_pos ls' i hi, e]
  exact (q _ (getB_mem (by rw [← h.1]; exact hi))).times k0 k1

def s_law_pick : FSem := fun us P Ex => ∃ xs : List PyData, us = [.deck, .d (.list xs)] ∧ xs ≠ [] ∧ (xs.length : Int) < drawMax ∧ ∀ x ∈ xs, P (.d x)

def w_law_pick : WS := (wRet (wOp dIx (wV 1) (wCall s_law_draw [(wV 0), (wB dLen [(wV 1)])])))
theorem pure_law_pick : ∀ us P Ex, s_law_pick us P Ex → w_law_pick (startE ["deck", "items"] us) (bodyP P Ex) := by
  unfold w_law_pick
  rintro us P Ex ⟨xs, rfl, hn, hl, h⟩
  walk_at "w"
  refine ⟨_, rfl, hl, fun r hr => ?_⟩
  obtain ⟨x, hx, e⟩ := at_draw hn hr
  simp only [wCall_eq, toD_d]
  walk_at "w"
  rw [dIx_list, e]
  exact h x hx

def s_law_common : FSem := fun us P Ex => ∃ a b : Int, us = [.d (.int a), .d (.int b)] ∧ 0 ≤ a ∧ 0 ≤ b ∧ P (.d (.int (Int.gcd a b)))

def w_law_common : WS := (wSeq (wWhile (tOf (wOp dNe (wV 1) (wC (.int 0)))) (wPar 0 1 (wV 1) (wOp (dInt Int.fmod fun _ j => j ≠ 0) (wV 0) (wV 1))))
    (wRet (wB dAbs [(wV 0)])))
theorem pure_law_common : ∀ us P Ex, s_law_common us P Ex → w_law_common (startE ["a", "b"] us) (bodyP P Ex) := by
  unfold w_law_common
  rintro us P Ex ⟨x, y, rfl, hx, hy, h⟩
  walk_at "g"
  refine ⟨fun m e => ∃ c d : Int, e = [.d (.int c), .d (.int d)] ∧ 0 ≤ c ∧ 0 ≤ d ∧ m = d.toNat ∧ Int.gcd c d = Int.gcd x y, ⟨_, _, _, rfl, hx, hy, rfl, rfl⟩, ?_⟩
  rintro m e ⟨c, d, rfl, hc, hd, rfl, hg⟩
  walk_at "w"
  refine if_both (fun z => ?_) fun z => ?_
  · have hp : 0 < d := by omega
    have b := fmod_bd c hp
    walk_at "w"
    refine ⟨_, ?_, _, _, rfl, hd, b.1, rfl, ?_⟩
    · omega
    · rw [← hg, Int.fmod_eq_emod_of_nonneg c (by omega)]
      obtain ⟨m', rfl⟩ := Int.eq_ofNat_of_zero_le hc
      obtain ⟨n', rfl⟩ := Int.eq_ofNat_of_zero_le hd
      have em : (m' : Int) % (n' : Int) = ((m' % n' : Nat) : Int) := rfl
      rw [em]
      show Nat.gcd n' (m' % n') = Nat.gcd m' n'
      rw [Nat.gcd_comm n', Nat.gcd_comm m', Nat.gcd_rec n' m']
  · have z' : d = 0 := by omega
    subst z'
    rw [Int.gcd_zero_right] at hg
    have e : (c.natAbs : Int) = c := by omega
    rw [← hg] at h
    walk_at "g"

def s_law_multiple : FSem := fun us P Ex => ∃ (b : Nat) (ns : List Int), us = [.d (.list (ns.map PyData.int))] ∧ (∀ x ∈ ns, 0 < x ∧ x < 2 ^ b) ∧ ns.length ≤ 12 ∧ 12 * b ≤ 7900 ∧ P (.d (.int (lcmL ns)))

def w_law_multiple : WS := (wSeq (wSetD 1 (wC (.int 1)))
    (wSeq (wForI (wiS (wV 0)) (gN 2) (wSetD 1 (wOp (dInt Int.fdiv DivC) (wOp dMul (wV 1) (wV 2)) (wCall s_law_common [(wV 1), (wV 2)]))))
    (wRet (wV 1))))
theorem pure_law_multiple : ∀ us P Ex, s_law_multiple us P Ex → w_law_multiple (startE ["items", "found", "item"] us) (bodyP P Ex) := by
  unfold w_law_multiple
  rintro us P Ex ⟨b, ns, rfl, hs, hn, hb, h⟩
  have hlb : ∀ k, k ≤ ns.length → k * b ≤ 7900 := fun k hk => Nat.le_trans (Nat.mul_le_mul_right b (by omega)) hb
  have hS := fun k => lcmL_ok (b := b) (ns := ns.take k) fun x hx => hs x (List.mem_of_mem_take hx)
  walk_at "g"
  refine p_forA (fun k e => ∃ t2 : Sl, e = [.d (.list (ns.map PyData.int)), .d (.int (lcmL (ns.take k))), t2]) ⟨_, rfl⟩ (fun k e K hk ⟨t2, he⟩ hK => ?_) ?_
  · subst he
    have hlo := hs ns[k]! (getB_mem hk)
    obtain ⟨l1, l2, l3⟩ := hS k
    have hkb := Nat.mul_le_mul_right b (show k ≤ ns.length by omega)
    have hb2 := hlb ns.length (Nat.le_refl _)
    have hb3 : b ≤ 7900 := by have := Nat.mul_le_mul_right b (show 1 ≤ 12 by omega); omega
    rw [List.length_take, Nat.min_eq_left (by omega)] at l3
    have e1 : lcmL (ns.take (k + 1)) = ((Nat.lcm (lcmL (ns.take k)).natAbs ns[k]!.natAbs : Nat) : Int) := by
      rw [List.take_succ_eq_append_getElem hk, lcmL_snoc, ← getElem!_pos ns k hk]
    generalize lcmL (ns.take k) = W at *
    generalize ns[k]! = x at *
    have hW : Bd 7901 W := Nat.lt_of_le_of_lt l3 (Nat.pow_lt_pow_right (by decide) (by omega))
    have hsb : Bd b x := Bd.of (by omega) hlo.2
    have hp := hlo.1
    have hg : (Int.gcd W x : Int) ≠ 0 := fun z => by
      have := Int.gcd_eq_zero_iff.mp (show Int.gcd W x = 0 by omega)
      omega
    have hgb : Bd 8000 (Int.gcd W x : Int) := (hsb.mono (n := 8000) (by omega)).le (by rw [Int.natAbs_natCast]; exact Nat.le_of_dvd (by omega) (Nat.gcd_dvd_right ..))
    have hdc : DivC (W * x) (Int.gcd W x : Int) := hgb.dc hg (by decide)
    have hmc := hW.mc hsb (by omega)
    have e2 : (W * x).fdiv (Int.gcd W x : Int) = ((Nat.lcm W.natAbs x.natAbs : Nat) : Int) := by
      rw [Int.fdiv_eq_ediv_of_nonneg _ (by omega)]
      obtain ⟨a, rfl⟩ := Int.eq_ofNat_of_zero_le (show 0 ≤ W by omega)
      obtain ⟨c, rfl⟩ := Int.eq_ofNat_of_zero_le (show 0 ≤ x by omega)
      rfl
    walk_at "g"
    refine ⟨_, _, rfl, by omega, by omega, ?_⟩
    walk_at "w"
    rw [e2, ← e1]
    exact hK _ ⟨_, rfl⟩
  · rintro e ⟨t2, rfl⟩
    rw [List.take_length]
    walk_at "g"

def s_law_weights : FSem := fun us P Ex => ∃ n : Nat, us = [.deck, .d (.int (n : Int))] ∧ 1 ≤ n ∧ n ≤ 6 ∧ ∀ ws, LnOk 5 n ws → P (.d (lnD ws))

def w_law_weights : WS := (wSeq (wSet 2 (wLc [3] (wiC cR1 oR1 [(wV 1)]) (gN 3) tYesW (wCall s_law_pick [(wV 0), (wLst [(wC (.int 0)), (wC (.int 0)), (wC (.int 1)), (wC (.int 1)), (wC (.int 2)), (wC (.int 3)), (wC (.int 5))])])))
    (wSeq (wIfS (tOf (wOp dEq (wB dSum [(wV 2)]) (wC (.int 0)))) (wSto 2 (wCall s_law_draw [(wV 0), (wV 1)]) (wOp dAdd (wC (.int 1)) (wCall s_law_draw [(wV 0), (wC (.int 3))]))) wNext)
    (wRet (wB dTuple2 [(wV 2)]))))
theorem pure_law_weights : ∀ us P Ex, s_law_weights us P Ex → w_law_weights (startE ["deck", "many", "line", "turn"] us) (bodyP P Ex) := by
  unfold w_law_weights
  rintro us P Ex ⟨n, rfl, h1, hl, h⟩
  walk_at "g"
  refine p_lcR PyData.int (fun _ (w : Int) => 0 ≤ w ∧ w ≤ 5) (fun i hi K' ac hk => ?_) fun ws hk hw => ?_
  · walk_at "g"
    refine ⟨_, rfl, by simp, dmLt (by simp), fun y hy => ?_⟩
    obtain ⟨w, hw, rfl⟩ := intsMem (ws := [0, 0, 1, 1, 2, 3, 5]) hy
    have hw2 : 0 ≤ w ∧ w ≤ 5 := by
      simp only [List.mem_cons, List.not_mem_nil, or_false] at hw
      omega
    walk_at "w"
    exact hk _ hw2
  · have hw2 : ∀ w ∈ ws, 0 ≤ w ∧ w ≤ 5 := fun w h => by
      obtain ⟨i, hi, rfl⟩ := List.mem_iff_getElem.mp h
      have := hw i (by omega)
      rwa [getElem!_pos ws i hi] at this
    have hn := sum_nn fun w h => (hw2 w h).1
    walk_at "g"
    refine if_both (fun z => ?_) fun z => ?_
    · refine ⟨_, rfl, dmLt (by decide), fun r hr => ?_⟩
      have r0 := hr.1
      have r1 := hr.2
      walk_at "g"
      refine ⟨_, rfl, dmLt (by omega), fun q hq => ?_⟩
      obtain ⟨j, rfl⟩ := Int.eq_ofNat_of_zero_le hq.1
      have hj : j < n := by have := hq.2; omega
      walk_at "g"
      refine ⟨_, _, _, j, rfl, rfl, rfl, ?_, ?_⟩
      · exact ixN_nat (by simp; omega)
      · rw [← List.map_set]
        walk_at "g"
        refine h _ (small_ln (by simpa using hk) hl (fun w hw3 => ?_) (sum_set_pos (fun w h => (hw2 w h).1) (by omega) (by omega)))
        rcases List.mem_or_eq_of_mem_set hw3 with q | q
        · exact hw2 w q
        · omega
    · walk_at "g"
      exact h _ (small_ln hk hl hw2 (by omega))

def s_law_chain : FSem := fun us P Ex => ∃ (n : Nat) (sg : List Nat), us = [.deck, .d (.str (sS sg)), .d (.int (n : Int))] ∧ 1 ≤ n ∧ n ≤ 6 ∧ 1 ≤ sg.length ∧ sg.length ≤ 5 ∧ sg.Nodup ∧ (∀ s ∈ sg, 97 ≤ s ∧ s ≤ 122) ∧ ∀ c, ChOk 5 c → c.st.length = n → c.sgs = sg → P (.d (chD c))

def w_law_chain : WS := (wSeq (wSetD 3 (wLc [4] (wiC cR1 oR1 [(wV 2)]) (gN 4) tYesW (wCall s_law_weights [(wV 0), (wV 2)])))
    (wSeq (wSetD 5 (wLc [4] (wiC cR1 oR1 [(wV 2)]) (gN 4) tYesW (wCall s_law_weights [(wV 0), (wB dLen [(wV 1)])])))
    (wRet (wTup [(wV 1), (wCall s_law_weights [(wV 0), (wV 2)]), (wB dTuple2 [(wV 3)]), (wB dTuple2 [(wV 5)])]))))
theorem pure_law_chain : ∀ us P Ex, s_law_chain us P Ex → w_law_chain (startE ["deck", "signs", "many", "steps", "state", "tells"] us) (bodyP P Ex) := by
  unfold w_law_chain
  rintro us P Ex ⟨n, sg, rfl, n1, n6, m1, m5, d2, d3, h⟩
  walk_at "g"
  refine p_lcR lnD (fun _ ws => LnOk 5 n ws) (fun i hi K' ac hk' => ?_) fun sp s1 s2 => ?_
  · walk_at "g"
    refine ⟨n, rfl, n1, by omega, fun ws hw => ?_⟩
    walk_at "w"
    exact hk' _ hw
  walk_at "g"
  refine p_lcR lnD (fun _ ws => LnOk 5 sg.length ws) (fun i hi K' ac hk' => ?_) fun tl t1 t2 => ?_
  · walk_at "g"
    refine ⟨sg.length, rfl, m1, by omega, fun ws hw => ?_⟩
    walk_at "w"
    exact hk' _ hw
  have s3 := memAt s1 s2
  have t3 := memAt t1 t2
  walk_at "g"
  refine ⟨n, rfl, n1, by omega, fun ws hw => ?_⟩
  walk_at "g"
  have e := hw.len
  refine h ⟨sg, ws, sp, tl⟩ ⟨by show 1 ≤ ws.length; omega, by show ws.length ≤ 6; omega, m1, m5, d2, d3, by show LnOk 5 ws.length ws; rw [e]; exact hw, by show sp.length = ws.length; omega, by show ∀ l ∈ sp, LnOk 5 ws.length l; rw [e]; exact s3, by show tl.length = ws.length; omega, t3⟩ e rfl

def s_law_factors : FSem := fun us P Ex => ∃ ls : List (List Int), us = [.deck, .d (lnsD ls)] ∧ ls.length ≤ 1000 ∧ ∀ ks : List Int, ks.length = ls.length → (∀ k ∈ ks, 0 < k ∧ k ≤ 4) → P (.nw (.lst ((List.range ls.length).map fun i => .tuple [lnD ls[i]!, .int ks[i]!])))

def w_law_factors : WS := (wRet (wLc [2] (wiS (wV 1)) (gN 2) tYesW (wTup [(wV 2), (wOp dAdd (wC (.int 1)) (wCall s_law_draw [(wV 0), (wC (.int 4))]))])))
theorem pure_law_factors : ∀ us P Ex, s_law_factors us P Ex → w_law_factors (startE ["deck", "lines", "line"] us) (bodyP P Ex) := by
  unfold w_law_factors
  rintro us P Ex ⟨ls, rfl, hl, h⟩
  walk_at "g"
  have e : ls.map lnD = (List.range ls.length).map fun i => lnD ls[i]! := map_rangeD
  rw [e]
  refine p_lcR (fun x : PyData => x) (fun i x => ∃ k : Int, 0 < k ∧ k ≤ 4 ∧ x = .tuple [lnD ls[i]!, .int k]) (fun i hi K' ac hk' => ?_) fun ys y1 y2 => ?_
  · walk_at "g"
    refine ⟨_, rfl, dmLt (by decide), fun r hr => ?_⟩
    have r0 := hr.1
    have r1 := hr.2
    walk_at "w"
    exact hk' _ ⟨1 + r, by omega, by omega, rfl⟩
  · walk_at "g"
    have q : ∀ i, ∃ k : Int, i < ls.length → 0 < k ∧ k ≤ 4 ∧ ys[i]! = .tuple [lnD ls[i]!, .int k] := fun i => by
      by_cases z : i < ls.length
      · obtain ⟨k, k1, k2, k3⟩ := y2 i z
        exact ⟨k, fun _ => ⟨k1, k2, k3⟩⟩
      · exact ⟨0, fun z' => absurd z' z⟩
    have h2 := h ((List.range ls.length).map fun i => (q i).choose) (by simp) (fun k hk => by
      obtain ⟨i, hi, rfl⟩ := List.mem_map.mp hk
      rw [List.mem_range] at hi
      have := (q i).choose_spec hi
      exact ⟨this.1, this.2.1⟩)
    have e2 : (List.range ls.length).map (fun i => PyData.tuple [lnD ls[i]!, .int ((List.range ls.length).map fun i => (q i).choose)[i]!]) = ys.map fun x => x := by
      rw [List.map_id']
      refine List.ext_getElem (by simpa using y1.symm) fun i h1 h3 => ?_
      have hi : i < ls.length := by simpa using h1
      rw [List.getElem_map, List.getElem_range, getB_range hi, ← ((q i).choose_spec hi).2.2, getElem!_pos ys i h3]
    rw [e2] at h2
    exact h2

def s_law_times : FSem := fun us P Ex => ∃ (b : Nat) (c : Ch), us = [.deck, .d (chD c)] ∧ ChOk b c ∧ b ≤ 4000 ∧ ∀ c', Mult c c' → ChOk (b + 2) c' → P (.d (chD c'))

def w_law_times : WS := (wSeq (wSet 2 (wLst []))
    (wSeq (wForI (wiS (wTup [(wTup [(wOp dIx (wV 1) (wC (.int 1)))]), (wOp dIx (wV 1) (wC (.int 2))), (wOp dIx (wV 1) (wC (.int 3)))])) (gN 3) (wApp 2 (wB dTuple2 [(wLc [5, 6] (wiS (wCall s_law_factors [(wV 0), (wV 3)])) (gTupW 2 (gConsW (gN 5) (gConsW (gN 6) gNilW))) tYesW (wB dTuple2 [(wLc [4] (wiS (wV 5)) (gN 4) tYesW (wOp dMul (wV 4) (wV 6)))]))])))
    (wRet (wTup [(wOp dIx (wV 1) (wC (.int 0))), (wOp dIx (wOp dIx (wV 2) (wC (.int 0))) (wC (.int 0))), (wOp dIx (wV 2) (wC (.int 1))), (wOp dIx (wV 2) (wC (.int 2)))]))))
theorem pure_law_times : ∀ us P Ex, s_law_times us P Ex → w_law_times (startE ["deck", "chain", "parts", "lines", "weight", "line", "times"] us) (bodyP P Ex) := by
  unfold w_law_times
  rintro us P Ex ⟨b, c, rfl, hc, hb, h⟩
  have e0 := hc.n1
  have e1 := hc.n6
  have e2 := hc.m5
  have e3 := hc.spl
  have e4 := hc.tll
  have row : ∀ {m : Nat} {ls : List (List Int)}, (∀ l ∈ ls, LnOk b m l) → ∀ l ∈ ls, ∀ w ∈ l, Bd 4000 w := fun hl l hm w hw => (Bd.of ((hl l hm).nn w hw) (Int.lt_of_le_of_lt (sum_ge (hl l hm).nn hw) (hl l hm).bd)).mono hb
  have row1 := row hc.sp
  have row2 := row hc.tl
  have row3 := row (ls := [c.st]) (m := c.st.length) (by simpa using hc.st)
  have big : ∀ ls ∈ [[c.st], c.sp, c.tl], ls.length ≤ 6 ∧ ∀ l ∈ ls, l.length ≤ 1000 ∧ ∀ w ∈ l, Bd 4000 w := fun ls hls => by
    simp only [List.mem_cons, List.not_mem_nil, or_false] at hls
    rcases hls with rfl | rfl | rfl
    · exact ⟨by simp, fun l hl => ⟨by rw [List.mem_singleton.mp hl]; omega, row3 l hl⟩⟩
    · exact ⟨by omega, fun l hl => ⟨by rw [(hc.sp l hl).len]; omega, row1 l hl⟩⟩
    · exact ⟨by omega, fun l hl => ⟨by rw [(hc.tl l hl).len]; omega, row2 l hl⟩⟩
  refine p_seq fun N hN => ?_
  walk_at "w"
  refine hN _ ?_
  refine p_seq fun N2 hN2 => ?_
  walk_at "w"
  have e0 : [PyData.tuple [lnD c.st], lnsD c.sp, lnsD c.tl] = [[c.st], c.sp, c.tl].map lnsD := rfl
  rw [e0]
  refine p_forA (fun k e => ∃ (os : List (List (List Int))) (t3 : Sl), e = [.deck, .d (chD c), .own (.lst (os.map lnsD)), t3, .no, .no, .no] ∧ os.length = k ∧ ∀ i, i < k → MulLs [[c.st], c.sp, c.tl][i]! os[i]!) ⟨[], _, rfl, rfl, fun i hi => by omega⟩ (fun k e K hk ⟨os, t3, he, ol, oq⟩ hK => ?_) ?_
  · subst he
    obtain ⟨b1, b2⟩ := big [[c.st], c.sp, c.tl][k]! (getB_mem hk)
    generalize hls : [[c.st], c.sp, c.tl][k]! = ls at *
    walk_at "w"
    refine ⟨ls, rfl, by omega, fun ks k1 k2 => ?_⟩
    walk_at "w"
    refine p_lcD lnD (fun i => ls[i]!.map fun w => w * ks[i]!) (fun i hi K' ac hk' => ?_) ?_
    · walk_at "w"
      obtain ⟨b3, b4⟩ := b2 ls[i]! (getB_mem hi)
      have hkb := k2 ks[i]! (getB_mem (by omega))
      have kb : Bd 3 ks[i]! := Bd.of (by omega) (by have : (2 : Int) ^ 3 = 8 := by decide
                                                    omega)
      walk_at "w"
      refine p_lcA PyData.int (fun w => w * ks[i]!) (fun w hw K2 ac2 hk2 => ?_) ?_
      · have hmc := (b4 w hw).mc kb (by decide)
        walk_at "t"
      · walk_at "w"
        exact hk'
    · walk_at "w"
      have e5 : os.map lnsD ++ [PyData.tuple (((List.range ls.length).map fun i => ls[i]!.map fun w => w * ks[i]!).map lnD)] = (os ++ [(List.range ls.length).map fun i => ls[i]!.map fun w => w * ks[i]!]).map lnsD := by
        rw [List.map_append]; rfl
      refine ⟨_, _, rfl, rfl, slLt (by simp at hk ⊢; omega), ?_⟩
      rw [e5]
      refine hK _ ⟨_, _, rfl, by simp [ol], fun i hi => ?_⟩
      by_cases z : i = k
      · subst z
        rw [hls, ← ol, gt_snoc]
        refine ⟨by simp, fun j hj => ⟨ks[j]!, ?_, ?_, by rw [getB_range hj]⟩⟩
        · exact (k2 _ (getB_mem (by omega))).1
        · exact (k2 _ (getB_mem (by omega))).2
      · rw [gt_ahead (by omega)]
        exact oq i (by omega)
  · rintro e ⟨os, t3, rfl, ol, oq⟩
    match os, ol with
    | [o1, o2, o3], _ =>
      have q1 : MulLs [c.st] o1 := oq 0 (by simp)
      have q2 : MulLs c.sp o2 := oq 1 (by simp)
      have q3 : MulLs c.tl o3 := oq 2 (by simp)
      match o1, q1.1 with
      | [l1], _ =>
        have r1 : MulL c.st l1 := q1.at (i := 0) (by simp)
        have r2 := q1.ok (b := b) (n := c.st.length) (by simpa using hc.st) l1 (by simp)
        have r3 := r1.len
        refine hN2 _ ?_
        walk_at "w"
        refine h ⟨c.sgs, l1, o2, o3⟩ ⟨rfl, r1, q2.1, fun i hi => q2.at hi, q3.1, fun i hi => q3.at hi⟩ ⟨by show 1 ≤ l1.length; omega, by show l1.length ≤ 6; omega, hc.m1, hc.m5, hc.nd, hc.low, by show LnOk _ l1.length l1; rw [r3]; exact r2, ?_, ?_, ?_, ?_⟩
        · show o2.length = l1.length; rw [q2.1, r3, e3]
        · show ∀ l ∈ o2, LnOk _ l1.length l; rw [r3]; exact q2.ok hc.sp
        · show o3.length = l1.length; rw [q3.1, r3, e4]
        · exact q3.ok hc.tl

def s_law_sums : FSem := fun us P Ex => ∃ (b : Nat) (c : Ch), us = [.d (.list [chD c])] ∧ ChOk b c ∧ b ≤ 600 ∧ P (.nw (.lst [.int c.st.sum, .int (LL c), .int (MM c)]))

def w_law_sums : WS := (wSeq (wSet 1 (wLst [(wCall s_law_multiple [(wLc [2] (wiS (wV 0)) (gN 2) tYesW (wB dSum [(wOp dIx (wV 2) (wC (.int 1)))]))])]))
    (wSeq (wForI (wiS (wTup [(wC (.int 2)), (wC (.int 3))])) (gN 3) (wSeq (wSetD 4 (wLst []))
    (wSeq (wForI (wiS (wV 0)) (gN 2) (wSetD 4 (wOp dAdd (wV 4) (wLc [5] (wiS (wOp dIx (wV 2) (wV 3))) (gN 5) tYesW (wB dSum [(wV 5)])))))
    (wApp 1 (wCall s_law_multiple [(wV 4)])))))
    (wRet (wV 1))))
theorem pure_law_sums : ∀ us P Ex, s_law_sums us P Ex → w_law_sums (startE ["some", "found", "chain", "place", "lines", "line"] us) (bodyP P Ex) := by
  unfold w_law_sums
  rintro us P Ex ⟨b, c, rfl, hc, hb, h⟩
  have e1 := hc.n6
  have e3 := hc.spl
  have e4 := hc.tll
  have mul : ∀ (ls : List (List Int)) (m : Nat) (Q : R → Prop) (Ey : Exn → Prop), (∀ l ∈ ls, LnOk b m l) → ls.length ≤ 6 → Q (.d (.int (lcmL (ls.map List.sum)))) → s_law_multiple [.d (.list ((ls.map List.sum).map PyData.int))] Q Ey := fun ls m Q Ey h1 h2 q => ⟨b, _, rfl, fun x hx => by
    obtain ⟨l, hl, rfl⟩ := List.mem_map.mp hx
    exact ⟨(h1 l hl).pos, (h1 l hl).bd⟩, by simp; omega, by omega, q⟩
  refine p_seq fun N hN => ?_
  walk_at "w"
  refine p_lcA (as := [c]) (f := chD) PyData.int (fun c => c.st.sum) (fun x hx K' ac hk => ?_) ?_
  · cases List.mem_singleton.mp hx
    walk_at "t"
  walk_at "w"
  refine mul [c.st] c.st.length _ _ (by simpa using hc.st) (by simp) ?_
  rw [show lcmL ([c.st].map List.sum) = c.st.sum from lcmL_one hc.st.pos]
  walk_at "w"
  refine hN _ ?_
  refine p_seq fun N2 hN2 => ?_
  walk_at "w"
  refine p_forC (fun e => ∃ t2 t3 t4 : Sl, e = [.d (.list [chD c]), .own (.lst [.int c.st.sum, .int (LL c)]), t2, t3, t4, .no]) (fun K hK => ?_) ?_
  · walk_at "w"
    refine p_seq fun N3 hN3 => ?_
    walk_at "w"
    refine hN3 _ ?_
    refine p_seq fun N4 hN4 => ?_
    walk_at "w"
    refine p_forC (fun e => e = [.d (.list [chD c]), .own (.lst [.int c.st.sum]), .d (chD c), .d (.int 2), .d (.list ((c.sp.map List.sum).map PyData.int)), .no]) (fun K2 hK2 => ?_) ?_
    · walk_at "w"
      refine p_lcA PyData.int List.sum (fun l hl K' ac hk => ?_) ?_
      · walk_at "t"
      · walk_at "w"
        exact hK2 _ rfl
    · rintro e rfl
      refine p_forN (hN4 _ ?_)
      walk_at "w"
      refine mul c.sp c.st.length _ _ hc.sp (by omega) ?_
      walk_at "w"
      exact ⟨_, _, rfl, rfl, slLt (by simp), hK _ ⟨_, _, _, rfl⟩⟩
  · rintro e ⟨t2, t3, t4, rfl⟩
    refine p_forC (fun e => ∃ t2 t3 t4 : Sl, e = [.d (.list [chD c]), .own (.lst [.int c.st.sum, .int (LL c), .int (MM c)]), t2, t3, t4, .no]) (fun K hK => ?_) ?_
    · walk_at "w"
      refine p_seq fun N3 hN3 => ?_
      walk_at "w"
      refine hN3 _ ?_
      refine p_seq fun N4 hN4 => ?_
      walk_at "w"
      refine p_forC (fun e => e = [.d (.list [chD c]), .own (.lst [.int c.st.sum, .int (LL c)]), .d (chD c), .d (.int 3), .d (.list ((c.tl.map List.sum).map PyData.int)), .no]) (fun K2 hK2 => ?_) ?_
      · walk_at "w"
        refine p_lcA PyData.int List.sum (fun l hl K' ac hk => ?_) ?_
        · walk_at "t"
        · walk_at "w"
          exact hK2 _ rfl
      · rintro e rfl
        refine p_forN (hN4 _ ?_)
        walk_at "w"
        refine mul c.tl c.sgs.length _ _ hc.tl (by omega) ?_
        walk_at "w"
        exact ⟨_, _, rfl, rfl, slLt (by simp), hK _ ⟨_, _, _, rfl⟩⟩
    · rintro e ⟨t2, t3, t4, rfl⟩
      refine p_forN (hN2 _ ?_)
      walk_at "w"
      exact h

def s_law_scaled : FSem := fun us P Ex => ∃ (b n : Nat) (ws : List Int) (W : Int), us = [.d (lnD ws), .d (.int W)] ∧ LnOk b n ws ∧ n ≤ 1000 ∧ b ≤ 600 ∧ 0 ≤ W ∧ Bd 8000 W ∧ P (.nw (.lst ((ws.map fun w => w * (W / ws.sum)).map PyData.int)))

def w_law_scaled : WS := (wSeq (wSetD 2 (wOp (dInt Int.fdiv DivC) (wV 1) (wB dSum [(wV 0)])))
    (wRet (wLc [3] (wiS (wV 0)) (gN 3) tYesW (wOp dMul (wV 3) (wV 2)))))
theorem pure_law_scaled : ∀ us P Ex, s_law_scaled us P Ex → w_law_scaled (startE ["line", "whole", "times", "weight"] us) (bodyP P Ex) := by
  unfold w_law_scaled
  rintro us P Ex ⟨b, n, ws, W, rfl, hl, hn, hb, hW, hWb, h⟩
  have hll := hl.len
  have hd : DivC W ws.sum := (hl.sbd.mono (n := 8000) (by omega)).dc hl.ne (by decide)
  have hq : Bd 8000 (W / ws.sum) := hWb.le (Int.natAbs_ediv_le_natAbs ..)
  have eq : W / ws.sum = W.fdiv ws.sum := (Int.fdiv_eq_ediv_of_nonneg _ (Int.le_of_lt hl.pos)).symm
  rw [eq] at hq h
  walk_at "g"
  refine p_lcA PyData.int (fun w => w * W.fdiv ws.sum) (fun x hx K' ac hk => ?_) ?_
  · have hx2 : Bd b x := Bd.of (hl.nn x hx) (Int.lt_of_le_of_lt (sum_ge hl.nn hx) hl.bd)
    have hmc : MulC x (W.fdiv ws.sum) := hx2.mc hq (by omega)
    walk_at "t"
  · walk_at "g"

def s_law_model : FSem := fun us P Ex => ∃ (b : Nat) (c : Ch), us = [.d (chD c), .d (.list [.int c.st.sum, .int (LL c), .int (MM c)])] ∧ ChOk b c ∧ b ≤ 600 ∧ P (.d (mdD c))

def w_law_model : WS := (wSeq (wSetD 2 (wLc [3] (wiS (wOp dIx (wV 0) (wC (.int 2)))) (gN 3) tYesW (wCall s_law_scaled [(wV 3), (wOp dIx (wV 1) (wC (.int 1)))])))
    (wRet (wTup [(wOp dIx (wV 0) (wC (.int 0))), (wCall s_law_scaled [(wOp dIx (wV 0) (wC (.int 1))), (wOp dIx (wV 1) (wC (.int 0)))]), (wV 2), (wLc [3] (wiS (wOp dIx (wV 0) (wC (.int 3)))) (gN 3) tYesW (wCall s_law_scaled [(wV 3), (wOp dIx (wV 1) (wC (.int 2)))]))])))
theorem pure_law_model : ∀ us P Ex, s_law_model us P Ex → w_law_model (startE ["chain", "sums", "steps", "line"] us) (bodyP P Ex) := by
  unfold w_law_model
  rintro us P Ex ⟨b, c, rfl, hc, hb, h⟩
  have e1 := hc.n6
  have e3 := hc.spl
  have e4 := hc.tll
  have hs := hc.st.pos
  have hsb : Bd 8000 c.st.sum := hc.st.sbd.mono (by omega)
  obtain ⟨l1, _, l2⟩ := LL_ok hc
  obtain ⟨m1, _, m2⟩ := MM_ok hc
  walk_at "g"
  refine p_lcA llD (fun l => l.map fun w => w * (LL c / l.sum)) (fun l hl K' ac hk => ?_) ?_
  · walk_at "w"
    refine ⟨b, _, l, LL c, rfl, hc.sp l hl, by omega, hb, by omega, l2.mono (by omega), ?_⟩
    walk_at "w"
    exact hk
  walk_at "g"
  refine ⟨b, _, c.st, c.st.sum, rfl, hc.st, by omega, hb, by omega, hsb, ?_⟩
  walk_at "w"
  refine p_lcA llD (fun l => l.map fun w => w * (MM c / l.sum)) (fun l hl K' ac hk => ?_) ?_
  · walk_at "w"
    refine ⟨b, _, l, MM c, rfl, hc.tl l hl, by have := hc.m5; omega, hb, by omega, m2.mono (by omega), ?_⟩
    walk_at "w"
    exact hk
  rw [sc_one hs]
  walk_at "w"
  exact h

def s_law_go : FSem := fun us P Ex => ∃ (b s N : Nat) (c : Ch) (f : Nat → Int), us = [.d (mdD c), .d (llD ((List.range c.st.length).map f)), .d (.str (sS [s]))] ∧ ChOk b c ∧ b ≤ 600 ∧ N ≤ 400000 ∧ (s = 46 ∨ s ∈ c.sgs) ∧ (∀ i, i < c.st.length → Bd N (f i)) ∧ P (.nw (.lst (((List.range c.st.length).map fun j => sgi c.st.length fun i => (f i * toI c i s) * (scl (LL c) c.sp)[i]![j]!).map PyData.int)))

def w_law_go : WS := (wSeq (wIfS (tOf (wOp dNe (wV 2) (wC (.str ".")))) (wSeq (wSetD 3 (wM dSIndex (wOp dIx (wV 0) (wC (.int 0))) [(wV 2)]))
    (wSetD 1 (wLc [4, 5] (wiC cE oE [(wV 1)]) (gTupW 2 (gConsW (gN 4) (gConsW (gN 5) gNilW))) tYesW (wOp dMul (wV 5) (wOp dIx (wOp dIx (wOp dIx (wV 0) (wC (.int 3))) (wV 4)) (wV 3)))))) wNext)
    (wSeq (wSetD 6 (wOp1 dLr1 (wB dLen [(wV 1)])))
    (wRet (wLc [7] (wiS (wV 6)) (gN 7) tYesW (wB dSum [(wLc [4] (wiS (wV 6)) (gN 4) tYesW (wOp dMul (wOp dIx (wV 1) (wV 4)) (wOp dIx (wOp dIx (wOp dIx (wV 0) (wC (.int 2))) (wV 4)) (wV 7))))])))))
theorem pure_law_go : ∀ us P Ex, s_law_go us P Ex → w_law_go (startE ["model", "line", "sign", "place", "state", "weight", "states", "further"] us) (bodyP P Ex) := by
  unfold w_law_go
  rintro us P Ex ⟨b, s, N, c, f, rfl, hc, hb, hN, hs, hf, h⟩
  have e1 := hc.n6
  have e3 := hc.spl
  have e4 := hc.tll
  refine p_seq fun N1 hN1 => ?_
  have mid : ∀ (f2 : Nat → Int) (t3 : Sl), (∀ i, i < c.st.length → Bd (N + 6 * b + 1) (f2 i)) → (∀ i, i < c.st.length → f2 i = f i * toI c i s) → N1 [.d (mdD c), .d (llD ((List.range c.st.length).map f2)), .d (.str (sS [s])), t3, .no, .no, .no, .no] := by
    intro f2 t3 q1 q2
    refine hN1 _ ?_
    refine p_seq fun N2 hN2 => ?_
    walk_at "w"
    refine hN2 _ ?_
    walk_at "w"
    refine p_lcA PyData.int (fun j => sgi c.st.length fun i => f2 i * (scl (LL c) c.sp)[i]![j]!) (fun j hj K' ac hk' => ?_) ?_
    · have hj' : j < c.st.length := List.mem_range.mp hj
      walk_at "w"
      refine p_lcA PyData.int (fun i => f2 i * (scl (LL c) c.sp)[i]![j]!) (fun i hi K2 ac2 hk2 => ?_) ?_
      · have hi' : i < c.st.length := List.mem_range.mp hi
        have e6 := scl_row (L := LL c) hc.sp (i := i) (by omega)
        have mm := (q1 i hi').mc (sp_at hc hi' hj').2 (by omega)
        walk_at "w"
        rw [getB_range hi', md_2]
        walk_at "w"
        exact hk2
      · walk_at "w"
        rw [sum_map_range]
        exact hk'
    · walk_at "w"
      rw [List.map_congr_left fun j _ => sgi_congr fun i hi => by rw [q2 i hi]]
      exact h
  walk_at "w"
  refine if_both (fun z => ?_) fun z => ?_
  · have hm := hs.resolve_left z
    have hix := hc.ix hm
    refine p_seq fun N2 hN2 => ?_
    walk_at "w"
    rw [md_0]
    walk_at "w"
    refine dSIndex_s hc.nd hm ?_
    walk_at "w"
    refine hN2 _ ?_
    walk_at "w"
    refine p_lcD PyData.int (fun i => f i * toI c i s) (fun i hi K' ac hk' => ?_) ?_
    · have e6 := scl_row (L := MM c) hc.tl (i := i) (by omega)
      have et : toI c i s = (scl (MM c) c.tl)[i]![c.sgs.idxOf s]! := if_neg z
      have mm := (hf i hi).mc (toI_at hc hi hs).2 (by omega)
      rw [et] at mm hk'
      walk_at "w"
      rw [md_3]
      walk_at "w"
      rw [getB_range hi] at *
      walk_at "t"
    · exact mid _ _ (fun i hi => ((hf i hi).mul (toI_at hc hi hs).2).mono (by omega)) fun i hi => rfl
  · exact mid f _ (fun i hi => (hf i hi).mono (by omega)) fun i hi => by rw [show toI c i s = 1 from if_pos (by simpa using z), Int.mul_one]

end Dl

namespace Dl
open PySem PySem.Spec PyProof.Rows L2

local macro_rules | `(tactic| walk_at "dl") => `(tactic| (simp (config := { maxSteps := 2000000, failIfUnchanged := false }) only [startE, startI, bodyI, slOf, List.map_cons, List.map_nil, List.length_cons, List.length_nil, List.cons_append, List.nil_append, List.append_nil, Nat.reduceAdd, Nat.reduceSub, List.replicate_succ, List.replicate_zero, List.getElem?_cons_zero, List.getElem?_cons_succ, List.getElem?_nil, List.set_cons_zero, List.set_cons_succ, Nat.zero_add,
  ↓wV_eq, ↓wC_eq, ↓wOp_eq, ↓wOp1_eq, ↓wB_eq, ↓wA_nil, ↓wA_cons, ↓wTup_eq, ↓wLst_eq, ↓wCall_eq, ↓wCallK_eq, ↓wIf_eq, ↓wAnd_eq, ↓wOr_eq, ↓tOf_eq, ↓tNotW_eq, ↓tAndW_eq, ↓tOrW_eq, ↓wIsE_eq, ↓toD_d, ↓toD_nw, ↓toD_bw, toD_deck, ↓calm_d, ↓calm_nw, ↓calm_bw, calm_deck, ↓hold_d, ↓hold_nw, ↓hold_bw, hold_deck, ↓holdAll_nil, ↓holdAll_cons, ↓toDs_nil, ↓toDs_d, ↓toDs_bw, argOf_d, argOf_bw, argOf_nw, argOf_deck,
  flat_int, flat_str, flat_bool, flat_none, flat_list, flat_tuple, flat_nw, ↓dAdd_int, ↓dAdd_str, ↓dAdd_list, ↓dAdd_tuple, ↓dSub_int, ↓dMul_int, ↓dMul_list, ↓dInt_int, ↓dNeg_int, ↓dEq_int, ↓dEq_str, ↓dNe_int, ↓dNe_str, ↓dCmp_int, ↓dAbs_int, ↓dInt1_int, ↓dInt1_bool, ↓dGcd_int, dIx_tm, dIx_lm, dIx_tm0, dIx_lm0, dIx_tm1, dIx_lm1, dIx_t0, dIx_t1, dIx_t2, dIx_t3, dIx_l0, dIx_l1, dIx_l2, dIx_tl, dIx_ll, dIx_s, dIx_s0, ↓dLen_list, ↓dLen_tuple, ↓dLen_str, ↓gTupW_eq, ↓gTupL_eq, ↓gNilW_eq, ↓gConsW_eq, ↓wiC_eq, ↓wiS_eq, itemsD_l, itemsD_t, cR1_eq, oR1_eq, cR2_e, oR2_e, rangeD0, rangeDn, subNat, subNat1, Int.reduceToNat, Int.toNat_natCast, intsD_map, boolsD_map, strsD_map, Option.some.injEq, exists_eq_left', sS_length, sS_append, one_beq, dIn_s, itemsL_l, itemsL_t, itemsL_s, cE_l, cE_t, cE_s, oE_l, oE_t, oE_s, cZ_tt, cZ_tl, cZ_lt, cZ_ll, cZ_ss, oZ_tt, oZ_tl, oZ_lt, oZ_ll, oZ_ss, signsD_sS, dJoin_s, cutS_s, cutA_from1, cutA_f1, cutA_t1, cutA_to, cutA_from, cutA_mid, List.length_map, List.length_range, true_and, and_true, beq_iff_eq, decide_eq_true_eq, Bool.not_eq_true', decide_eq_false_iff_not, beq_eq_false_iff_ne, ne_eq, not_true_eq_false, not_false_eq_true, eq_self, beq_self_eq_true, Bool.true_eq_false, List.take_succ_cons, List.take_zero, prm, List.filterMap_cons, List.filterMap_nil,
  ↓wSl_eq, ↓oNone_eq, ↓oSome_eq, ↓dSl_list, ↓dSl_tuple, ↓dSl_str, ↓wChain_eq, ↓wDisp_eq, ↓wDict0_eq, ↓wM_eq, ↓dSum_list, ↓dSum_tuple, ↓dMax_list, ↓dMax_two, ↓dMin_list, ↓dMin_two, ↓dLcm_int, ↓dAllAny_list, ↓dIsi_eq, ↓dList2_list, ↓dList2_tuple, ↓dList2_str, ↓dTuple2_list, ↓dTuple2_tuple, ↓dTuple2_str, ↓dIx_dictS, ↓dIx_dictI, ↓wApp_eq, ↓wAppPop_eq, ↓wExt_eq, ↓wLc_eq, ↓tYesW_eq, wipeE_nil, wipeE_cons, restE_nil, restE_cons, frzAll_nil, frzAll_cons, frz_nil, frz_zero, frz_succ, frzS_no, frzS_d, frzS_deck, frzS_opq, frzS_lst, getD_some, ↓wSto_eq, ↓toD_nwc, ↓toD_bwc, ↓ctoD_lst, ↓ctoD_dic, ↓calm_dic, ↓calm_ins, itemsD_s,
  ↓wSet_eq, ↓wSetD_eq, ↓wIns_eq, ↓wDUpd_eq, ↓wFld_eq, ↓wSetF_eq, ↓wMeth_eq, ↓wAsgH_eq, ↓hTup_eq, ↓hCons_eq, ↓hNil_eq, ↓hOf_eq, ↓hFld_eq, ↓hSub_eq, ↓wPar3DOO_eq, ↓dRev0_s, ↓dMulT_eq, ↓wPopS_eq, ↓wSetPop_eq, ↓wSetPopAt_eq, ↓dRev_list, dRev_s, ↓dLr1_eq, ↓dLr2_eq, ↓wParDO_eq, ↓wPar3O_eq, calm_opq, stE_opq, ↓wRet_eq, ↓wDrop_eq, ↓wIfS_eq, ↓wNext_eq, ↓wBreak_eq, ↓wCont_eq, ↓wPar_eq, ↓wParO_eq, ↓wPar3_eq, ↓wTryAs_eq, ↓wTryAsF_eq, ↓wAsF_one, ↓wRaise1_eq, ↓wIsF_eq, ↓wXf_eq, ↓wAsg_eq, ↓wForI_eq, ↓stE_d, ↓stE_nw, ↓stE_bw, ↓stE_deck, retR_d, retR_nw, bodyP_nx, bodyP_rd, bodyP_rn, bodyP_ex, ↓gN_eq, lit_dot, lit_nil, gTupF, dIx_f0, dIx_f1, dMul_s, dMul_sN, flat_fD, ↓lawE_eq, lawP_rt, lawP_nx, ite_self, if_true, if_false, Bool.false_eq_true, reduceIte]))

local macro_rules | `(tactic| walk_at "bd") => `(tactic| first | with_reducible assumption | ((with_reducible apply RB.bn); assumption) | ((with_reducible apply RB.bd); assumption) | ((with_reducible apply Bd.mul); (focus walk_at "bd"); (focus walk_at "bd")))
local macro_rules | `(tactic| walk_at "sd") => `(tactic| first | with_reducible assumption | with_reducible rfl | with_reducible exact True.intro | omega | with_reducible exact ⟨_, rfl⟩ | ((with_reducible apply smallI) <;> omega) | ((with_reducible apply dmLt); omega) | ((with_reducible apply slLe); omega) | ((with_reducible apply slLt); omega) | ((with_reducible apply slLe); (simp only [List.length_append, List.length_cons, List.length_nil, List.length_map, List.length_range, List.length_take, List.length_drop, List.length_reverse]); omega) | ((with_reducible apply slLt); (simp only [List.length_append, List.length_cons, List.length_nil, List.length_map, List.length_range, List.length_take, List.length_drop, List.length_reverse]); omega) | ((with_reducible apply rgOk) <;> omega) | ((with_reducible apply Bd.mc); (focus walk_at "bd"); (focus walk_at "bd"); decide) | ((with_reducible apply Bd.dc); (focus walk_at "bd"); (focus (first | assumption | omega)); decide))
local macro_rules | `(tactic| walk_at "w") => `(tactic| (walk_at "dl"; repeat ((with_reducible (refine And.intro ?_ ?_)); (focus walk_at "sd"); walk_at "dl")))
local macro_rules | `(tactic| walk_at "n") => `(tactic| ((with_reducible refine nx_of (by assumption) ?_); walk_at "w"))
local macro_rules | `(tactic| walk_at "t") => `(tactic| (walk_at "w"; with_reducible assumption))
local macro_rules | `(tactic| walk_at "g") => `(tactic| (walk_at "w"; (repeat ((first | with_reducible refine p_seq fun _ _ => ?_ | with_reducible refine nx_of (by assumption) ?_); walk_at "w")); try (with_reducible assumption)))

theorem atNeg1 {α : Type} [Inhabited α] {n : Nat} {F : Nat → PyData} {K : R → Prop} (h : 0 < n) : dIx (.list ((List.range n).map F)) (.int (-1)) K = K (.d (F (n - 1))) := by
  show (match atI ((List.range n).map F) (-1) with
    | some z => K (.d z)
    | none => False) = _
  have e : atI ((List.range n).map F) (-1) = some (F (n - 1)) := by
    unfold atI
    have e2 : ixN ((List.range n).map F).length (-1) = some (n - 1) := by
      rw [List.length_map, List.length_range]
      unfold ixN
      rw [if_neg (by omega), if_pos (by omega)]
      congr 1
      omega
    rw [e2]
    show ((List.range n).map F)[n - 1]? = _
    rw [List.getElem?_map, List.getElem?_range (by omega)]
    rfl
  rw [e]
local macro_rules | `(tactic| walk_at "fs") => `(tactic| (refine sc_f ?_; simp only [fl_signs, fl_start, fl_begun, fl_steps, fl_stepw, fl_tells, fl_tellw, fl_beat]; walk_at "w"))
def oLn (c : Ch) (v : List Nat) : Nat → Int := fun j => match v.length with
  | 0 => c.st[j]!
  | k + 1 => onI c v (k + 1) j
def oW (c : Ch) (v : List Nat) : Int := match v.length with
  | 0 => c.st.sum
  | k + 1 => undK c v (k + 1) * LL c
theorem oLn_at {b sb : Nat} {c : Ch} {v : List Nat} (hc : ChOk b c sb) (hv : VwOk c v) {j : Nat} (hj : j < c.st.length) : ((oLn c v j : Int) : Rat) / ((oW c v : Int) : Rat) = c.on v v.length j := by
  unfold oLn oW
  cases e : v.length with
  | zero => rfl
  | succ k =>
    dsimp only
    rw [onI_at hc hv (by omega) hj]
    have := cast_ne (show undK c v (k + 1) * LL c ≠ 0 by have := Int.mul_pos (und_bd hc (v := v) (k := k + 1)).1 (LL_ok hc).1; omega)
    grind

def s_onward_line : FSem := fun us P Ex => ∃ (b sb : Nat) (v : List Nat) (c : Ch), us = [.d (scI c), .d (.str (sS v))] ∧ ChOk b c sb ∧ 1 ≤ b ∧ b ≤ 600 ∧ VwOk c v ∧ sb + v.length * (12 * b + 8) ≤ 18000 ∧ v.length ≤ 1000 ∧ P (.d (.tuple [llD ((List.range c.st.length).map (oLn c v)), .int (oW c v)]))

def w_onward_line : WS := (wSeq (wIfS (tOf (wOp dEq (wV 1) (wC (.str "")))) (wRet (wTup [(wFld "Scales" "start" (wV 0)), (wFld "Scales" "begun" (wV 0))])) wNext)
    (wSeq (wAsg (wOp dIx (wCall s_ahead_lines [(wV 0), (wV 1)]) (wOp1 dNeg (wC (.int 1)))) (gTupW 2 (gConsW (gN 2) (gConsW (gN 3) gNilW))))
    (wRet (wTup [(wCall s_gone_on [(wV 2), (wFld "Scales" "steps" (wV 0))]), (wOp dMul (wV 3) (wFld "Scales" "step_whole" (wV 0)))]))))
theorem pure_onward_line : ∀ us P Ex, s_onward_line us P Ex → w_onward_line (startE ["scales", "view", "line", "whole"] us) (bodyP P Ex) := by
  unfold w_onward_line
  rintro us P Ex ⟨b, sb, v, c, rfl, hc, hb, hb6, hv, hn, hvl, h⟩
  have e1 := hc.n1
  have e2 := hc.n6
  have e3 := hc.spl
  refine p_seq fun N hN => ?_
  walk_at "w"
  refine if_both (fun z => ?_) fun z => ?_
  · have z' := sS_inj z
    subst z'
    walk_at "w"
    walk_at "fs"
    walk_at "fs"
    have e4 : (List.range c.st.length).map (oLn c []) = c.st := Ln_row.symm
    rw [e4] at h
    exact h
  · have z' : v ≠ [] := fun y => z (by rw [y])
    obtain ⟨m, hm⟩ : ∃ m, v.length = m + 1 := ⟨v.length - 1, by have := List.length_pos_iff.mpr z'; omega⟩
    have hbk := Nat.mul_le_mul_right (12 * b + 8) (show m + 1 ≤ v.length by omega)
    have hub : Bd 19000 (undK c v (m + 1)) := (und_bd hc).2.mono (by have := Nat.mul_le_mul_left (m + 1) (show 12 * b + 2 ≤ 12 * b + 8 by omega); omega)
    have m1 := hub.mc (LL_ok hc).2.2 (by omega)
    refine hN _ ?_
    refine p_seq fun N2 hN2 => ?_
    walk_at "w"
    refine ⟨b, sb, v, c, rfl, hc, hb, hb6, hv, by omega, hvl, ?_⟩
    walk_at "w"
    have e7 : (List.range v.length)[v.length - 1]! = m := by
      rw [getElem!_pos _ _ (by simp; omega), List.getElem_range]; omega
    rw [e7]
    refine hN2 _ ?_
    walk_at "w"
    walk_at "fs"
    have hsl : (scl (LL c) c.sp).length = c.st.length := by rw [scl_len, e3]
    have e9 : ∀ l ∈ scl (LL c) c.sp, l.length = c.st.length := fun l hl => by
      obtain ⟨i, hi, rfl⟩ := List.mem_iff_getElem.mp hl
      have := scl_row (L := LL c) hc.sp (i := i) (by rw [hsl] at hi; omega)
      rwa [getElem!_pos (scl (LL c) c.sp) i hi] at this
    refine ⟨c.st.length, _, scl (LL c) c.sp, rfl, by simp, hsl, e9, by omega, fun x hx => ?_, fun l hl x hx => ?_, ?_⟩
    · obtain ⟨j, hj, rfl⟩ := List.mem_map.mp hx
      rw [List.mem_range] at hj
      exact (raI_at hc hv (k := m) (by omega) hj).2.mono (by omega)
    · obtain ⟨i, hi, rfl⟩ := List.mem_iff_getElem.mp hl
      obtain ⟨j, hj, rfl⟩ := List.mem_iff_getElem.mp hx
      have e11 := e9 _ hl
      have := (sp_at hc (i := i) (j := j) (by omega) (by omega)).2
      rw [getElem!_pos (scl (LL c) c.sp) i hi, getElem!_pos (scl (LL c) c.sp)[i] j hj] at this
      exact this.mono (by omega)
    · walk_at "w"
      walk_at "fs"
      have e10 : (List.range c.st.length).map (fun j => sgi c.st.length fun i => ((List.range c.st.length).map (raI c v (m + 1)))[i]! * (scl (LL c) c.sp)[i]![j]!) = (List.range c.st.length).map (oLn c v) := by
        refine List.map_congr_left fun j _ => ?_
        unfold oLn
        rw [hm]
        exact sgi_congr fun i hi => by rw [getB_range hi]
      rw [e10]
      have e12 : oW c v = undK c v (m + 1) * LL c := by unfold oW; rw [hm]
      rw [e12] at h
      exact h

def s_onward_shares : FSem := fun us P Ex => ∃ (b sb : Nat) (v : List Nat) (c : Ch), us = [.d (chD c), .d (.str (sS v))] ∧ ChOk b c sb ∧ 1 ≤ b ∧ b ≤ 600 ∧ VwOk c v ∧ sb + v.length * (12 * b + 8) + 6 * b ≤ 7900 ∧ v.length ≤ 1000 ∧ P (.d (onD c v))

def w_onward_shares : WS := (wRet (wOp dIx (wCall s_shares_in [(wLst [(wCall s_onward_line [(wCall s_Scales___init__ [(wV 0)]), (wV 1)])])]) (wC (.int 0))))
theorem pure_onward_shares : ∀ us P Ex, s_onward_shares us P Ex → w_onward_shares (startE ["chain", "view"] us) (bodyP P Ex) := by
  unfold w_onward_shares
  rintro us P Ex ⟨b, sb, v, c, rfl, hc, hb, hb6, hv, hn, hvl, h⟩
  have e2 := hc.n6
  walk_at "w"
  refine ⟨b, sb, c, rfl, hc, by omega, ?_⟩
  walk_at "w"
  rw [scI_fold]
  refine ⟨b, sb, v, c, rfl, hc, hb, hb6, hv, by omega, hvl, ?_⟩
  walk_at "w"
  refine ⟨1, c.st.length, 0, fun _ => oLn c v, fun _ => oW c v, rfl, by decide, by omega, fun k hk => ?_, ?_⟩
  · unfold oW
    cases e : v.length with
    | zero => exact ⟨hc.st.pos, hc.st.sbd.mono (by omega)⟩
    | succ k =>
      dsimp only
      have h1 := Nat.mul_le_mul_left v.length (show 12 * b + 2 ≤ 12 * b + 8 by omega)
      rw [e] at h1 hn
      exact ⟨Int.mul_pos (und_bd hc).1 (LL_ok hc).1, ((und_bd hc).2.mul (LL_ok hc).2.2).mono (by omega)⟩
  · walk_at "w"
    have e5 : tabD 1 c.st.length (fun _ j => ((oLn c v j : Int) : Rat) / ((oW c v : Int) : Rat)) = .tuple [onD c v] := by
      rw [tab_congr (g := fun _ j => c.on v v.length j) fun k j hk hj => oLn_at hc hv hj]
      rfl
    rw [e5]
    walk_at "w"
    exact h

end Dl

namespace Dl
open PySem PySem.Spec PyProof.Rows L2

local macro_rules | `(tactic| walk_at "dl") => `(tactic| (simp (config := { maxSteps := 2000000, failIfUnchanged := false }) only [startE, startI, bodyI, slOf, List.map_cons, List.map_nil, List.length_cons, List.length_nil, List.cons_append, List.nil_append, List.append_nil, Nat.reduceAdd, Nat.reduceSub, List.replicate_succ, List.replicate_zero, List.getElem?_cons_zero, List.getElem?_cons_succ, List.getElem?_nil, List.set_cons_zero, List.set_cons_succ, Nat.zero_add,
  ↓wV_eq, ↓wC_eq, ↓wOp_eq, ↓wOp1_eq, ↓wB_eq, ↓wA_nil, ↓wA_cons, ↓wTup_eq, ↓wLst_eq, ↓wCall_eq, ↓wCallK_eq, ↓wIf_eq, ↓wAnd_eq, ↓wOr_eq, ↓tOf_eq, ↓tNotW_eq, ↓tAndW_eq, ↓tOrW_eq, ↓wIsE_eq, ↓toD_d, ↓toD_nw, ↓toD_bw, toD_deck, ↓calm_d, ↓calm_nw, ↓calm_bw, calm_deck, ↓hold_d, ↓hold_nw, ↓hold_bw, hold_deck, ↓holdAll_nil, ↓holdAll_cons, ↓toDs_nil, ↓toDs_d, ↓toDs_bw, argOf_d, argOf_bw, argOf_nw, argOf_deck,
  flat_int, flat_str, flat_bool, flat_none, flat_list, flat_tuple, flat_nw, ↓dAdd_int, ↓dAdd_str, ↓dAdd_list, ↓dAdd_tuple, ↓dSub_int, ↓dMul_int, ↓dMul_list, ↓dInt_int, ↓dNeg_int, ↓dEq_int, ↓dEq_str, ↓dNe_int, ↓dNe_str, ↓dCmp_int, ↓dAbs_int, ↓dInt1_int, ↓dInt1_bool, ↓dGcd_int, dIx_tm, dIx_lm, dIx_tm0, dIx_lm0, dIx_tm1, dIx_lm1, dIx_t0, dIx_t1, dIx_t2, dIx_t3, dIx_l0, dIx_l1, dIx_l2, dIx_tl, dIx_ll, dIx_s, dIx_s0, ↓dLen_list, ↓dLen_tuple, ↓dLen_str, ↓gTupW_eq, ↓gTupL_eq, ↓gNilW_eq, ↓gConsW_eq, ↓wiC_eq, ↓wiS_eq, itemsD_l, itemsD_t, cR1_eq, oR1_eq, cR2_e, oR2_e, rangeD0, rangeDn, subNat, subNat1, Int.reduceToNat, Int.toNat_natCast, intsD_map, boolsD_map, strsD_map, Option.some.injEq, exists_eq_left', sS_length, sS_append, one_beq, dIn_s, itemsL_l, itemsL_t, itemsL_s, cE_l, cE_t, cE_s, oE_l, oE_t, oE_s, cZ_tt, cZ_tl, cZ_lt, cZ_ll, cZ_ss, oZ_tt, oZ_tl, oZ_lt, oZ_ll, oZ_ss, signsD_sS, dJoin_s, cutS_s, cutA_from1, cutA_f1, cutA_t1, cutA_to, cutA_from, cutA_mid, List.length_map, List.length_range, true_and, and_true, beq_iff_eq, decide_eq_true_eq, Bool.not_eq_true', decide_eq_false_iff_not, beq_eq_false_iff_ne, ne_eq, not_true_eq_false, not_false_eq_true, eq_self, beq_self_eq_true, Bool.true_eq_false, List.take_succ_cons, List.take_zero, prm, List.filterMap_cons, List.filterMap_nil,
  ↓wSl_eq, ↓oNone_eq, ↓oSome_eq, ↓dSl_list, ↓dSl_tuple, ↓dSl_str, ↓wChain_eq, ↓wDisp_eq, ↓wDict0_eq, ↓wM_eq, ↓dSum_list, ↓dSum_tuple, ↓dMax_list, ↓dMax_two, ↓dMin_list, ↓dMin_two, ↓dLcm_int, ↓dAllAny_list, ↓dIsi_eq, ↓dList2_list, ↓dList2_tuple, ↓dList2_str, ↓dTuple2_list, ↓dTuple2_tuple, ↓dTuple2_str, ↓dIx_dictS, ↓dIx_dictI, ↓wApp_eq, ↓wAppPop_eq, ↓wExt_eq, ↓wLc_eq, ↓tYesW_eq, wipeE_nil, wipeE_cons, restE_nil, restE_cons, frzAll_nil, frzAll_cons, frz_nil, frz_zero, frz_succ, frzS_no, frzS_d, frzS_deck, frzS_opq, frzS_lst, getD_some, ↓wSto_eq, ↓toD_nwc, ↓toD_bwc, ↓ctoD_lst, ↓ctoD_dic, ↓calm_dic, ↓calm_ins, itemsD_s,
  ↓wSet_eq, ↓wSetD_eq, ↓wIns_eq, ↓wDUpd_eq, ↓wFld_eq, ↓wSetF_eq, ↓wMeth_eq, ↓wAsgH_eq, ↓hTup_eq, ↓hCons_eq, ↓hNil_eq, ↓hOf_eq, ↓hFld_eq, ↓hSub_eq, ↓wPar3DOO_eq, ↓dRev0_s, ↓dMulT_eq, ↓wPopS_eq, ↓wSetPop_eq, ↓wSetPopAt_eq, ↓dRev_list, dRev_s, ↓dLr1_eq, ↓dLr2_eq, ↓wParDO_eq, ↓wPar3O_eq, calm_opq, stE_opq, ↓wRet_eq, ↓wDrop_eq, ↓wIfS_eq, ↓wNext_eq, ↓wBreak_eq, ↓wCont_eq, ↓wPar_eq, ↓wParO_eq, ↓wPar3_eq, ↓wTryAs_eq, ↓wTryAsF_eq, ↓wAsF_one, ↓wRaise1_eq, ↓wIsF_eq, ↓wXf_eq, ↓wAsg_eq, ↓wForI_eq, ↓stE_d, ↓stE_nw, ↓stE_bw, ↓stE_deck, retR_d, retR_nw, bodyP_nx, bodyP_rd, bodyP_rn, bodyP_ex, ↓gN_eq, lit_dot, lit_nil, gTupF, dIx_f0, dIx_f1, dMul_s, dMul_sN, flat_fD, ↓lawE_eq, lawP_rt, lawP_nx, ite_self, if_true, if_false, Bool.false_eq_true, reduceIte]))

local macro_rules | `(tactic| walk_at "bd") => `(tactic| first | with_reducible assumption | ((with_reducible apply RB.bn); assumption) | ((with_reducible apply RB.bd); assumption) | ((with_reducible apply Bd.mul); (focus walk_at "bd"); (focus walk_at "bd")))
local macro_rules | `(tactic| walk_at "sd") => `(tactic| first | with_reducible assumption | with_reducible rfl | with_reducible exact True.intro | omega | with_reducible exact ⟨_, rfl⟩ | ((with_reducible apply smallI) <;> omega) | ((with_reducible apply dmLt); omega) | ((with_reducible apply slLe); omega) | ((with_reducible apply slLt); omega) | ((with_reducible apply slLe); (simp only [List.length_append, List.length_cons, List.length_nil, List.length_map, List.length_range, List.length_take, List.length_drop, List.length_reverse]); omega) | ((with_reducible apply slLt); (simp only [List.length_append, List.length_cons, List.length_nil, List.length_map, List.length_range, List.length_take, List.length_drop, List.length_reverse]); omega) | ((with_reducible apply rgOk) <;> omega) | ((with_reducible apply Bd.mc); (focus walk_at "bd"); (focus walk_at "bd"); decide) | ((with_reducible apply Bd.dc); (focus walk_at "bd"); (focus (first | assumption | omega)); decide))
local macro_rules | `(tactic| walk_at "w") => `(tactic| (walk_at "dl"; repeat ((with_reducible (refine And.intro ?_ ?_)); (focus walk_at "sd"); walk_at "dl")))
local macro_rules | `(tactic| walk_at "n") => `(tactic| ((with_reducible refine nx_of (by assumption) ?_); walk_at "w"))
local macro_rules | `(tactic| walk_at "t") => `(tactic| (walk_at "w"; with_reducible assumption))
local macro_rules | `(tactic| walk_at "g") => `(tactic| (walk_at "w"; (repeat ((first | with_reducible refine p_seq fun _ _ => ?_ | with_reducible refine nx_of (by assumption) ?_); walk_at "w")); try (with_reducible assumption)))

theorem Bd.div {b : Nat} {x y : Int} (h : Bd b x) : Bd b (x / y) := h.le (Int.natAbs_ediv_le_natAbs ..)
theorem gcdL_bd {b : Nat} {ws : List Int} (h : ∀ w ∈ ws, Bd b w) (z : ∃ w ∈ ws, w ≠ 0) : Bd b (gcdL ws : Int) := by
  obtain ⟨w, hw, hz⟩ := z
  refine (h w hw).le ?_
  have := Int.natAbs_dvd_natAbs.mpr (gcdL_dvd hw)
  exact Nat.le_of_dvd (by omega) this
theorem depth_fDs : ∀ {qs : List Rat}, PyData.depthAll (qs.map fD) ≤ 2
  | [] => by simp [PyData.depthAll]
  | g :: gs => by
    have ih := depth_fDs (qs := gs)
    simp only [List.map_cons, PyData.depthAll, PyData.depth, fD]
    omega
theorem lay_fDs : ∀ {qs : List Rat}, PyData.canLayAll0 (qs.map fD) = true
  | [] => rfl
  | g :: gs => by
    have ih := lay_fDs (qs := gs)
    simp only [List.map_cons, PyData.canLayAll0, PyData.canLay0, fD, ih, Bool.and_self]
theorem shaped_fDs {qs : List Rat} : SeqAt.shaped (.list (qs.map fD)) = true := by
  have h1 := depth_fDs (qs := qs)
  unfold SeqAt.shaped
  rw [Bool.and_eq_true, decide_eq_true_eq]
  refine ⟨by rw [PyData.canLay0]; exact lay_fDs, ?_⟩
  rw [PyData.depth]
  omega
theorem shaped_fD {q : Rat} : SeqAt.shaped (fD q) = true := rfl
theorem dEq_nilL {xs : List PyData} {K : R → Prop} (h : SeqAt.shaped (.list xs) = true) : dEq (.list xs) (.list []) K = K (.d (.bool (decide (xs = [])))) := by
  have e : PyData.eqv (.list xs) (.list []) = decide (xs = []) := by
    cases xs with
    | nil => rfl
    | cons g gs => rfl
  show (EqC _ _ ∧ K (.d (.bool (PyData.eqv _ _)))) = _
  rw [e]
  exact propext ⟨fun h => h.2, fun k => ⟨.inr ⟨h, rfl⟩, k⟩⟩
theorem eqv_f0 {q : Rat} : PyData.eqv (fD q) (.tuple [.int 0, .int 1]) = decide (q = 0) := by
  show ((q.num == 0) && (((q.den : Int) == 1) && true)) = _
  by_cases z : q = 0
  · subst z; rfl
  · rw [decide_eq_false z]
    have : q.num ≠ 0 := fun y => z (Rat.num_eq_zero.mp y)
    simp [this]
theorem dNe_f0 {q : Rat} {K : R → Prop} : dNe (fD q) (.tuple [.int 0, .int 1]) K = K (.d (.bool (!decide (q = 0)))) := by
  show (EqC _ _ ∧ K (.d (.bool (!PyData.eqv _ _)))) = _
  rw [eqv_f0]
  exact propext ⟨fun h => h.2, fun k => ⟨.inr ⟨rfl, rfl⟩, k⟩⟩

def s_plain_line : FSem := fun us P Ex => ∃ ws : List Int, us = [.d (lnD ws)] ∧ (∀ w ∈ ws, Bd 8000 w) ∧ (∃ w ∈ ws, w ≠ 0) ∧ ws.length ≤ 1000 ∧ P (.d (lnD (plainL ws)))

def w_plain_line : WS := (wSeq (wSetD 1 (wC (.int 0)))
    (wSeq (wForI (wiS (wV 0)) (gN 2) (wSetD 1 (wCall s_greatest_divisor [(wV 1), (wV 2)])))
    (wRet (wB dTuple2 [(wLc [2] (wiS (wV 0)) (gN 2) tYesW (wOp (dInt Int.fdiv DivC) (wV 2) (wV 1)))]))))
theorem pure_plain_line : ∀ us P Ex, s_plain_line us P Ex → w_plain_line (startE ["line", "divisor", "weight"] us) (bodyP P Ex) := by
  unfold w_plain_line
  rintro us P Ex ⟨ws, rfl, hw, hz, hl, h⟩
  have hg := gcdL_bd hw hz
  have h0 : gcdL ws ≠ 0 := by obtain ⟨w, h1, h2⟩ := hz; exact gcdL_ne h1 h2
  refine p_seq fun N hN => ?_
  walk_at "w"
  refine hN _ ?_
  refine p_seq fun N2 hN2 => ?_
  walk_at "w"
  refine p_forA (fun k e => ∃ t2 : Sl, e = [.d (lnD ws), .d (.int (gcdL (ws.take k) : Int)), t2] ∧ (t2 = .no ∨ ∃ x, t2 = .d x)) ⟨.no, rfl, .inl rfl⟩ (fun k e K hk ⟨t2, he, ht⟩ hK => ?_) ?_
  · subst he
    have e1 : gcdL (ws.take (k + 1)) = Int.gcd (gcdL (ws.take k) : Int) ws[k]! := by
      rw [List.take_succ_eq_append_getElem hk, gcdL_snoc, ← getElem!_pos ws k hk]; rfl
    walk_at "w"
    refine ⟨_, _, rfl, ?_⟩
    walk_at "w"
    rw [← e1]
    exact hK _ ⟨_, rfl, .inr ⟨_, rfl⟩⟩
  · rintro e ⟨t2, rfl, ht⟩
    rw [List.take_length]
    refine hN2 _ ?_
    have it : ∀ w ∈ ws, DivC w (gcdL ws : Int) ∧ w.fdiv (gcdL ws : Int) = w / (gcdL ws : Int) := fun w _ => ⟨hg.dc (by omega) (by decide), Int.fdiv_eq_ediv_of_nonneg _ (by omega)⟩
    rcases ht with rfl | ⟨x, rfl⟩
    · walk_at "w"
      refine p_lcA PyData.int (fun w => w / (gcdL ws : Int)) (fun w hw2 K' ac hk => ?_) h
      obtain ⟨hd, e2⟩ := it w hw2
      rw [← e2] at hk
      walk_at "t"
    · walk_at "w"
      refine p_lcA PyData.int (fun w => w / (gcdL ws : Int)) (fun w hw2 K' ac hk => ?_) h
      obtain ⟨hd, e2⟩ := it w hw2
      rw [← e2] at hk
      walk_at "t"

def s_plain : FSem := fun us P Ex => ∃ (b sb : Nat) (c : Ch), us = [.d (chD c)] ∧ ChOk b c sb ∧ sb ≤ 8000 ∧ b ≤ 8000 ∧ P (.d (chD ⟨c.sgs, plainL c.st, c.sp.map plainL, c.tl.map plainL⟩))

def w_plain : WS := (wSeq (wAsg (wV 0) (gTupW 4 (gConsW (gN 1) (gConsW (gN 2) (gConsW (gN 3) (gConsW (gN 4) gNilW))))))
    (wSeq (wSetD 5 (wB dTuple2 [(wLc [6] (wiS (wV 3)) (gN 6) tYesW (wCall s_plain_line [(wV 6)]))]))
    (wRet (wTup [(wV 1), (wCall s_plain_line [(wV 2)]), (wV 5), (wB dTuple2 [(wLc [6] (wiS (wV 4)) (gN 6) tYesW (wCall s_plain_line [(wV 6)]))])]))))
theorem pure_plain : ∀ us P Ex, s_plain us P Ex → w_plain (startE ["chain", "signs", "start", "steps", "tells", "fresh_steps", "own"] us) (bodyP P Ex) := by
  unfold w_plain
  rintro us P Ex ⟨b, sb, c, rfl, hc, hs, hb, h⟩
  have e1 := hc.n6
  have e2 := hc.m5
  have e3 := hc.spl
  have e4 := hc.tll
  have line : ∀ (b m : Nat) (ws : List Int) (Q : R → Prop) (Ey : Exn → Prop), LnOk b m ws → b ≤ 8000 → m ≤ 1000 → Q (.d (lnD (plainL ws))) → s_plain_line [.d (lnD ws)] Q Ey := fun b m ws Q Ey hl hb hm q => ⟨ws, rfl, fun w hw => (Bd.of (hl.nn w hw) (Int.lt_of_le_of_lt (sum_ge hl.nn hw) hl.bd)).mono hb, by
    have hp := hl.pos
    rcases Classical.em (∃ w ∈ ws, w ≠ 0) with z | z
    · exact z
    · exfalso
      have : ∀ l : List Int, (∀ w ∈ l, w = 0) → l.sum = 0 := fun l => by
        induction l with
        | nil => intro _; rfl
        | cons a l ih => intro q; rw [List.sum_cons, q a List.mem_cons_self, ih fun w hw => q w (List.mem_cons_of_mem _ hw)]; rfl
      have h2 := this ws fun w hw => Classical.byContradiction fun y => z ⟨w, hw, y⟩
      omega, by rw [hl.len]; exact hm, q⟩
  refine p_seq fun N hN => ?_
  walk_at "w"
  refine hN _ ?_
  refine p_seq fun N2 hN2 => ?_
  walk_at "w"
  refine p_lcA lnD plainL (fun l hl K' ac hk => ?_) ?_
  · walk_at "w"
    refine line b _ l _ _ (hc.sp l hl) hb (by omega) ?_
    walk_at "w"
    exact hk
  walk_at "w"
  refine hN2 _ ?_
  walk_at "w"
  refine line sb _ c.st _ _ hc.st hs (by omega) ?_
  walk_at "w"
  refine p_lcA lnD plainL (fun l hl K' ac hk => ?_) ?_
  · walk_at "w"
    refine line b _ l _ _ (hc.tl l hl) hb (by omega) ?_
    walk_at "w"
    exact hk
  walk_at "w"
  exact h

def s_line_of : FSem := fun us P Ex => ∃ (n r : Nat) (f : Nat → Rat) (g : Nat → Int) (A : Int), us = [.d (.tuple ((List.range n).map fun j => fD (f j)))] ∧ n ≤ 1000 ∧ n * r ≤ 7900 ∧ r ≤ 7900 ∧ (∀ j, j < n → RB r (f j) ∧ 0 ≤ f j ∧ f j ≤ 1) ∧ (∃ j, j < n ∧ f j ≠ 0) ∧ 0 < A ∧ (∀ j, j < n → ((g j : Int) : Rat) = f j * ((A : Int) : Rat)) ∧ P (.d (lnD (plainL ((List.range n).map g))))

def w_line_of : WS := (wSeq (wSetD 1 (wCall s_least_multiple [(wLc [2] (wiS (wV 0)) (gN 2) tYesW (wOp dIx (wV 2) (wC (.int 1))))]))
    (wRet (wCall s_plain_line [(wB dTuple2 [(wLc [2] (wiS (wV 0)) (gN 2) tYesW (wOp dMul (wOp dIx (wV 2) (wC (.int 0))) (wOp (dInt Int.fdiv DivC) (wV 1) (wOp dIx (wV 2) (wC (.int 1))))))])])))
theorem pure_line_of : ∀ us P Ex, s_line_of us P Ex → w_line_of (startE ["fractions", "common", "own"] us) (bodyP P Ex) := by
  unfold w_line_of
  rintro us P Ex ⟨n, r, f, g, A, rfl, hn, hnr, hr, hf, hz, hA, hg, h⟩
  refine p_seq fun N hN => ?_
  walk_at "w"
  refine p_lcD PyData.int (fun j => ((f j).den : Int)) (fun j hj K' ac hk => ?_) ?_
  · walk_at "t"
  walk_at "w"
  have hd : ∀ x ∈ (List.range n).map (fun j => ((f j).den : Int)), 0 < x ∧ x < 2 ^ r := fun x hx => by
    obtain ⟨j, hj, rfl⟩ := List.mem_map.mp hx
    have h1 := (hf j (List.mem_range.mp hj)).1.2
    have h2 := (f j).den_pos
    exact ⟨by omega, by exact_mod_cast h1⟩
  obtain ⟨l1, l2, l3⟩ := lcmL_ok hd
  refine ⟨r, _, rfl, hd, by simp; omega, by omega, ?_⟩
  walk_at "w"
  refine hN _ ?_
  rw [List.length_map, List.length_range] at l3
  have l2' : ∀ j, j < n → ((f j).den : Int) ∣ lcmL ((List.range n).map fun j => ((f j).den : Int)) := fun j hj => l2 _ (List.mem_map.mpr ⟨j, List.mem_range.mpr hj, rfl⟩)
  generalize lcmL ((List.range n).map fun j => ((f j).den : Int)) = C at *
  have hC : Bd 7901 C := Nat.lt_of_le_of_lt l3 (Nat.pow_lt_pow_right (by decide) (by omega))
  have X : ∀ j, j < n → (((f j).num * (C / ((f j).den : Int)) : Int) : Rat) = f j * ((C : Int) : Rat) := fun j hj => by
    obtain ⟨m, hm⟩ := l2' j hj
    have hdn : ((f j).den : Int) ≠ 0 := by have := (f j).den_pos; omega
    rw [hm, Int.mul_ediv_cancel_left _ hdn, Rat.intCast_mul, Rat.intCast_mul]
    have h1 := num_den (f j)
    have h2 := cast_ne hdn
    grind
  have Xb : ∀ j, j < n → 0 ≤ (f j).num * (C / ((f j).den : Int)) ∧ (f j).num * (C / ((f j).den : Int)) ≤ C := fun j hj => by
    have h1 := X j hj
    have h2 := hf j hj
    have h3 : (0 : Rat) ≤ ((C : Int) : Rat) := Rat.intCast_nonneg.mpr (by omega)
    constructor
    · refine Rat.intCast_nonneg.mp ?_
      rw [h1]
      exact Rat.mul_nonneg h2.2.1 h3
    · refine Rat.intCast_le_intCast.mp ?_
      rw [h1]
      have := Rat.mul_le_mul_of_nonneg_right h2.2.2 h3
      rwa [Rat.one_mul] at this
  walk_at "w"
  refine p_lcD PyData.int (fun j => (f j).num * (C / ((f j).den : Int))) (fun j hj K' ac hk => ?_) ?_
  · have hR := (hf j hj).1
    have hdn : ((f j).den : Int) ≠ 0 := by have := (f j).den_pos; omega
    have hdc : DivC C ((f j).den : Int) := (hR.bd.mono (n := 8000) (by omega)).dc hdn (by decide)
    have e2 : C.fdiv ((f j).den : Int) = C / ((f j).den : Int) := Int.fdiv_eq_ediv_of_nonneg _ (by omega)
    have hmc : MulC (f j).num (C / ((f j).den : Int)) := hR.bn.mc (hC.le (Int.natAbs_ediv_le_natAbs ..)) (by omega)
    rw [← e2] at hmc hk
    walk_at "t"
  walk_at "w"
  refine ⟨_, rfl, fun w hw => ?_, ?_, by simpa using hn, ?_⟩
  · obtain ⟨j, hj, rfl⟩ := List.mem_map.mp hw
    obtain ⟨y1, y2⟩ := Xb j (List.mem_range.mp hj)
    exact (hC.le (by omega)).mono (by decide)
  · obtain ⟨j, hj, hz⟩ := hz
    refine ⟨_, List.mem_map.mpr ⟨j, List.mem_range.mpr hj, rfl⟩, fun z => ?_⟩
    have h1 := X j hj
    rw [z] at h1
    have h2 := cast_ne (show C ≠ 0 by omega)
    have e0 : ((0 : Int) : Rat) = 0 := rfl
    rw [e0] at h1
    rcases Rat.mul_eq_zero.mp h1.symm with y | y
    · exact hz y
    · exact h2 y
  walk_at "w"
  have e3 : plainL ((List.range n).map fun j => (f j).num * (C / ((f j).den : Int))) = plainL ((List.range n).map g) := by
    refine plain_eq (A := A) (B := C) (by simp) hA l1 fun j hj => ?_
    have hj' : j < n := by simpa using hj
    rw [getB_range hj', getB_range hj']
    refine Rat.intCast_inj.mp ?_
    rw [Rat.intCast_mul, X j hj', Rat.intCast_mul, hg j hj']
    grind
  rw [e3]
  exact h

def s_behind_view : FSem := fun us P Ex => ∃ (b sb r : Nat) (v : List Nat) (c : Ch), us = [.d (chD c), .d (.str (sS v))] ∧ ChOk b c sb ∧ 1 ≤ b ∧ b ≤ 600 ∧ VwOk c v ∧ sb + v.length * (12 * b + 8) + 6 * b ≤ 7900 ∧ v.length ≤ 1000 ∧ (∀ j, j < c.st.length → RB r (c.on v v.length j)) ∧ c.st.length * r ≤ 7900 ∧ sb + v.length * (2 * (c.st.length * b)) ≤ 7900 ∧ (c.nev v → Ex ⟨"Never", []⟩) ∧ (¬ c.nev v → P (.d (chD (behC c v))))

def w_behind_view : WS := (wSeq (wSetD 2 (wCall s_onward_shares [(wV 0), (wV 1)]))
    (wSeq (wIfS (tOf (wOp dEq (wLc [3] (wiS (wV 2)) (gN 3) (tOf (wOp dNe (wV 3) (wC (.tuple [(.int 0), (.int 1)])))) (wV 3)) (wLst []))) (fun env P => P.ex ⟨"Never", []⟩ env) wNext)
    (wRet (wCall s_plain [(wTup [(wOp dIx (wV 0) (wC (.int 0))), (wCall s_line_of [(wV 2)]), (wOp dIx (wV 0) (wC (.int 2))), (wOp dIx (wV 0) (wC (.int 3)))])]))))
theorem pure_behind_view : ∀ us P Ex, s_behind_view us P Ex → w_behind_view (startE ["chain", "view", "shares", "share"] us) (bodyP P Ex) := by
  unfold w_behind_view
  rintro us P Ex ⟨b, sb, r, v, c, rfl, hc, hb, hb6, hv, hn, hvl, hR, hr, hsb, h0, h1⟩
  have e1 := hc.n6
  refine p_seq fun N hN => ?_
  walk_at "w"
  refine ⟨b, sb, v, c, rfl, hc, hb, hb6, hv, hn, hvl, ?_⟩
  walk_at "w"
  refine hN _ ?_
  refine p_seq fun N2 hN2 => ?_
  have eo : onD c v = .tuple ((List.range c.st.length).map fun j => fD (c.on v v.length j)) := rfl
  rw [eo]
  walk_at "w"
  refine p_lcF (fun j => fD (c.on v v.length j)) (fun j => !decide (c.on v v.length j = 0)) (fun j hj K' ac h1 h2 => ?_) ?_
  · walk_at "w"
    rw [dNe_f0]
    walk_at "w"
    by_cases z : c.on v v.length j = 0
    · simp only [z, decide_true, Bool.not_true, Bool.false_eq_true, if_false]
      exact h2 (by simp [z])
    · simp only [z, decide_false, Bool.not_false, if_true]
      walk_at "w"
      exact h1 (by simp [z])
  walk_at "w"
  have e5 : ((List.range c.st.length).filter fun j => !decide (c.on v v.length j = 0)).map (fun j => fD (c.on v v.length j)) = (((List.range c.st.length).filter fun j => !decide (c.on v v.length j = 0)).map fun j => c.on v v.length j).map fD := by
    rw [List.map_map]; rfl
  rw [e5, dEq_nilL shaped_fDs, ← e5]
  have e6 : (((List.range c.st.length).filter fun j => !decide (c.on v v.length j = 0)).map (fun j => fD (c.on v v.length j)) = []) ↔ c.nev v := by
    rw [List.map_eq_nil_iff, List.filter_eq_nil_iff]
    constructor
    · intro q j hj
      have := q j (List.mem_range.mpr hj)
      simpa using this
    · intro q j hj
      have := q j (List.mem_range.mp hj)
      simpa using this
  walk_at "w"
  refine if_both (fun z => h0 (e6.mp z)) fun z => ?_
  have hp : ¬ c.nev v := fun q => z (e6.mpr q)
  refine hN2 _ ?_
  walk_at "w"
  have hj0 : ∃ j, j < c.st.length ∧ c.on v v.length j ≠ 0 := Classical.byContradiction fun y => hp fun j hj => Classical.byContradiction fun y2 => y ⟨j, hj, y2⟩
  have hgl := goR_ln hc hb hv hp
  refine ⟨c.st.length, r, fun j => c.on v v.length j, goI c v v.length, goW c v v.length, rfl, by omega, hr, Nat.le_trans (Nat.le_mul_of_pos_left r (by have := hc.n1; omega)) hr, fun j hj => ⟨hR j hj, on01 hc hb hv (Nat.le_refl _) hj⟩, hj0, goW_pos hc, fun j hj => (goI_at hc hv (Nat.le_refl _) hj).1, ?_⟩
  walk_at "w"
  have hl2 : (plainL (goR c v v.length)).length = c.st.length := by rw [plain_len, goR_len]
  have hc2 : ChOk b ⟨c.sgs, plainL (goR c v v.length), c.sp, c.tl⟩ (sb + v.length * (2 * (c.st.length * b))) := by
    refine ⟨by show 1 ≤ (plainL _).length; rw [hl2]; exact hc.n1, by show (plainL _).length ≤ 6; rw [hl2]; exact hc.n6, hc.m1, hc.m5, hc.nd, hc.low, ?_, ?_, ?_, ?_, hc.tl⟩
    · show LnOk _ (plainL _).length _; rw [hl2]; exact plain_ln hgl
    · show c.sp.length = (plainL _).length; rw [hl2]; exact hc.spl
    · show ∀ l ∈ c.sp, LnOk b (plainL _).length l; rw [hl2]; exact hc.sp
    · show c.tl.length = (plainL _).length; rw [hl2]; exact hc.tll
  refine ⟨b, _, _, rfl, hc2, by omega, by omega, ?_⟩
  walk_at "w"
  have k := h1 hp
  have e7 : (⟨c.sgs, plainL (plainL (goR c v v.length)), c.sp.map plainL, c.tl.map plainL⟩ : Ch) = behC c v := by
    rw [plain_idem]; rfl
  rw [← e7] at k
  exact k

end Dl

namespace Dl
open PySem PySem.Spec PyProof.Rows L2

local macro_rules | `(tactic| walk_at "dl") => `(tactic| (simp (config := { maxSteps := 2000000, failIfUnchanged := false }) only [startE, startI, bodyI, slOf, List.map_cons, List.map_nil, List.length_cons, List.length_nil, List.cons_append, List.nil_append, List.append_nil, Nat.reduceAdd, Nat.reduceSub, List.replicate_succ, List.replicate_zero, List.getElem?_cons_zero, List.getElem?_cons_succ, List.getElem?_nil, List.set_cons_zero, List.set_cons_succ, Nat.zero_add,
  ↓wV_eq, ↓wC_eq, ↓wOp_eq, ↓wOp1_eq, ↓wB_eq, ↓wA_nil, ↓wA_cons, ↓wTup_eq, ↓wLst_eq, ↓wCall_eq, ↓wCallK_eq, ↓wIf_eq, ↓wAnd_eq, ↓wOr_eq, ↓tOf_eq, ↓tNotW_eq, ↓tAndW_eq, ↓tOrW_eq, ↓wIsE_eq, ↓toD_d, ↓toD_nw, ↓toD_bw, toD_deck, ↓calm_d, ↓calm_nw, ↓calm_bw, calm_deck, ↓hold_d, ↓hold_nw, ↓hold_bw, hold_deck, ↓holdAll_nil, ↓holdAll_cons, ↓toDs_nil, ↓toDs_d, ↓toDs_bw, argOf_d, argOf_bw, argOf_nw, argOf_deck,
  flat_int, flat_str, flat_bool, flat_none, flat_list, flat_tuple, flat_nw, ↓dAdd_int, ↓dAdd_str, ↓dAdd_list, ↓dAdd_tuple, ↓dSub_int, ↓dMul_int, ↓dMul_list, ↓dInt_int, ↓dNeg_int, ↓dEq_int, ↓dEq_str, ↓dNe_int, ↓dNe_str, ↓dCmp_int, ↓dAbs_int, ↓dInt1_int, ↓dInt1_bool, ↓dGcd_int, dIx_tm, dIx_lm, dIx_tm0, dIx_lm0, dIx_tm1, dIx_lm1, dIx_t0, dIx_t1, dIx_t2, dIx_t3, dIx_l0, dIx_l1, dIx_l2, dIx_tl, dIx_ll, dIx_s, dIx_s0, ↓dLen_list, ↓dLen_tuple, ↓dLen_str, ↓gTupW_eq, ↓gTupL_eq, ↓gNilW_eq, ↓gConsW_eq, ↓wiC_eq, ↓wiS_eq, itemsD_l, itemsD_t, cR1_eq, oR1_eq, cR2_e, oR2_e, rangeD0, rangeDn, subNat, subNat1, Int.reduceToNat, Int.toNat_natCast, intsD_map, boolsD_map, strsD_map, Option.some.injEq, exists_eq_left', sS_length, sS_append, one_beq, dIn_s, itemsL_l, itemsL_t, itemsL_s, cE_l, cE_t, cE_s, oE_l, oE_t, oE_s, cZ_tt, cZ_tl, cZ_lt, cZ_ll, cZ_ss, oZ_tt, oZ_tl, oZ_lt, oZ_ll, oZ_ss, signsD_sS, dJoin_s, cutS_s, cutA_from1, cutA_f1, cutA_t1, cutA_to, cutA_from, cutA_mid, List.length_map, List.length_range, true_and, and_true, beq_iff_eq, decide_eq_true_eq, Bool.not_eq_true', decide_eq_false_iff_not, beq_eq_false_iff_ne, ne_eq, not_true_eq_false, not_false_eq_true, eq_self, beq_self_eq_true, Bool.true_eq_false, List.take_succ_cons, List.take_zero, prm, List.filterMap_cons, List.filterMap_nil,
  ↓wSl_eq, ↓oNone_eq, ↓oSome_eq, ↓dSl_list, ↓dSl_tuple, ↓dSl_str, ↓wChain_eq, ↓wDisp_eq, ↓wDict0_eq, ↓wM_eq, ↓dSum_list, ↓dSum_tuple, ↓dMax_list, ↓dMax_two, ↓dMin_list, ↓dMin_two, ↓dLcm_int, ↓dAllAny_list, ↓dIsi_eq, ↓dList2_list, ↓dList2_tuple, ↓dList2_str, ↓dTuple2_list, ↓dTuple2_tuple, ↓dTuple2_str, ↓dIx_dictS, ↓dIx_dictI, ↓wApp_eq, ↓wAppPop_eq, ↓wExt_eq, ↓wLc_eq, ↓tYesW_eq, wipeE_nil, wipeE_cons, restE_nil, restE_cons, frzAll_nil, frzAll_cons, frz_nil, frz_zero, frz_succ, frzS_no, frzS_d, frzS_deck, frzS_opq, frzS_lst, getD_some, ↓wSto_eq, ↓toD_nwc, ↓toD_bwc, ↓ctoD_lst, ↓ctoD_dic, ↓calm_dic, ↓calm_ins, itemsD_s,
  ↓wSet_eq, ↓wSetD_eq, ↓wIns_eq, ↓wDUpd_eq, ↓wFld_eq, ↓wSetF_eq, ↓wMeth_eq, ↓wAsgH_eq, ↓hTup_eq, ↓hCons_eq, ↓hNil_eq, ↓hOf_eq, ↓hFld_eq, ↓hSub_eq, ↓wPar3DOO_eq, ↓dRev0_s, ↓dMulT_eq, ↓wPopS_eq, ↓wSetPop_eq, ↓wSetPopAt_eq, ↓dRev_list, dRev_s, ↓dLr1_eq, ↓dLr2_eq, ↓wParDO_eq, ↓wPar3O_eq, calm_opq, stE_opq, ↓wRet_eq, ↓wDrop_eq, ↓wIfS_eq, ↓wNext_eq, ↓wBreak_eq, ↓wCont_eq, ↓wPar_eq, ↓wParO_eq, ↓wPar3_eq, ↓wTryAs_eq, ↓wTryAsF_eq, ↓wAsF_one, ↓wRaise1_eq, ↓wIsF_eq, ↓wXf_eq, ↓wAsg_eq, ↓wForI_eq, ↓stE_d, ↓stE_nw, ↓stE_bw, ↓stE_deck, retR_d, retR_nw, bodyP_nx, bodyP_rd, bodyP_rn, bodyP_ex, ↓gN_eq, lit_dot, lit_nil, gTupF, dIx_f0, dIx_f1, dMul_s, dMul_sN, flat_fD, ↓lawE_eq, lawP_rt, lawP_nx, ite_self, if_true, if_false, Bool.false_eq_true, reduceIte]))

local macro_rules | `(tactic| walk_at "bd") => `(tactic| first | with_reducible assumption | ((with_reducible apply RB.bn); assumption) | ((with_reducible apply RB.bd); assumption) | ((with_reducible apply Bd.mul); (focus walk_at "bd"); (focus walk_at "bd")))
local macro_rules | `(tactic| walk_at "sd") => `(tactic| first | with_reducible assumption | with_reducible rfl | with_reducible exact True.intro | omega | with_reducible exact ⟨_, rfl⟩ | ((with_reducible apply smallI) <;> omega) | ((with_reducible apply dmLt); omega) | ((with_reducible apply slLe); omega) | ((with_reducible apply slLt); omega) | ((with_reducible apply slLe); (simp only [List.length_append, List.length_cons, List.length_nil, List.length_map, List.length_range, List.length_take, List.length_drop, List.length_reverse]); omega) | ((with_reducible apply slLt); (simp only [List.length_append, List.length_cons, List.length_nil, List.length_map, List.length_range, List.length_take, List.length_drop, List.length_reverse]); omega) | ((with_reducible apply rgOk) <;> omega) | ((with_reducible apply Bd.mc); (focus walk_at "bd"); (focus walk_at "bd"); decide) | ((with_reducible apply Bd.dc); (focus walk_at "bd"); (focus (first | assumption | omega)); decide))
local macro_rules | `(tactic| walk_at "w") => `(tactic| (walk_at "dl"; repeat ((with_reducible (refine And.intro ?_ ?_)); (focus walk_at "sd"); walk_at "dl")))
local macro_rules | `(tactic| walk_at "n") => `(tactic| ((with_reducible refine nx_of (by assumption) ?_); walk_at "w"))
local macro_rules | `(tactic| walk_at "t") => `(tactic| (walk_at "w"; with_reducible assumption))
local macro_rules | `(tactic| walk_at "g") => `(tactic| (walk_at "w"; (repeat ((first | with_reducible refine p_seq fun _ _ => ?_ | with_reducible refine nx_of (by assumption) ?_); walk_at "w")); try (with_reducible assumption)))

theorem allz_sum : ∀ {l : List Int}, (∀ w ∈ l, w = 0) → l.sum = 0
  | [], _ => rfl
  | a :: l, q => by rw [List.sum_cons, q a List.mem_cons_self, allz_sum fun w hw => q w (List.mem_cons_of_mem _ hw)]; rfl
theorem LnOk.some {b n : Nat} {ws : List Int} (h : LnOk b n ws) : ∃ w ∈ ws, w ≠ 0 := by
  rcases Classical.em (∃ w ∈ ws, w ≠ 0) with z | z
  · exact z
  · have h2 := allz_sum (l := ws) fun w hw => Classical.byContradiction fun y => z ⟨w, hw, y⟩
    have := h.pos
    omega
theorem LnOk.all {b n : Nat} {ws : List Int} (h : LnOk b n ws) : ∀ w ∈ ws, Bd b w := fun w hw => Bd.of (h.nn w hw) (Int.lt_of_le_of_lt (sum_ge h.nn hw) h.bd)
def duR (c : Ch) (v : List Nat) (k : Nat) : List Int := if k = 0 then c.st else plainL (goR c v k)
theorem goR_0 {c : Ch} {v : List Nat} : goR c v 0 = c.st := Ln_row.symm
theorem duR_back (c : Ch) (v : List Nat) (k : Nat) : ∃ m : Int, 0 < m ∧ (duR c v k).map (fun w => w * m) = goR c v k := by
  unfold duR
  by_cases z : k = 0
  · subst z
    rw [if_pos rfl, goR_0]
    exact ⟨1, by decide, by simp⟩
  · rw [if_neg z]
    exact plain_back _
theorem duR_len {c : Ch} {v : List Nat} {k : Nat} : (duR c v k).length = c.st.length := by
  unfold duR
  split
  · rfl
  · rw [plain_len, goR_len]
theorem plain_duR {c : Ch} {v : List Nat} {k : Nat} : plainL (duR c v k) = plainL (goR c v k) := by
  unfold duR
  by_cases z : k = 0
  · rw [if_pos z, z, goR_0]
  · rw [if_neg z, plain_idem]
theorem duR_at {c : Ch} {v : List Nat} {k : Nat} {m : Int} (h : (duR c v k).map (fun w => w * m) = goR c v k) {j : Nat} (hj : j < c.st.length) : (duR c v k)[j]! * m = goI c v k j := by
  rw [← goR_at hj, ← h, getB_map (by rw [duR_len]; exact hj)]
theorem dIs_nn {K : R → Prop} : dIs false .none .none K = K (.d (.bool true)) := rfl
theorem dIs_tn {xs : List PyData} {K : R → Prop} : dIs false (.tuple xs) .none K = K (.d (.bool false)) := rfl
open Classical in
noncomputable def dueX (c : Ch) (v : List Nat) : PyData := if c.nev v then .none else chD (behC c v)
theorem dueX_0 {c : Ch} {v : List Nat} (h : c.nev v) : dueX c v = .none := if_pos h
theorem dueX_1 {c : Ch} {v : List Nat} (h : ¬ c.nev v) : dueX c v = chD (behC c v) := if_neg h
theorem nev_mult {b sb : Nat} {c c' : Ch} {v : List Nat} (hc : ChOk b c sb) (h : Mult c c') (hv : VwOk c v) : c'.nev v ↔ c.nev v := by
  unfold Ch.nev
  rw [h.stl]
  constructor
  · intro q j hj
    rw [← h.on hc hv (Nat.le_refl _) hj]; exact q j hj
  · intro q j hj
    rw [h.on hc hv (Nat.le_refl _) hj]; exact q j hj
theorem dueX_mult {b sb b' sb' : Nat} {c c' : Ch} {v : List Nat} (hc : ChOk b c sb) (h : Mult c c') (hc' : ChOk b' c' sb') (hv : VwOk c v) : dueX c' v = dueX c v := by
  rcases Classical.em (c.nev v) with z | z
  · rw [dueX_0 z, dueX_0 ((nev_mult hc h hv).mpr z)]
  · rw [dueX_1 z, dueX_1 fun q => z ((nev_mult hc h hv).mp q), behC_mult hc h ⟨_, _, hc'⟩ hv]
theorem dueX_beh {b sb : Nat} {c : Ch} {v w : List Nat} (hc : ChOk b c sb) (hb : 1 ≤ b) (hv : VwOk c v) (h : ¬ c.nev v) (hw : VwOk c w) : dueX (behC c v) w = dueX c (v ++ w) := by
  rcases Classical.em (c.nev (v ++ w)) with z | z
  · rw [dueX_0 z, dueX_0 ((nev_beh hc hb hv h hw).mpr z)]
  · rw [dueX_1 z, dueX_1 fun q => z ((nev_beh hc hb hv h hw).mp q), behC_beh hc hb hv h hw]
theorem ChOk.up {b sb B : Nat} {c : Ch} (h : ChOk b c sb) (l : b ≤ B) (l2 : sb ≤ B) : ChOk B c := ⟨h.n1, h.n6, h.m1, h.m5, h.nd, h.low, h.st.mono l2, h.spl, fun x hx => (h.sp x hx).mono l, h.tll, fun x hx => (h.tl x hx).mono l⟩
theorem Rp.due {b sb : Nat} {c : Ch} {v : List Nat} (hc : ChOk b c sb) (hb : 1 ≤ b) (hb2 : b ≤ 1920) (hv : VwOk c v) (h : sb + v.length * (2 * (c.st.length * b)) ≤ 1920) : Rp 200000 4 (dueX c v) := by
  rcases Classical.em (c.nev v) with z | z
  · rw [dueX_0 z]
    exact (Rp.none).mono (by decide) (by decide)
  · rw [dueX_1 z]
    exact Rp.ch ((behC_ok hc hb hv z).up hb2 h) (Nat.le_refl _)

def s_law_least : FSem := fun us P Ex => ∃ ws : List Int, us = [.d (lnD ws)] ∧ (∀ w ∈ ws, Bd 8000 w ∧ 0 ≤ w) ∧ (∃ w ∈ ws, w ≠ 0) ∧ ws.length ≤ 1000 ∧ P (.d (lnD (plainL ws)))

def w_law_least : WS := (wSeq (wSetD 1 (wC (.int 0)))
    (wSeq (wForI (wiS (wV 0)) (gN 2) (wSetD 1 (wCall s_law_common [(wV 1), (wV 2)])))
    (wRet (wB dTuple2 [(wLc [2] (wiS (wV 0)) (gN 2) tYesW (wOp (dInt Int.fdiv DivC) (wV 2) (wV 1)))]))))
theorem pure_law_least : ∀ us P Ex, s_law_least us P Ex → w_law_least (startE ["line", "c", "weight"] us) (bodyP P Ex) := by
  unfold w_law_least
  rintro us P Ex ⟨ws, rfl, hw, hz, hl, h⟩
  have hg := gcdL_bd (fun w h => (hw w h).1) hz
  have h0 : gcdL ws ≠ 0 := by obtain ⟨w, h1, h2⟩ := hz; exact gcdL_ne h1 h2
  refine p_seq fun N hN => ?_
  walk_at "w"
  refine hN _ ?_
  refine p_seq fun N2 hN2 => ?_
  walk_at "w"
  refine p_forA (fun k e => ∃ t2 : Sl, e = [.d (lnD ws), .d (.int (gcdL (ws.take k) : Int)), t2] ∧ (t2 = .no ∨ ∃ x, t2 = .d x)) ⟨.no, rfl, .inl rfl⟩ (fun k e K hk ⟨t2, he, ht⟩ hK => ?_) ?_
  · subst he
    have e1 : gcdL (ws.take (k + 1)) = Int.gcd (gcdL (ws.take k) : Int) ws[k]! := by
      rw [List.take_succ_eq_append_getElem hk, gcdL_snoc, ← getElem!_pos ws k hk]; rfl
    walk_at "w"
    refine ⟨_, _, rfl, by omega, (hw _ (getB_mem hk)).2, ?_⟩
    walk_at "w"
    rw [← e1]
    exact hK _ ⟨_, rfl, .inr ⟨_, rfl⟩⟩
  · rintro e ⟨t2, rfl, ht⟩
    rw [List.take_length]
    refine hN2 _ ?_
    have it : ∀ w ∈ ws, DivC w (gcdL ws : Int) ∧ w.fdiv (gcdL ws : Int) = w / (gcdL ws : Int) := fun w _ => ⟨hg.dc (by omega) (by decide), Int.fdiv_eq_ediv_of_nonneg _ (by omega)⟩
    rcases ht with rfl | ⟨x, rfl⟩
    · walk_at "w"
      refine p_lcA PyData.int (fun w => w / (gcdL ws : Int)) (fun w hw2 K' ac hk => ?_) h
      obtain ⟨hd, e2⟩ := it w hw2
      rw [← e2] at hk
      walk_at "t"
    · walk_at "w"
      refine p_lcA PyData.int (fun w => w / (gcdL ws : Int)) (fun w hw2 K' ac hk => ?_) h
      obtain ⟨hd, e2⟩ := it w hw2
      rw [← e2] at hk
      walk_at "t"

def s_law_plain : FSem := fun us P Ex => ∃ (b sb : Nat) (c : Ch), us = [.d (chD c)] ∧ ChOk b c sb ∧ sb ≤ 8000 ∧ b ≤ 8000 ∧ P (.d (chD ⟨c.sgs, plainL c.st, c.sp.map plainL, c.tl.map plainL⟩))

def w_law_plain : WS := (wSeq (wPar 1 2 (wLc [3] (wiS (wOp dIx (wV 0) (wC (.int 2)))) (gN 3) tYesW (wCall s_law_least [(wV 3)])) (wLc [3] (wiS (wOp dIx (wV 0) (wC (.int 3)))) (gN 3) tYesW (wCall s_law_least [(wV 3)])))
    (wRet (wTup [(wOp dIx (wV 0) (wC (.int 0))), (wCall s_law_least [(wOp dIx (wV 0) (wC (.int 1)))]), (wB dTuple2 [(wV 1)]), (wB dTuple2 [(wV 2)])])))
theorem pure_law_plain : ∀ us P Ex, s_law_plain us P Ex → w_law_plain (startE ["chain", "steps", "tells", "line"] us) (bodyP P Ex) := by
  unfold w_law_plain
  rintro us P Ex ⟨b, sb, c, rfl, hc, hs, hb, h⟩
  have e1 := hc.n6
  have e2 := hc.m5
  have e3 := hc.spl
  have e4 := hc.tll
  have line : ∀ (b m : Nat) (ws : List Int) (Q : R → Prop) (Ey : Exn → Prop), LnOk b m ws → b ≤ 8000 → m ≤ 1000 → Q (.d (lnD (plainL ws))) → s_law_least [.d (lnD ws)] Q Ey := fun b m ws Q Ey hl hb hm q => ⟨ws, rfl, fun w hw => ⟨(hl.all w hw).mono hb, hl.nn w hw⟩, hl.some, by rw [hl.len]; exact hm, q⟩
  refine p_seq fun N hN => ?_
  walk_at "w"
  refine p_lcA lnD plainL (fun l hl K' ac hk => ?_) ?_
  · walk_at "w"
    refine line b _ l _ _ (hc.sp l hl) hb (by omega) ?_
    walk_at "w"
    exact hk
  walk_at "w"
  refine p_lcA lnD plainL (fun l hl K' ac hk => ?_) ?_
  · walk_at "w"
    refine line b _ l _ _ (hc.tl l hl) hb (by omega) ?_
    walk_at "w"
    exact hk
  walk_at "w"
  refine hN _ ?_
  walk_at "w"
  refine line sb _ c.st _ _ hc.st hs (by omega) ?_
  walk_at "w"
  exact h

def s_law_thin : FSem := fun us P Ex => ∃ ws : List Int, us = [.d (llD ws)] ∧ (∀ w ∈ ws, Bd 8000 w ∧ 0 ≤ w) ∧ ws.length ≤ 1000 ∧ P (.d (llD (plainL ws))) ∧ P (.nw (.lst ((plainL ws).map PyData.int)))

def w_law_thin : WS := (wSeq (wSetD 1 (wC (.int 0)))
    (wSeq (wForI (wiS (wV 0)) (gN 2) (wSetD 1 (wCall s_law_common [(wV 1), (wV 2)])))
    (wRet (wIf (tOf (wOp dGt (wV 1) (wC (.int 1)))) (wLc [2] (wiS (wV 0)) (gN 2) tYesW (wOp (dInt Int.fdiv DivC) (wV 2) (wV 1))) (wV 0)))))
theorem pure_law_thin : ∀ us P Ex, s_law_thin us P Ex → w_law_thin (startE ["line", "c", "item"] us) (bodyP P Ex) := by
  unfold w_law_thin
  rintro us P Ex ⟨ws, rfl, hw, hl, h, h2⟩
  refine p_seq fun N hN => ?_
  walk_at "w"
  refine hN _ ?_
  refine p_seq fun N2 hN2 => ?_
  walk_at "w"
  refine p_forA (fun k e => ∃ t2 : Sl, e = [.d (llD ws), .d (.int (gcdL (ws.take k) : Int)), t2] ∧ (t2 = .no ∨ ∃ x, t2 = .d x)) ⟨.no, rfl, .inl rfl⟩ (fun k e K hk ⟨t2, he, ht⟩ hK => ?_) ?_
  · subst he
    have e1 : gcdL (ws.take (k + 1)) = Int.gcd (gcdL (ws.take k) : Int) ws[k]! := by
      rw [List.take_succ_eq_append_getElem hk, gcdL_snoc, ← getElem!_pos ws k hk]; rfl
    walk_at "w"
    refine ⟨_, _, rfl, by omega, (hw _ (getB_mem hk)).2, ?_⟩
    walk_at "w"
    rw [← e1]
    exact hK _ ⟨_, rfl, .inr ⟨_, rfl⟩⟩
  · rintro e ⟨t2, rfl, ht⟩
    rw [List.take_length]
    refine hN2 _ ?_
    by_cases z : (1 : Int) < (gcdL ws : Int)
    · have hs : ∃ w ∈ ws, w ≠ 0 := Classical.byContradiction fun y => by
        have hz : ∀ w ∈ ws, w = 0 := fun w hw => Classical.byContradiction fun y2 => y ⟨w, hw, y2⟩
        have : gcdL ws = 0 := by
          have : ∀ l : List Int, (∀ w ∈ l, w = 0) → l.foldl gcdF 0 = 0 := fun l => by
            induction l with
            | nil => intro _; rfl
            | cons a l ih => intro q; rw [List.foldl_cons, q a List.mem_cons_self]; exact ih fun w hw => q w (List.mem_cons_of_mem _ hw)
          exact this ws hz
        omega
      have hg := gcdL_bd (fun w h => (hw w h).1) hs
      have it : ∀ w ∈ ws, DivC w (gcdL ws : Int) ∧ w.fdiv (gcdL ws : Int) = w / (gcdL ws : Int) := fun w _ => ⟨hg.dc (by omega) (by decide), Int.fdiv_eq_ediv_of_nonneg _ (by omega)⟩
      rcases ht with rfl | ⟨x, rfl⟩
      · walk_at "w"
        rw [if_pos z]
        walk_at "w"
        refine p_lcA PyData.int (fun w => w / (gcdL ws : Int)) (fun w hw2 K' ac hk => ?_) h2
        obtain ⟨hd, e2⟩ := it w hw2
        rw [← e2] at hk
        walk_at "t"
      · walk_at "w"
        rw [if_pos z]
        walk_at "w"
        refine p_lcA PyData.int (fun w => w / (gcdL ws : Int)) (fun w hw2 K' ac hk => ?_) h2
        obtain ⟨hd, e2⟩ := it w hw2
        rw [← e2] at hk
        walk_at "t"
    · have e3 : plainL ws = ws := by
        unfold plainL
        conv => rhs; rw [← List.map_id ws]
        refine List.map_congr_left fun w hw => ?_
        by_cases y : gcdL ws = 0
        · have hz : w = 0 := Classical.byContradiction fun q => absurd y (gcdL_ne hw q)
          rw [hz]; simp
        · have : gcdL ws = 1 := by omega
          rw [this]; simp
      rw [e3] at h
      walk_at "w"
      rw [if_neg z]
      exact h

def s_law_due : FSem := fun us P Ex => ∃ (b sb : Nat) (v : List Nat) (c : Ch), us = [.d (chD c), .d (.str (sS v))] ∧ ChOk b c ∧ 1 ≤ b ∧ b ≤ 600 ∧ VwOk c v ∧ b + v.length * (12 * b + 8) ≤ 7900 ∧ v.length ≤ 1000 ∧ P (.d (dueX c v))

def w_law_due : WS := (wSeq (wSetD 2 (wCall s_law_model [(wV 0), (wCall s_law_sums [(wLst [(wV 0)])])]))
    (wSeq (wSetD 3 (wOp dIx (wV 2) (wC (.int 1))))
    (wSeq (wForI (wiS (wV 1)) (gN 4) (wSetD 3 (wCall s_law_thin [(wCall s_law_go [(wV 2), (wV 3), (wV 4)])])))
    (wSeq (wIfS (tOf (wOp dEq (wB dSum [(wV 3)]) (wC (.int 0)))) (wRet (wC .none)) wNext)
    (wRet (wCall s_law_plain [(wTup [(wOp dIx (wV 0) (wC (.int 0))), (wB dTuple2 [(wV 3)]), (wOp dIx (wV 0) (wC (.int 2))), (wOp dIx (wV 0) (wC (.int 3)))])]))))))
theorem pure_law_due : ∀ us P Ex, s_law_due us P Ex → w_law_due (startE ["chain", "view", "model", "line", "sign"] us) (bodyP P Ex) := by
  unfold w_law_due
  rintro us P Ex ⟨b, sb, v, c, rfl, hc, hb, hb6, hv, hn, hvl, h⟩
  have h0 : c.nev v → P (.d .none) := fun z => by rw [← dueX_0 z]; exact h
  have h1 : ¬ c.nev v → P (.d (chD (behC c v))) := fun z => by rw [← dueX_1 z]; exact h
  have e1 := hc.n6
  refine p_seq fun N hN => ?_
  walk_at "w"
  refine ⟨b, c, rfl, hc, hb6, ?_⟩
  walk_at "w"
  refine ⟨b, c, rfl, hc, hb6, ?_⟩
  walk_at "w"
  refine hN _ ?_
  refine p_seq fun N2 hN2 => ?_
  walk_at "w"
  rw [md_1]
  walk_at "w"
  refine hN2 _ ?_
  refine p_seq fun N3 hN3 => ?_
  walk_at "w"
  refine p_forA (fun k e => ∃ t4 : Sl, e = [.d (chD c), .d (.str (sS v)), .d (mdD c), .d (llD (duR c v k)), t4]) ⟨_, rfl⟩ (fun k e K hk ⟨t4, he⟩ hK => ?_) ?_
  · subst he
    have hvk := hv v[k]! (getB_mem hk)
    have hkb := Nat.mul_le_mul_right (12 * b + 8) (show k + 1 ≤ v.length by omega)
    rw [Nat.add_one_mul] at hkb
    obtain ⟨m, hm, em⟩ := duR_back c v k
    have er : duR c v k = (List.range c.st.length).map fun j => (duR c v k)[j]! := eq_map_range duR_len fun _ _ => rfl
    have le1 : ∀ x : Int, ∀ y : Int, x * m = y → 0 ≤ y → 0 ≤ x ∧ x.natAbs ≤ y.natAbs := fun x y e hy => by
      subst e
      have h1 : 0 ≤ x := Int.nonneg_of_mul_nonneg_left hy hm
      refine ⟨h1, ?_⟩
      rw [Int.natAbs_mul]
      exact Nat.le_mul_of_pos_right _ (by omega)
    have hf : ∀ j, j < c.st.length → Bd (b + k * (12 * b + 8)) (duR c v k)[j]! := fun j hj => (goI_at hc hv (k := k) (by omega) hj).2.le (le1 _ _ (duR_at em hj) (goI_nn hc hb hv (by omega) hj)).2
    have eo : ∀ j, j < c.st.length → (sgi c.st.length fun i => ((duR c v k)[i]! * toI c i v[k]!) * (scl (LL c) c.sp)[i]![j]!) * m = goI c v (k + 1) j := fun j hj => by
      have e2 : goI c v (k + 1) j = sgi c.st.length fun i => (goI c v k i * toI c i v[k]!) * (scl (LL c) c.sp)[i]![j]! := rfl
      rw [e2]
      have smul : ∀ (n : Nat) (f : Nat → Int), sgi n f * m = sgi n fun i => f i * m := fun n f => by
        induction n with
        | zero => simp [sgi]
        | succ n ih => simp only [sgi, Int.add_mul, ih]
      rw [smul]
      refine sgi_congr fun i hi => ?_
      rw [← duR_at em hi]
      simp only [Int.mul_assoc, Int.mul_comm, Int.mul_left_comm]
    rw [er]
    walk_at "w"
    refine ⟨b, v[k]!, b + k * (12 * b + 8), c, fun j => (duR c v k)[j]!, rfl, hc, hb6, by omega, hvk, hf, ?_⟩
    walk_at "w"
    have fin : plainL ((List.range c.st.length).map fun j => sgi c.st.length fun i => ((duR c v k)[i]! * toI c i v[k]!) * (scl (LL c) c.sp)[i]![j]!) = duR c v (k + 1) := by
      show _ = (if k + 1 = 0 then _ else _)
      rw [if_neg (by omega)]
      refine plain_eq (A := m) (B := 1) (by rw [goR_len]; simp) hm (by decide) fun j hj => ?_
      have hj' : j < c.st.length := by simpa using hj
      rw [getB_range hj', goR_at hj', Int.mul_one]
      exact eo j hj'
    refine ⟨_, rfl, fun w hw => ?_, by simp; omega, ?_, ?_⟩
    · obtain ⟨j, hj, rfl⟩ := List.mem_map.mp hw
      have hj' := List.mem_range.mp hj
      have q := le1 _ _ (eo j hj') (goI_nn hc hb hv (by omega) hj')
      exact ⟨((goI_at hc hv (k := k + 1) (by omega) hj').2.le q.2).mono (by rw [Nat.add_one_mul]; omega), q.1⟩
    · rw [fin]
      walk_at "w"
      exact hK _ ⟨_, rfl⟩
    · rw [fin]
      walk_at "w"
      exact hK _ ⟨_, rfl⟩
  · rintro e ⟨t4, rfl⟩
    refine hN3 _ ?_
    refine p_seq fun N4 hN4 => ?_
    obtain ⟨m, hm, em⟩ := duR_back c v v.length
    have es : (duR c v v.length).sum * m = (goR c v v.length).sum := by rw [← sum_mul, em]
    walk_at "w"
    refine if_both (fun z => ?_) fun z => ?_
    · refine h0 ((goR_zero hc hb hv).mp ?_)
      rw [z, Int.zero_mul] at es
      exact es.symm
    · have hp : ¬ c.nev v := fun q => z (by
        rw [(goR_zero hc hb hv).mpr q] at es
        rcases Int.mul_eq_zero.mp es with y | y
        · exact y
        · omega)
      have hgl := goR_ln hc hb hv hp
      have hdl : LnOk (b + v.length * (2 * (c.st.length * b))) c.st.length (duR c v v.length) := by
        unfold duR
        by_cases y : v.length = 0
        · rw [if_pos y]
          have q := hgl
          have e8 : goR c v v.length = c.st := by rw [y]; exact goR_0
          rw [e8] at q
          exact q
        · rw [if_neg y]; exact plain_ln hgl
      have hsb : b + v.length * (2 * (c.st.length * b)) ≤ 8000 := by
        have h1 : 2 * (c.st.length * b) ≤ 12 * b + 8 := by have := Nat.mul_le_mul_right b e1; omega
        have := Nat.mul_le_mul_left v.length h1
        omega
      have hc2 : ChOk b ⟨c.sgs, duR c v v.length, c.sp, c.tl⟩ (b + v.length * (2 * (c.st.length * b))) := by
        refine ⟨by show 1 ≤ (duR _ _ _).length; rw [duR_len]; exact hc.n1, by show (duR _ _ _).length ≤ 6; rw [duR_len]; exact hc.n6, hc.m1, hc.m5, hc.nd, hc.low, ?_, ?_, ?_, ?_, hc.tl⟩
        · show LnOk _ (duR _ _ _).length _; rw [duR_len]; exact hdl
        · show c.sp.length = (duR _ _ _).length; rw [duR_len]; exact hc.spl
        · show ∀ l ∈ c.sp, LnOk b (duR _ _ _).length l; rw [duR_len]; exact hc.sp
        · show c.tl.length = (duR _ _ _).length; rw [duR_len]; exact hc.tll
      refine hN4 _ ?_
      walk_at "w"
      refine ⟨b, _, _, rfl, hc2, hsb, by omega, ?_⟩
      walk_at "w"
      have k := h1 hp
      have e7 : (⟨c.sgs, plainL (duR c v v.length), c.sp.map plainL, c.tl.map plainL⟩ : Ch) = behC c v := by
        rw [plain_duR]; rfl
      rw [← e7] at k
      exact k

end Dl

namespace Dl
open PySem PySem.Spec PyProof.Rows L2

local macro_rules | `(tactic| walk_at "dl") => `(tactic| (simp (config := { maxSteps := 2000000, failIfUnchanged := false }) only [startE, startI, bodyI, slOf, List.map_cons, List.map_nil, List.length_cons, List.length_nil, List.cons_append, List.nil_append, List.append_nil, Nat.reduceAdd, Nat.reduceSub, List.replicate_succ, List.replicate_zero, List.getElem?_cons_zero, List.getElem?_cons_succ, List.getElem?_nil, List.set_cons_zero, List.set_cons_succ, Nat.zero_add,
  ↓wV_eq, ↓wC_eq, ↓wOp_eq, ↓wOp1_eq, ↓wB_eq, ↓wA_nil, ↓wA_cons, ↓wTup_eq, ↓wLst_eq, ↓wCall_eq, ↓wCallK_eq, ↓wIf_eq, ↓wAnd_eq, ↓wOr_eq, ↓tOf_eq, ↓tNotW_eq, ↓tAndW_eq, ↓tOrW_eq, ↓wIsE_eq, ↓toD_d, ↓toD_nw, ↓toD_bw, toD_deck, ↓calm_d, ↓calm_nw, ↓calm_bw, calm_deck, ↓hold_d, ↓hold_nw, ↓hold_bw, hold_deck, ↓holdAll_nil, ↓holdAll_cons, ↓toDs_nil, ↓toDs_d, ↓toDs_bw, argOf_d, argOf_bw, argOf_nw, argOf_deck,
  flat_int, flat_str, flat_bool, flat_none, flat_list, flat_tuple, flat_nw, ↓dAdd_int, ↓dAdd_str, ↓dAdd_list, ↓dAdd_tuple, ↓dSub_int, ↓dMul_int, ↓dMul_list, ↓dInt_int, ↓dNeg_int, ↓dEq_int, ↓dEq_str, ↓dNe_int, ↓dNe_str, ↓dCmp_int, ↓dAbs_int, ↓dInt1_int, ↓dInt1_bool, ↓dGcd_int, dIx_tm, dIx_lm, dIx_tm0, dIx_lm0, dIx_tm1, dIx_lm1, dIx_t0, dIx_t1, dIx_t2, dIx_t3, dIx_l0, dIx_l1, dIx_l2, dIx_tl, dIx_ll, dIx_s, dIx_s0, ↓dLen_list, ↓dLen_tuple, ↓dLen_str, ↓gTupW_eq, ↓gTupL_eq, ↓gNilW_eq, ↓gConsW_eq, ↓wiC_eq, ↓wiS_eq, itemsD_l, itemsD_t, cR1_eq, oR1_eq, cR2_e, oR2_e, rangeD0, rangeDn, subNat, subNat1, Int.reduceToNat, Int.toNat_natCast, intsD_map, boolsD_map, strsD_map, Option.some.injEq, exists_eq_left', sS_length, sS_append, one_beq, dIn_s, itemsL_l, itemsL_t, itemsL_s, cE_l, cE_t, cE_s, oE_l, oE_t, oE_s, cZ_tt, cZ_tl, cZ_lt, cZ_ll, cZ_ss, oZ_tt, oZ_tl, oZ_lt, oZ_ll, oZ_ss, signsD_sS, dJoin_s, cutS_s, cutA_from1, cutA_f1, cutA_t1, cutA_to, cutA_from, cutA_mid, List.length_map, List.length_range, true_and, and_true, beq_iff_eq, decide_eq_true_eq, Bool.not_eq_true', decide_eq_false_iff_not, beq_eq_false_iff_ne, ne_eq, not_true_eq_false, not_false_eq_true, eq_self, beq_self_eq_true, Bool.true_eq_false, List.take_succ_cons, List.take_zero, prm, List.filterMap_cons, List.filterMap_nil,
  ↓wSl_eq, ↓oNone_eq, ↓oSome_eq, ↓dSl_list, ↓dSl_tuple, ↓dSl_str, ↓wChain_eq, ↓wDisp_eq, ↓wDict0_eq, ↓wM_eq, ↓dSum_list, ↓dSum_tuple, ↓dMax_list, ↓dMax_two, ↓dMin_list, ↓dMin_two, ↓dLcm_int, ↓dAllAny_list, ↓dIsi_eq, ↓dList2_list, ↓dList2_tuple, ↓dList2_str, ↓dTuple2_list, ↓dTuple2_tuple, ↓dTuple2_str, ↓dIx_dictS, ↓dIx_dictI, ↓wApp_eq, ↓wAppPop_eq, ↓wExt_eq, ↓wLc_eq, ↓tYesW_eq, wipeE_nil, wipeE_cons, restE_nil, restE_cons, frzAll_nil, frzAll_cons, frz_nil, frz_zero, frz_succ, frzS_no, frzS_d, frzS_deck, frzS_opq, frzS_lst, getD_some, ↓wSto_eq, ↓toD_nwc, ↓toD_bwc, ↓ctoD_lst, ↓ctoD_dic, ↓calm_dic, ↓calm_ins, itemsD_s,
  ↓wSet_eq, ↓wSetD_eq, ↓wIns_eq, ↓wDUpd_eq, ↓wFld_eq, ↓wSetF_eq, ↓wMeth_eq, ↓wAsgH_eq, ↓hTup_eq, ↓hCons_eq, ↓hNil_eq, ↓hOf_eq, ↓hFld_eq, ↓hSub_eq, ↓wPar3DOO_eq, ↓dRev0_s, ↓dMulT_eq, ↓wPopS_eq, ↓wSetPop_eq, ↓wSetPopAt_eq, ↓dRev_list, dRev_s, ↓dLr1_eq, ↓dLr2_eq, ↓wParDO_eq, ↓wPar3O_eq, calm_opq, stE_opq, ↓wRet_eq, ↓wDrop_eq, ↓wIfS_eq, ↓wNext_eq, ↓wBreak_eq, ↓wCont_eq, ↓wPar_eq, ↓wParO_eq, ↓wPar3_eq, ↓wTryAs_eq, ↓wTryAsF_eq, ↓wAsF_one, ↓wRaise1_eq, ↓wIsF_eq, ↓wXf_eq, ↓wAsg_eq, ↓wForI_eq, ↓stE_d, ↓stE_nw, ↓stE_bw, ↓stE_deck, retR_d, retR_nw, bodyP_nx, bodyP_rd, bodyP_rn, bodyP_ex, ↓gN_eq, lit_dot, lit_nil, gTupF, dIx_f0, dIx_f1, dMul_s, dMul_sN, flat_fD, ↓lawE_eq, lawP_rt, lawP_nx, ite_self, if_true, if_false, Bool.false_eq_true, reduceIte]))

local macro_rules | `(tactic| walk_at "bd") => `(tactic| first | with_reducible assumption | ((with_reducible apply RB.bn); assumption) | ((with_reducible apply RB.bd); assumption) | ((with_reducible apply Bd.mul); (focus walk_at "bd"); (focus walk_at "bd")))
local macro_rules | `(tactic| walk_at "sd") => `(tactic| first | with_reducible assumption | with_reducible rfl | with_reducible exact True.intro | omega | with_reducible exact ⟨_, rfl⟩ | ((with_reducible apply smallI) <;> omega) | ((with_reducible apply dmLt); omega) | ((with_reducible apply slLe); omega) | ((with_reducible apply slLt); omega) | ((with_reducible apply slLe); (simp only [List.length_append, List.length_cons, List.length_nil, List.length_map, List.length_range, List.length_take, List.length_drop, List.length_reverse]); omega) | ((with_reducible apply slLt); (simp only [List.length_append, List.length_cons, List.length_nil, List.length_map, List.length_range, List.length_take, List.length_drop, List.length_reverse]); omega) | ((with_reducible apply rgOk) <;> omega) | ((with_reducible apply Bd.mc); (focus walk_at "bd"); (focus walk_at "bd"); decide) | ((with_reducible apply Bd.dc); (focus walk_at "bd"); (focus (first | assumption | omega)); decide))
local macro_rules | `(tactic| walk_at "w") => `(tactic| (walk_at "dl"; repeat ((with_reducible (refine And.intro ?_ ?_)); (focus walk_at "sd"); walk_at "dl")))
local macro_rules | `(tactic| walk_at "n") => `(tactic| ((with_reducible refine nx_of (by assumption) ?_); walk_at "w"))
local macro_rules | `(tactic| walk_at "t") => `(tactic| (walk_at "w"; with_reducible assumption))
local macro_rules | `(tactic| walk_at "g") => `(tactic| (walk_at "w"; (repeat ((first | with_reducible refine p_seq fun _ _ => ?_ | with_reducible refine nx_of (by assumption) ?_); walk_at "w")); try (with_reducible assumption)))

def em_Never : Str → Option Bool := fun m => if m = "Never" then some true else none

theorem signs_lit : ([PyData.str (Str.ofString "ab"), .str (Str.ofString "ab"), .str (Str.ofString "bz"), .str (Str.ofString "abc")] : List PyData) = ([[97, 98], [97, 98], [98, 122], [97, 98, 99]] : List (List Nat)).map fun l => .str (sS l) := by
  have e : ∀ (z : Str) (l : List Nat), z = sS l → PyData.str z = PyData.str (sS l) := fun z l h => by rw [h]
  simp only [List.map_cons, List.map_nil]
  rw [e (Str.ofString "ab") [97, 98] (by decide +kernel), e (Str.ofString "abc") [97, 98, 99] (by decide +kernel), e (Str.ofString "bz") [98, 122] (by decide +kernel)]

def s_law_heard : FSem := fun us P Ex => ∃ (b sb r : Nat) (v : List Nat) (c : Ch) (nm : Bool), us = [.d (chD c), .d (.str (sS v)), .d (.bool nm)] ∧ ChOk b c sb ∧ 1 ≤ b ∧ b ≤ 600 ∧ VwOk c v ∧ sb + v.length * (12 * b + 8) + 6 * b ≤ 7900 ∧ v.length ≤ 1000 ∧ (∀ j, j < c.st.length → RB r (c.on v v.length j)) ∧ c.st.length * r ≤ 7900 ∧ sb + v.length * (2 * (c.st.length * b)) ≤ 7900 ∧ P (.d (dueX c v))

def w_law_heard (g : DG) : WS := (wTryAs g em_Never 3 (wRet (wIf (tOf (wV 2)) (wCallK s_behind_view [1, 0] [(wV 1), (wV 0)]) (wCall s_behind_view [(wV 0), (wV 1)]))) (fun ax cls dd => (wRet (wIf (tOf (wIsE 3 ax (He.ga g.K "Never") true cls dd)) (wC .none) (wC (.str "odd"))))))
theorem pure_law_heard {g : DG} (E_Never : g.mg "Never" = some (.ref (He.ga g.K "Never"))) : ∀ us P Ex, s_law_heard us P Ex → w_law_heard g (startE ["chain", "view", "is_named", "error"] us) (bodyP P Ex) := by
  unfold w_law_heard
  rintro us P Ex ⟨b, sb, r, v, c, nm, rfl, hc, hb, hb6, hv, hn, hvl, hR, hr, hsb, h⟩
  walk_at "w"
  refine ⟨b, sb, r, v, c, rfl, hc, hb, hb6, hv, hn, hvl, hR, hr, hsb, fun z => ?_, fun z => ?_⟩
  · dsimp only
    rw [show em_Never (Str.ofString "Never") = some true from if_pos rfl]
    intro a2 cls d2 hx hd2
    obtain ⟨ax, m1, m2⟩ := hx
    rw [E_Never] at m1
    cases m1
    rw [dueX_0 z] at h
    exact ⟨⟨m2, hd2 rfl⟩, h⟩
  · rw [dueX_1 z] at h
    exact h

def w_law : WS := (wSeq (wForI (wiC cR1 oR1 [(wC (.int 4))]) (gN 2) (wSeq (wSetD 3 (wCall s_law_pick [(wV 1), (wLst [(wC (.str "ab")), (wC (.str "ab")), (wC (.str "bz")), (wC (.str "abc"))])]))
    (wSeq (wSetD 4 (wCall s_law_times [(wV 1), (wCall s_law_chain [(wV 1), (wV 3), (wOp dAdd (wC (.int 1)) (wCall s_law_draw [(wV 1), (wC (.int 4))]))])]))
    (wSeq (wSetD 5 (wIf (tAndW (tOf (wOp dEq (wV 2) (wC (.int 0)))) (tOf (wOp dEq (wCall s_law_draw [(wV 1), (wC (.int 4))]) (wC (.int 0))))) (wC (.int 40)) (wCall s_law_draw [(wV 1), (wC (.int 7))])))
    (wSeq (wSetD 6 (wM dJoin (wC (.str "")) [(wLc [7] (wiC cR1 oR1 [(wV 5)]) (gN 7) tYesW (wCall s_law_pick [(wV 1), (wOp dAdd (wB dList2 [(wV 3)]) (wLst [(wC (.str "."))]))]))]))
    (wSeq (wPar 8 9 (wB dRepr [(wTup [(wV 4), (wV 6)])]) (wB dRepr [(wCall s_law_due [(wV 4), (wV 6)])]))
    (wSeq (wForI (wiS (wTup [(wC (.bool false)), (wC (.bool true))])) (gN 10) (wIfS (tOrW (tOf (wOp dNe (wB dRepr [(wCall s_law_heard [(wV 4), (wV 6), (wV 10)])]) (wV 9))) (tOf (wOp dNe (wB dRepr [(wTup [(wV 4), (wV 6)])]) (wV 8)))) (wRet (wC (.bool false))) wNext))
    (wSeq (wIfS (tOf (wOp dNe (wB dRepr [(wCall s_law_heard [(wCall s_law_times [(wV 1), (wV 4)]), (wV 6), (wC (.bool false))])]) (wV 9))) (wRet (wC (.bool false))) wNext)
    (wSeq (wSetD 11 (wCall s_law_draw [(wV 1), (wOp dAdd (wV 5) (wC (.int 1)))]))
    (wSeq (wSetD 12 (wCall s_law_heard [(wV 4), (wSl (wV 6) oNone (oSome (wV 11))), (wC (.bool false))]))
    (wSeq (wIfS (tOf (wOp dNe (wB dRepr [(wV 12)]) (wB dRepr [(wCall s_law_due [(wV 4), (wSl (wV 6) oNone (oSome (wV 11)))])]))) (wRet (wC (.bool false))) wNext)
    (wIfS (tOf (wOp dNe (wB dRepr [(wIf (tOf (wOp (dIs false) (wV 12) (wC .none))) (wC .none) (wCall s_law_heard [(wV 12), (wSl (wV 6) (oSome (wV 11)) oNone), (wC (.bool false))]))]) (wV 9))) (wRet (wC (.bool false))) wNext))))))))))))
    (wRet (wC (.bool true))))
theorem pure_law : ∀ a, w_law (lawE ["script", "deck", "turn", "signs", "chain", "many", "view", "place", "known", "due", "is_named", "spot", "ahead"] a) lawP := by
  unfold w_law
  intro a
  walk_at "g"
  refine p_forR (fun k e => ∃ t2 t3 t4 t5 t6 t8 t9 t10 t11 t12 : Sl, e = [.opq (.ref a), .deck, t2, t3, t4, t5, t6, .no, t8, t9, t10, t11, t12]) ⟨_, _, _, _, _, _, _, _, _, _, rfl⟩ (fun k e K hk ⟨t2, t3, t4, t5, t6, t8, t9, t10, t11, t12, he⟩ hK => ?_) ?_
  · subst he
    walk_at "w"
    refine p_seq fun N hN => ?_
    walk_at "w"
    rw [signs_lit]
    refine ⟨_, rfl, by simp, dmLt (by simp), fun x hx => ?_⟩
    obtain ⟨sg, hsg, rfl⟩ := List.mem_map.mp hx
    have hs : sg.Nodup ∧ (∀ s ∈ sg, 97 ≤ s ∧ s ≤ 122) ∧ 1 ≤ sg.length ∧ sg.length ≤ 5 ∧ sg ≠ [] := by
      simp only [List.mem_cons, List.not_mem_nil, or_false] at hsg
      rcases hsg with rfl | rfl | rfl | rfl <;> decide
    obtain ⟨s1, s2, s3, s4, s5⟩ := hs
    walk_at "w"
    refine hN _ ?_
    refine p_seq fun N hN => ?_
    walk_at "w"
    refine ⟨_, rfl, dmLt (by decide), fun r hr => ?_⟩
    obtain ⟨q, rfl⟩ := Int.eq_ofNat_of_zero_le hr.1
    have hq := hr.2
    walk_at "w"
    rw [show (1 : Int) + (q : Int) = ((1 + q : Nat) : Int) by omega]
    refine ⟨1 + q, sg, rfl, by omega, by omega, s3, s4, s1, s2, fun c0 h0 hl0 hsg0 => ?_⟩
    have n4 : c0.st.length ≤ 4 := by omega
    walk_at "w"
    refine ⟨5, c0, rfl, h0, by decide, fun c hm hc => ?_⟩
    walk_at "w"
    refine hN _ ?_
    refine p_seq fun N hN => ?_
    have bits : ∀ l, l ≤ 40 → l * (2 * (c0.st.length * 5)) ≤ 1600 := fun l hl => Nat.mul_le_mul hl (show 2 * (c0.st.length * 5) ≤ 40 by omega)
    have hear : ∀ (c2 : Ch) (b2 : Nat) (w : List Nat) (nm : Bool) (Q : R → Prop) (Ey : Exn → Prop), ChOk b2 c2 → 1 ≤ b2 → b2 ≤ 9 → (∀ j, j < c0.st.length → c2.on w w.length j = c0.on w w.length j) → c2.st.length = c0.st.length → w.length ≤ 40 → VwOk c0 w → VwOk c2 w → dueX c2 w = dueX c0 w → Q (.d (dueX c0 w)) → s_law_heard [.d (chD c2), .d (.str (sS w)), .d (.bool nm)] Q Ey := by
      intro c2 b2 w nm Q Ey k1 k2 k3 k4 k5 k6 k7 k8 k9 q
      have h1 := Nat.mul_le_mul k6 (show 12 * b2 + 8 ≤ 116 by omega)
      have h2 := Nat.mul_le_mul k6 (show 2 * (c2.st.length * b2) ≤ 72 by
        have := Nat.mul_le_mul (show c2.st.length ≤ 4 by omega) k3
        omega)
      refine ⟨b2, b2, 1605, w, c2, nm, rfl, k1, k2, by omega, k8, by omega, by omega, fun j hj => ?_, by rw [k5]; have := Nat.mul_le_mul_right 1605 n4; omega, by omega, by rw [k9]; exact q⟩
      rw [k5] at hj
      rw [k4 j hj]
      exact (on_rb h0 (by decide) k7 (Nat.le_refl _) hj).mono (by have := bits _ k6; omega)
    have cont2 : ∀ m : Nat, m ≤ 40 → N [.opq (.ref a), .deck, .d (.int (k : Int)), .d (.str (sS sg)), .d (chD c), .d (.int (m : Int)), t6, .no, t8, t9, t10, t11, t12] := by
      intro m hm40
      refine hN _ ?_
      refine p_seq fun N hN => ?_
      walk_at "w"
      have ei : (sg.map fun s => PyData.str (sS [s])) ++ [PyData.str (sS [46])] = (sg ++ [46]).map fun s => PyData.str (sS [s]) := by simp
      refine p_lcR (fun s : Nat => PyData.str (sS [s])) (fun _ s => s = 46 ∨ s ∈ sg) (fun i hi' K' ac hk' => ?_) fun v v1 v2 => ?_
      · walk_at "w"
        rw [ei]
        refine ⟨_, rfl, by simp, dmLt (by simp; omega), fun x hx => ?_⟩
        obtain ⟨s, hs, rfl⟩ := List.mem_map.mp hx
        walk_at "w"
        refine hk' _ ?_
        rcases List.mem_append.mp hs with y | y
        · exact .inr y
        · exact .inl (List.mem_singleton.mp y)
      have v3 : VwOk c0 v := by
        have q := memAt (Q := fun s => s = 46 ∨ s ∈ sg) v1 v2
        intro s hs
        rw [hsg0]
        exact q s hs
      have v4 := hm.vw v3
      have hvl : v.length ≤ 40 := by omega
      have rpk : Rp 300000 6 (.tuple [chD c, .str (sS v)]) := by
        have rpc : Rp 200000 4 (chD c) := Rp.ch hc (by decide)
        have rpv : Rp 402 1 (.str (sS v)) := (Rp.str fun s hs => by
          rcases v3 s hs with y | y
          · omega
          · have := s2 s (by rw [← hsg0]; exact y); omega).mono (by omega) (Nat.le_refl _)
        exact ((RpA.cons rpc (RpA.cons rpv RpA.nil)).tup).mono (by decide) (by decide)
      have rpd : ∀ w, w.length ≤ 40 → VwOk c0 w → Rp 200000 4 (dueX c0 w) := fun w hw hv => Rp.due h0 (by decide) (by decide) hv (by have := bits _ hw; omega)
      have due : ∀ (w : List Nat) (Q : R → Prop) (Ey : Exn → Prop), w.length ≤ 40 → VwOk c0 w → Q (.d (dueX c0 w)) → s_law_due [.d (chD c), .d (.str (sS w))] Q Ey := fun w Q Ey hw hv q => ⟨7, 7, w, c, rfl, hc, by decide, by decide, hm.vw hv, by have := Nat.mul_le_mul_right (12 * 7 + 8) hw; omega, by omega, by rw [dueX_mult h0 hm hc hv]; exact q⟩
      walk_at "w"
      refine hN _ ?_
      refine p_seq fun N hN => ?_
      walk_at "w"
      refine rpr rpk (by decide) (by decide) ?_
      walk_at "w"
      refine due v _ _ hvl v3 ?_
      walk_at "w"
      refine rpr (rpd v hvl v3) (by decide) (by decide) ?_
      walk_at "w"
      refine hN _ ?_
      refine p_seq fun N2 hN2 => ?_
      have once : ∀ (nm : Bool) (w : List Nat) (Q : R → Prop) (Ey : Exn → Prop), w.length ≤ 40 → VwOk c0 w → Q (.d (dueX c0 w)) → s_law_heard [.d (chD c), .d (.str (sS w)), .d (.bool nm)] Q Ey := fun nm w Q Ey hw hv q => hear c 7 w nm Q Ey hc (by decide) (by decide) (fun j hj => hm.on h0 hv (Nat.le_refl _) hj) hm.stl hw hv (hm.vw hv) (dueX_mult h0 hm hc hv) q
      walk_at "w"
      have eb : [PyData.bool false, PyData.bool true] = [false, true].map PyData.bool := rfl
      rw [eb]
      refine p_forA (fun i e => ∃ t10 : Sl, e = [.opq (.ref a), .deck, .d (.int (k : Int)), .d (.str (sS sg)), .d (chD c), .d (.int (m : Int)), .d (.str (sS v)), .no, .d (.str (PyData.tuple [chD c, .str (sS v)]).shown), .d (.str (dueX c0 v).shown), t10, t11, t12]) ⟨_, rfl⟩ (fun i e K3 hi ⟨t10, he⟩ hK3 => ?_) ?_
      · subst he
        walk_at "w"
        refine once _ v _ _ hvl v3 ?_
        walk_at "w"
        refine rpr (rpd v hvl v3) (by decide) (by decide) ?_
        walk_at "w"
        refine rpr rpk (by decide) (by decide) ?_
        walk_at "w"
        exact hK3 _ ⟨_, rfl⟩
      · rintro e ⟨t10, rfl⟩
        refine hN2 _ ?_
        refine p_seq fun N3 hN3 => ?_
        walk_at "w"
        refine ⟨7, c, rfl, hc, by decide, fun c' hm' hc' => ?_⟩
        walk_at "w"
        refine hear c' 9 v false _ _ hc' (by decide) (by decide) (fun j hj => by rw [hm'.on hc v4 (Nat.le_refl _) (by rw [hm.stl]; exact hj), hm.on h0 v3 (Nat.le_refl _) hj]) (by rw [hm'.stl, hm.stl]) hvl v3 (hm'.vw v4) (by rw [dueX_mult hc hm' hc' v4, dueX_mult h0 hm hc v3]) ?_
        walk_at "w"
        refine rpr (rpd v hvl v3) (by decide) (by decide) ?_
        walk_at "w"
        refine hN3 _ ?_
        refine p_seq fun N4 hN4 => ?_
        walk_at "w"
        refine ⟨_, rfl, dmLt (by omega), fun r hr => ?_⟩
        obtain ⟨sp, rfl⟩ := Int.eq_ofNat_of_zero_le hr.1
        walk_at "w"
        refine hN4 _ ?_
        refine p_seq fun N5 hN5 => ?_
        have tl : (v.take sp).length ≤ 40 := by rw [List.length_take]; omega
        have tv : VwOk c0 (v.take sp) := fun s hs => v3 s (List.mem_of_mem_take hs)
        have dv : VwOk c0 (v.drop sp) := fun s hs => v3 s (List.mem_of_mem_drop hs)
        walk_at "w"
        refine once _ (v.take sp) _ _ tl tv ?_
        walk_at "w"
        refine hN5 _ ?_
        refine p_seq fun N6 hN6 => ?_
        walk_at "w"
        refine rpr (rpd _ tl tv) (by decide) (by decide) ?_
        walk_at "w"
        refine due _ _ _ tl tv ?_
        walk_at "w"
        refine rpr (rpd _ tl tv) (by decide) (by decide) ?_
        walk_at "w"
        refine hN6 _ ?_
        rcases Classical.em (c0.nev (v.take sp)) with z | z
        · have z2 : c0.nev v := by
            have := nev_more z (w := v.drop sp)
            rwa [List.take_append_drop] at this
          rw [dueX_0 z, dueX_0 z2]
          walk_at "w"
          rw [dIs_nn]
          walk_at "w"
          refine rpr (Rp.none) (by decide) (by decide) ?_
          walk_at "w"
          exact hK _ ⟨_, _, _, _, _, _, _, _, _, _, rfl⟩
        · rw [dueX_1 z]
          walk_at "w"
          rw [dIs_tn]
          walk_at "w"
          have tb := bits _ tl
          have hc2 := behC_ok h0 (by decide) tv z
          have n5 := behC_len (c := c0) (v := v.take sp)
          have dl : (v.take sp).length + (v.drop sp).length = v.length := by rw [List.length_take, List.length_drop]; omega
          have eb2 : ∀ l, l * (2 * ((behC c0 (v.take sp)).st.length * 5)) ≤ l * 40 := fun l => Nat.mul_le_mul_left l (by rw [n5]; omega)
          have tb2 : (v.take sp).length * (2 * (c0.st.length * 5)) ≤ (v.take sp).length * 40 := Nat.mul_le_mul_left _ (by omega)
          have tb3 := eb2 (v.drop sp).length
          refine ⟨5, 5 + (v.take sp).length * (2 * (c0.st.length * 5)), 1605, v.drop sp, behC c0 (v.take sp), false, rfl, hc2, by decide, by decide, dv, by omega, by omega, fun j hj => ?_, by rw [n5]; have := Nat.mul_le_mul_right 1605 n4; omega, by omega, ?_⟩
          · exact (on_rb hc2 (by decide) dv (Nat.le_refl _) hj).mono (by omega)
          rw [dueX_beh h0 (by decide) tv z dv, List.take_append_drop]
          walk_at "w"
          refine rpr (rpd v hvl v3) (by decide) (by decide) ?_
          walk_at "w"
          exact hK _ ⟨_, _, _, _, _, _, _, _, _, _, rfl⟩
    walk_at "w"
    have last : ∀ (Q : R → Prop) (Ey : Exn → Prop), (∀ q : Nat, q ≤ 40 → Q (.d (.int (q : Int)))) → s_law_draw [.deck, .d (.int 7)] Q Ey := fun Q Ey h => ⟨_, rfl, dmLt (by decide), fun r hr => by
      obtain ⟨q, rfl⟩ := Int.eq_ofNat_of_zero_le hr.1
      exact h q (by have := hr.2; omega)⟩
    refine if_both (fun z => ?_) fun z => ?_
    · refine ⟨_, rfl, dmLt (by decide), fun r hr => ?_⟩
      walk_at "w"
      refine if_both (fun z2 => ?_) fun z2 => ?_
      · exact cont2 40 (by omega)
      · refine last _ _ fun q hq => ?_
        walk_at "w"
        exact cont2 q hq
    · refine last _ _ fun q hq => ?_
      walk_at "w"
      exact cont2 q hq
  · rintro e ⟨t2, t3, t4, t5, t6, t8, t9, t10, t11, t12, rfl⟩
    walk_at "g"

end Dl

namespace Dl
open PySem PySem.Spec PyProof.Rows L2

local macro_rules | `(tactic| walk_at "dl") => `(tactic| (simp (config := { maxSteps := 2000000, failIfUnchanged := false }) only [startE, startI, bodyI, slOf, List.map_cons, List.map_nil, List.length_cons, List.length_nil, List.cons_append, List.nil_append, List.append_nil, Nat.reduceAdd, Nat.reduceSub, List.replicate_succ, List.replicate_zero, List.getElem?_cons_zero, List.getElem?_cons_succ, List.getElem?_nil, List.set_cons_zero, List.set_cons_succ, Nat.zero_add,
  ↓wV_eq, ↓wC_eq, ↓wOp_eq, ↓wOp1_eq, ↓wB_eq, ↓wA_nil, ↓wA_cons, ↓wTup_eq, ↓wLst_eq, ↓wCall_eq, ↓wCallK_eq, ↓wIf_eq, ↓wAnd_eq, ↓wOr_eq, ↓tOf_eq, ↓tNotW_eq, ↓tAndW_eq, ↓tOrW_eq, ↓wIsE_eq, ↓toD_d, ↓toD_nw, ↓toD_bw, toD_deck, ↓calm_d, ↓calm_nw, ↓calm_bw, calm_deck, ↓hold_d, ↓hold_nw, ↓hold_bw, hold_deck, ↓holdAll_nil, ↓holdAll_cons, ↓toDs_nil, ↓toDs_d, ↓toDs_bw, argOf_d, argOf_bw, argOf_nw, argOf_deck,
  flat_int, flat_str, flat_bool, flat_none, flat_list, flat_tuple, flat_nw, ↓dAdd_int, ↓dAdd_str, ↓dAdd_list, ↓dAdd_tuple, ↓dSub_int, ↓dMul_int, ↓dMul_list, ↓dInt_int, ↓dNeg_int, ↓dEq_int, ↓dEq_str, ↓dNe_int, ↓dNe_str, ↓dCmp_int, ↓dAbs_int, ↓dInt1_int, ↓dInt1_bool, ↓dGcd_int, dIx_tm, dIx_lm, dIx_tm0, dIx_lm0, dIx_tm1, dIx_lm1, dIx_t0, dIx_t1, dIx_t2, dIx_t3, dIx_l0, dIx_l1, dIx_l2, dIx_tl, dIx_ll, dIx_s, dIx_s0, ↓dLen_list, ↓dLen_tuple, ↓dLen_str, ↓gTupW_eq, ↓gTupL_eq, ↓gNilW_eq, ↓gConsW_eq, ↓wiC_eq, ↓wiS_eq, itemsD_l, itemsD_t, cR1_eq, oR1_eq, cR2_e, oR2_e, rangeD0, rangeDn, subNat, subNat1, Int.reduceToNat, Int.toNat_natCast, intsD_map, boolsD_map, strsD_map, Option.some.injEq, exists_eq_left', sS_length, sS_append, one_beq, dIn_s, itemsL_l, itemsL_t, itemsL_s, cE_l, cE_t, cE_s, oE_l, oE_t, oE_s, cZ_tt, cZ_tl, cZ_lt, cZ_ll, cZ_ss, oZ_tt, oZ_tl, oZ_lt, oZ_ll, oZ_ss, signsD_sS, dJoin_s, cutS_s, cutA_from1, cutA_f1, cutA_t1, cutA_to, cutA_from, cutA_mid, List.length_map, List.length_range, true_and, and_true, beq_iff_eq, decide_eq_true_eq, Bool.not_eq_true', decide_eq_false_iff_not, beq_eq_false_iff_ne, ne_eq, not_true_eq_false, not_false_eq_true, eq_self, beq_self_eq_true, Bool.true_eq_false, List.take_succ_cons, List.take_zero, prm, List.filterMap_cons, List.filterMap_nil,
  ↓wSl_eq, ↓oNone_eq, ↓oSome_eq, ↓dSl_list, ↓dSl_tuple, ↓dSl_str, ↓wChain_eq, ↓wDisp_eq, ↓wDict0_eq, ↓wM_eq, ↓dSum_list, ↓dSum_tuple, ↓dMax_list, ↓dMax_two, ↓dMin_list, ↓dMin_two, ↓dLcm_int, ↓dAllAny_list, ↓dIsi_eq, ↓dList2_list, ↓dList2_tuple, ↓dList2_str, ↓dTuple2_list, ↓dTuple2_tuple, ↓dTuple2_str, ↓dIx_dictS, ↓dIx_dictI, ↓wApp_eq, ↓wAppPop_eq, ↓wExt_eq, ↓wLc_eq, ↓tYesW_eq, wipeE_nil, wipeE_cons, restE_nil, restE_cons, frzAll_nil, frzAll_cons, frz_nil, frz_zero, frz_succ, frzS_no, frzS_d, frzS_deck, frzS_opq, frzS_lst, getD_some, ↓wSto_eq, ↓toD_nwc, ↓toD_bwc, ↓ctoD_lst, ↓ctoD_dic, ↓calm_dic, ↓calm_ins, itemsD_s,
  ↓wSet_eq, ↓wSetD_eq, ↓wIns_eq, ↓wDUpd_eq, ↓wFld_eq, ↓wSetF_eq, ↓wMeth_eq, ↓wAsgH_eq, ↓hTup_eq, ↓hCons_eq, ↓hNil_eq, ↓hOf_eq, ↓hFld_eq, ↓hSub_eq, ↓wPar3DOO_eq, ↓dRev0_s, ↓dMulT_eq, ↓wPopS_eq, ↓wSetPop_eq, ↓wSetPopAt_eq, ↓dRev_list, dRev_s, ↓dLr1_eq, ↓dLr2_eq, ↓wParDO_eq, ↓wPar3O_eq, calm_opq, stE_opq, ↓wRet_eq, ↓wDrop_eq, ↓wIfS_eq, ↓wNext_eq, ↓wBreak_eq, ↓wCont_eq, ↓wPar_eq, ↓wParO_eq, ↓wPar3_eq, ↓wTryAs_eq, ↓wTryAsF_eq, ↓wAsF_one, ↓wRaise1_eq, ↓wIsF_eq, ↓wXf_eq, ↓wAsg_eq, ↓wForI_eq, ↓stE_d, ↓stE_nw, ↓stE_bw, ↓stE_deck, retR_d, retR_nw, bodyP_nx, bodyP_rd, bodyP_rn, bodyP_ex, ↓gN_eq, lit_dot, lit_nil, gTupF, dIx_f0, dIx_f1, dMul_s, dMul_sN, flat_fD, ↓lawE_eq, lawP_rt, lawP_nx, ite_self, if_true, if_false, Bool.false_eq_true, reduceIte]))

local macro_rules | `(tactic| walk_at "bd") => `(tactic| first | with_reducible assumption | ((with_reducible apply RB.bn); assumption) | ((with_reducible apply RB.bd); assumption) | ((with_reducible apply Bd.mul); (focus walk_at "bd"); (focus walk_at "bd")))
local macro_rules | `(tactic| walk_at "sd") => `(tactic| first | with_reducible assumption | with_reducible rfl | with_reducible exact True.intro | omega | with_reducible exact ⟨_, rfl⟩ | ((with_reducible apply smallI) <;> omega) | ((with_reducible apply dmLt); omega) | ((with_reducible apply slLe); omega) | ((with_reducible apply slLt); omega) | ((with_reducible apply slLe); (simp only [List.length_append, List.length_cons, List.length_nil, List.length_map, List.length_range, List.length_take, List.length_drop, List.length_reverse]); omega) | ((with_reducible apply slLt); (simp only [List.length_append, List.length_cons, List.length_nil, List.length_map, List.length_range, List.length_take, List.length_drop, List.length_reverse]); omega) | ((with_reducible apply rgOk) <;> omega) | ((with_reducible apply Bd.mc); (focus walk_at "bd"); (focus walk_at "bd"); decide) | ((with_reducible apply Bd.dc); (focus walk_at "bd"); (focus (first | assumption | omega)); decide))
local macro_rules | `(tactic| walk_at "w") => `(tactic| (walk_at "dl"; repeat ((with_reducible (refine And.intro ?_ ?_)); (focus walk_at "sd"); walk_at "dl")))
local macro_rules | `(tactic| walk_at "n") => `(tactic| ((with_reducible refine nx_of (by assumption) ?_); walk_at "w"))
local macro_rules | `(tactic| walk_at "t") => `(tactic| (walk_at "w"; with_reducible assumption))
local macro_rules | `(tactic| walk_at "g") => `(tactic| (walk_at "w"; (repeat ((first | with_reducible refine p_seq fun _ _ => ?_ | with_reducible refine nx_of (by assumption) ?_); walk_at "w")); try (with_reducible assumption)))

def top (i : Nat) : Stmt := PySem.Challenge.pw_veiledchains_k42_whole_chains_behind_vie.main.body.getD i (.Pass ⟨0, 0, 0, 0⟩)

def methD (i j : Nat) : Stmt := match top i with
  | .ClassDef _ _ _ ds _ _ _ _ _ _ _ => ds.getD j (.Pass ⟨0, 0, 0, 0⟩)
  | _ => .Pass ⟨0, 0, 0, 0⟩

abbrev st_wall : Stmt := top 1
theorem sc_wall : FnScope ["k"] ["k"] (defScope st_wall) := ⟨rfl, rfl, rfl, by decide +kernel, rfl, by decide +kernel, by decide +kernel⟩

abbrev st_greatest_divisor : Stmt := top 8
theorem sc_greatest_divisor : FnScope ["a", "b"] ["a", "b"] (defScope st_greatest_divisor) := ⟨rfl, rfl, rfl, by decide +kernel, rfl, by decide +kernel, by decide +kernel⟩

abbrev st_least_multiple : Stmt := top 9
theorem sc_least_multiple : FnScope ["numbers", "found", "number"] ["numbers"] (defScope st_least_multiple) := ⟨rfl, rfl, rfl, by decide +kernel, rfl, by decide +kernel, by decide +kernel⟩

abbrev st_lowest : Stmt := top 10
theorem sc_lowest : FnScope ["a", "b", "divisor"] ["a", "b"] (defScope st_lowest) := ⟨rfl, rfl, rfl, by decide +kernel, rfl, by decide +kernel, by decide +kernel⟩

abbrev st_plain_line : Stmt := top 12
theorem sc_plain_line : FnScope ["line", "divisor", "weight"] ["line"] (defScope st_plain_line) := ⟨rfl, rfl, rfl, by decide +kernel, rfl, by decide +kernel, by decide +kernel⟩

abbrev st_plain : Stmt := top 13
theorem sc_plain : FnScope ["chain", "signs", "start", "steps", "tells", "fresh_steps", "own"] ["chain"] (defScope st_plain) := ⟨rfl, rfl, rfl, by decide +kernel, rfl, by decide +kernel, by decide +kernel⟩

abbrev st_line_of : Stmt := top 14
theorem sc_line_of : FnScope ["fractions", "common", "own"] ["fractions"] (defScope st_line_of) := ⟨rfl, rfl, rfl, by decide +kernel, rfl, by decide +kernel, by decide +kernel⟩

abbrev st_scaled : Stmt := top 17
theorem sc_scaled : FnScope ["lines", "common", "line", "weight"] ["lines"] (defScope st_scaled) := ⟨rfl, rfl, rfl, by decide +kernel, rfl, by decide +kernel, by decide +kernel⟩

abbrev st_gone_on : Stmt := top 18
theorem sc_gone_on : FnScope ["row", "steps", "number", "line", "state"] ["row", "steps"] (defScope st_gone_on) := ⟨rfl, rfl, rfl, by decide +kernel, rfl, by decide +kernel, by decide +kernel⟩

abbrev st_Scales_told : Stmt := (methD 20 1)
theorem sc_Scales_told : FnScope ["self", "line", "sign", "place", "number", "tells"] ["self", "line", "sign"] (defScope st_Scales_told) := ⟨rfl, rfl, rfl, by decide +kernel, rfl, by decide +kernel, by decide +kernel⟩

abbrev st_told_on : Stmt := top 22
theorem sc_told_on : FnScope ["scales", "line", "whole", "sign"] ["scales", "line", "whole", "sign"] (defScope st_told_on) := ⟨rfl, rfl, rfl, by decide +kernel, rfl, by decide +kernel, by decide +kernel⟩

abbrev st_ahead_lines : Stmt := top 23
theorem sc_ahead_lines : FnScope ["scales", "view", "found", "line", "whole", "place", "sign"] ["scales", "view"] (defScope st_ahead_lines) := ⟨rfl, rfl, rfl, by decide +kernel, rfl, by decide +kernel, by decide +kernel⟩

abbrev st_shares_in : Stmt := top 24
theorem sc_shares_in : FnScope ["pairs", "number", "line", "whole"] ["pairs"] (defScope st_shares_in) := ⟨rfl, rfl, rfl, by decide +kernel, rfl, by decide +kernel, by decide +kernel⟩

abbrev st_onward_line : Stmt := top 25
theorem sc_onward_line : FnScope ["scales", "view", "line", "whole"] ["scales", "view"] (defScope st_onward_line) := ⟨rfl, rfl, rfl, by decide +kernel, rfl, by decide +kernel, by decide +kernel⟩

abbrev st_Scales___init__ : Stmt := (methD 20 0)
theorem sc_Scales___init__ : FnScope ["self", "chain"] ["self", "chain"] (defScope st_Scales___init__) := ⟨rfl, rfl, rfl, by decide +kernel, rfl, by decide +kernel, by decide +kernel⟩

abbrev st_onward_shares : Stmt := top 26
theorem sc_onward_shares : FnScope ["chain", "view"] ["chain", "view"] (defScope st_onward_shares) := ⟨rfl, rfl, rfl, by decide +kernel, rfl, by decide +kernel, by decide +kernel⟩

abbrev st_behind_view : Stmt := top 28
theorem sc_behind_view : FnScope ["chain", "view", "shares", "share"] ["chain", "view"] (defScope st_behind_view) := ⟨rfl, rfl, rfl, by decide +kernel, rfl, by decide +kernel, by decide +kernel⟩

abbrev st_law_deck : Stmt := top 30
theorem sc_law_deck : FnScope ["script", "cells", "stir", "cell"] ["script"] (defScope st_law_deck) := ⟨rfl, rfl, rfl, by decide +kernel, rfl, by decide +kernel, by decide +kernel⟩

abbrev st_law_draw : Stmt := top 31
theorem sc_law_draw : FnScope ["deck", "many", "cell", "found"] ["deck", "many"] (defScope st_law_draw) := ⟨rfl, rfl, rfl, by decide +kernel, rfl, by decide +kernel, by decide +kernel⟩

abbrev st_law_pick : Stmt := top 32
theorem sc_law_pick : FnScope ["deck", "items"] ["deck", "items"] (defScope st_law_pick) := ⟨rfl, rfl, rfl, by decide +kernel, rfl, by decide +kernel, by decide +kernel⟩

abbrev st_law_common : Stmt := top 33
theorem sc_law_common : FnScope ["a", "b"] ["a", "b"] (defScope st_law_common) := ⟨rfl, rfl, rfl, by decide +kernel, rfl, by decide +kernel, by decide +kernel⟩

abbrev st_law_least : Stmt := top 34
theorem sc_law_least : FnScope ["line", "c", "weight"] ["line"] (defScope st_law_least) := ⟨rfl, rfl, rfl, by decide +kernel, rfl, by decide +kernel, by decide +kernel⟩

abbrev st_law_multiple : Stmt := top 35
theorem sc_law_multiple : FnScope ["items", "found", "item"] ["items"] (defScope st_law_multiple) := ⟨rfl, rfl, rfl, by decide +kernel, rfl, by decide +kernel, by decide +kernel⟩

abbrev st_law_plain : Stmt := top 36
theorem sc_law_plain : FnScope ["chain", "steps", "tells", "line"] ["chain"] (defScope st_law_plain) := ⟨rfl, rfl, rfl, by decide +kernel, rfl, by decide +kernel, by decide +kernel⟩

abbrev st_law_weights : Stmt := top 37
theorem sc_law_weights : FnScope ["deck", "many", "line", "turn"] ["deck", "many"] (defScope st_law_weights) := ⟨rfl, rfl, rfl, by decide +kernel, rfl, by decide +kernel, by decide +kernel⟩

abbrev st_law_chain : Stmt := top 38
theorem sc_law_chain : FnScope ["deck", "signs", "many", "steps", "state", "tells"] ["deck", "signs", "many"] (defScope st_law_chain) := ⟨rfl, rfl, rfl, by decide +kernel, rfl, by decide +kernel, by decide +kernel⟩

abbrev st_law_factors : Stmt := top 40
theorem sc_law_factors : FnScope ["deck", "lines", "line"] ["deck", "lines"] (defScope st_law_factors) := ⟨rfl, rfl, rfl, by decide +kernel, rfl, by decide +kernel, by decide +kernel⟩

abbrev st_law_times : Stmt := top 39
theorem sc_law_times : FnScope ["deck", "chain", "parts", "lines", "weight", "line", "times"] ["deck", "chain"] (defScope st_law_times) := ⟨rfl, rfl, rfl, by decide +kernel, rfl, by decide +kernel, by decide +kernel⟩

abbrev st_law_sums : Stmt := top 41
theorem sc_law_sums : FnScope ["some", "found", "chain", "place", "lines", "line"] ["some"] (defScope st_law_sums) := ⟨rfl, rfl, rfl, by decide +kernel, rfl, by decide +kernel, by decide +kernel⟩

abbrev st_law_scaled : Stmt := top 42
theorem sc_law_scaled : FnScope ["line", "whole", "times", "weight"] ["line", "whole"] (defScope st_law_scaled) := ⟨rfl, rfl, rfl, by decide +kernel, rfl, by decide +kernel, by decide +kernel⟩

abbrev st_law_model : Stmt := top 43
theorem sc_law_model : FnScope ["chain", "sums", "steps", "line"] ["chain", "sums"] (defScope st_law_model) := ⟨rfl, rfl, rfl, by decide +kernel, rfl, by decide +kernel, by decide +kernel⟩

abbrev st_law_go : Stmt := top 44
theorem sc_law_go : FnScope ["model", "line", "sign", "place", "state", "weight", "states", "further"] ["model", "line", "sign"] (defScope st_law_go) := ⟨rfl, rfl, rfl, by decide +kernel, rfl, by decide +kernel, by decide +kernel⟩

abbrev st_law_thin : Stmt := top 45
theorem sc_law_thin : FnScope ["line", "c", "item"] ["line"] (defScope st_law_thin) := ⟨rfl, rfl, rfl, by decide +kernel, rfl, by decide +kernel, by decide +kernel⟩

abbrev st_law_due : Stmt := top 46
theorem sc_law_due : FnScope ["chain", "view", "model", "line", "sign"] ["chain", "view"] (defScope st_law_due) := ⟨rfl, rfl, rfl, by decide +kernel, rfl, by decide +kernel, by decide +kernel⟩

abbrev st_law_heard : Stmt := top 47
theorem sc_law_heard : FnScope ["chain", "view", "is_named", "error"] ["chain", "view", "is_named"] (defScope st_law_heard) := ⟨rfl, rfl, rfl, by decide +kernel, rfl, by decide +kernel, by decide +kernel⟩

abbrev st_law : Stmt := top 48
theorem sc_law : FnScope ["script", "deck", "turn", "signs", "chain", "many", "view", "place", "known", "due", "is_named", "spot", "ahead"] ["script"] (defScope st_law) := ⟨rfl, rfl, rfl, by decide +kernel, rfl, by decide +kernel, by decide +kernel⟩

def initD (i : Nat) : Stmt := match top i with
  | .ClassDef _ _ _ (d :: _) _ _ _ _ _ _ _ => d
  | _ => .Pass ⟨0, 0, 0, 0⟩
abbrev initA (i : Nat) : Arguments := defArgs (initD i)
abbrev initB (i : Nat) : List Stmt := defBody (initD i)
abbrev initS (i : Nat) : Scope := defScope (initD i)

structure Bt (P : Program) (g : DG) : Prop where
  dki : g.dki = dkiC
  sysB : ∀ base : Heap, g.K.In base → SysB base
  abs_ : g.mg "abs" = none
  enumerate_ : g.mg "enumerate" = none
  int_ : g.mg "int" = none
  isinstance_ : g.mg "isinstance" = none
  len_ : g.mg "len" = none
  list_ : g.mg "list" = none
  range_ : g.mg "range" = none
  repr_ : g.mg "repr" = none
  sum_ : g.mg "sum" = none
  tuple_ : g.mg "tuple" = none
  zip_ : g.mg "zip" = none
  gcd_ : g.mg "gcd" = some (.builtin "math.gcd")
  lcm_ : g.mg "lcm" = some (.builtin "math.lcm")
  c_NOUGHT : g.mg "NOUGHT" = some (.ref (He.ga g.K "NOUGHT")) ∧ ∀ F, Dq g.K F (.ref (He.ga g.K "NOUGHT")) (.tuple [(.int 0), (.int 1)])
  c_GAP : ∃ t, g.mg "GAP" = some (.str "." t)
  g_wall : g.mg "_wall" = some (.ref (He.ga g.K "_wall"))
  f_wall : ∃ fd, L2.Fun g.K "_wall" "_wall" st_wall (He.ga g.K "_wall") fd
  g_greatest_divisor : g.mg "greatest_divisor" = some (.ref (He.ga g.K "greatest_divisor"))
  f_greatest_divisor : ∃ fd, L2.Fun g.K "greatest_divisor" "greatest_divisor" st_greatest_divisor (He.ga g.K "greatest_divisor") fd
  g_least_multiple : g.mg "least_multiple" = some (.ref (He.ga g.K "least_multiple"))
  f_least_multiple : ∃ fd, L2.Fun g.K "least_multiple" "least_multiple" st_least_multiple (He.ga g.K "least_multiple") fd
  g_lowest : g.mg "lowest" = some (.ref (He.ga g.K "lowest"))
  f_lowest : ∃ fd, L2.Fun g.K "lowest" "lowest" st_lowest (He.ga g.K "lowest") fd
  g_plain_line : g.mg "plain_line" = some (.ref (He.ga g.K "plain_line"))
  f_plain_line : ∃ fd, L2.Fun g.K "plain_line" "plain_line" st_plain_line (He.ga g.K "plain_line") fd
  g_plain : g.mg "plain" = some (.ref (He.ga g.K "plain"))
  f_plain : ∃ fd, L2.Fun g.K "plain" "plain" st_plain (He.ga g.K "plain") fd
  g_line_of : g.mg "line_of" = some (.ref (He.ga g.K "line_of"))
  f_line_of : ∃ fd, L2.Fun g.K "line_of" "line_of" st_line_of (He.ga g.K "line_of") fd
  g_scaled : g.mg "scaled" = some (.ref (He.ga g.K "scaled"))
  f_scaled : ∃ fd, L2.Fun g.K "scaled" "scaled" st_scaled (He.ga g.K "scaled") fd
  g_gone_on : g.mg "gone_on" = some (.ref (He.ga g.K "gone_on"))
  f_gone_on : ∃ fd, L2.Fun g.K "gone_on" "gone_on" st_gone_on (He.ga g.K "gone_on") fd
  g_told_on : g.mg "told_on" = some (.ref (He.ga g.K "told_on"))
  f_told_on : ∃ fd, L2.Fun g.K "told_on" "told_on" st_told_on (He.ga g.K "told_on") fd
  g_ahead_lines : g.mg "ahead_lines" = some (.ref (He.ga g.K "ahead_lines"))
  f_ahead_lines : ∃ fd, L2.Fun g.K "ahead_lines" "ahead_lines" st_ahead_lines (He.ga g.K "ahead_lines") fd
  g_shares_in : g.mg "shares_in" = some (.ref (He.ga g.K "shares_in"))
  f_shares_in : ∃ fd, L2.Fun g.K "shares_in" "shares_in" st_shares_in (He.ga g.K "shares_in") fd
  g_onward_line : g.mg "onward_line" = some (.ref (He.ga g.K "onward_line"))
  f_onward_line : ∃ fd, L2.Fun g.K "onward_line" "onward_line" st_onward_line (He.ga g.K "onward_line") fd
  g_onward_shares : g.mg "onward_shares" = some (.ref (He.ga g.K "onward_shares"))
  f_onward_shares : ∃ fd, L2.Fun g.K "onward_shares" "onward_shares" st_onward_shares (He.ga g.K "onward_shares") fd
  g_behind_view : g.mg "behind_view" = some (.ref (He.ga g.K "behind_view"))
  f_behind_view : ∃ fd, L2.Fun g.K "behind_view" "behind_view" st_behind_view (He.ga g.K "behind_view") fd
  g_law_deck : g.mg "_law_deck" = some (.ref (He.ga g.K "_law_deck"))
  f_law_deck : ∃ fd, L2.Fun g.K "_law_deck" "_law_deck" st_law_deck (He.ga g.K "_law_deck") fd
  g_law_draw : g.mg "_law_draw" = some (.ref (He.ga g.K "_law_draw"))
  f_law_draw : ∃ fd, L2.Fun g.K "_law_draw" "_law_draw" st_law_draw (He.ga g.K "_law_draw") fd
  g_law_pick : g.mg "_law_pick" = some (.ref (He.ga g.K "_law_pick"))
  f_law_pick : ∃ fd, L2.Fun g.K "_law_pick" "_law_pick" st_law_pick (He.ga g.K "_law_pick") fd
  g_law_common : g.mg "_law_common" = some (.ref (He.ga g.K "_law_common"))
  f_law_common : ∃ fd, L2.Fun g.K "_law_common" "_law_common" st_law_common (He.ga g.K "_law_common") fd
  g_law_least : g.mg "_law_least" = some (.ref (He.ga g.K "_law_least"))
  f_law_least : ∃ fd, L2.Fun g.K "_law_least" "_law_least" st_law_least (He.ga g.K "_law_least") fd
  g_law_multiple : g.mg "_law_multiple" = some (.ref (He.ga g.K "_law_multiple"))
  f_law_multiple : ∃ fd, L2.Fun g.K "_law_multiple" "_law_multiple" st_law_multiple (He.ga g.K "_law_multiple") fd
  g_law_plain : g.mg "_law_plain" = some (.ref (He.ga g.K "_law_plain"))
  f_law_plain : ∃ fd, L2.Fun g.K "_law_plain" "_law_plain" st_law_plain (He.ga g.K "_law_plain") fd
  g_law_weights : g.mg "_law_weights" = some (.ref (He.ga g.K "_law_weights"))
  f_law_weights : ∃ fd, L2.Fun g.K "_law_weights" "_law_weights" st_law_weights (He.ga g.K "_law_weights") fd
  g_law_chain : g.mg "_law_chain" = some (.ref (He.ga g.K "_law_chain"))
  f_law_chain : ∃ fd, L2.Fun g.K "_law_chain" "_law_chain" st_law_chain (He.ga g.K "_law_chain") fd
  g_law_factors : g.mg "_law_factors" = some (.ref (He.ga g.K "_law_factors"))
  f_law_factors : ∃ fd, L2.Fun g.K "_law_factors" "_law_factors" st_law_factors (He.ga g.K "_law_factors") fd
  g_law_times : g.mg "_law_times" = some (.ref (He.ga g.K "_law_times"))
  f_law_times : ∃ fd, L2.Fun g.K "_law_times" "_law_times" st_law_times (He.ga g.K "_law_times") fd
  g_law_sums : g.mg "_law_sums" = some (.ref (He.ga g.K "_law_sums"))
  f_law_sums : ∃ fd, L2.Fun g.K "_law_sums" "_law_sums" st_law_sums (He.ga g.K "_law_sums") fd
  g_law_scaled : g.mg "_law_scaled" = some (.ref (He.ga g.K "_law_scaled"))
  f_law_scaled : ∃ fd, L2.Fun g.K "_law_scaled" "_law_scaled" st_law_scaled (He.ga g.K "_law_scaled") fd
  g_law_model : g.mg "_law_model" = some (.ref (He.ga g.K "_law_model"))
  f_law_model : ∃ fd, L2.Fun g.K "_law_model" "_law_model" st_law_model (He.ga g.K "_law_model") fd
  g_law_go : g.mg "_law_go" = some (.ref (He.ga g.K "_law_go"))
  f_law_go : ∃ fd, L2.Fun g.K "_law_go" "_law_go" st_law_go (He.ga g.K "_law_go") fd
  g_law_thin : g.mg "_law_thin" = some (.ref (He.ga g.K "_law_thin"))
  f_law_thin : ∃ fd, L2.Fun g.K "_law_thin" "_law_thin" st_law_thin (He.ga g.K "_law_thin") fd
  g_law_due : g.mg "_law_due" = some (.ref (He.ga g.K "_law_due"))
  f_law_due : ∃ fd, L2.Fun g.K "_law_due" "_law_due" st_law_due (He.ga g.K "_law_due") fd
  g_law_heard : g.mg "_law_heard" = some (.ref (He.ga g.K "_law_heard"))
  f_law_heard : ∃ fd, L2.Fun g.K "_law_heard" "_law_heard" st_law_heard (He.ga g.K "_law_heard") fd
  g_law : g.mg "law" = some (.ref (He.ga g.K "law"))
  f_law : ∃ fd, L2.Fun g.K "law" "law" st_law (He.ga g.K "law") fd
  g_ChainError : g.mg "ChainError" = some (.ref (He.ga g.K "ChainError"))
  g_Unfit : g.mg "Unfit" = some (.ref (He.ga g.K "Unfit"))
  g_Never : g.mg "Never" = some (.ref (He.ga g.K "Never"))
  g_Scales : g.mg "Scales" = some (.ref (He.ga g.K "Scales"))
  cls_Scales : Cls g.K (He.ga g.K "Scales")
  na_Scales_beat : NoAttr g.K (He.ga g.K "Scales") "beat"
  na_Scales_signs : NoAttr g.K (He.ga g.K "Scales") "signs"
  na_Scales_start : NoAttr g.K (He.ga g.K "Scales") "start"
  na_Scales_begun : NoAttr g.K (He.ga g.K "Scales") "begun"
  na_Scales_steps : NoAttr g.K (He.ga g.K "Scales") "steps"
  na_Scales_step_whole : NoAttr g.K (He.ga g.K "Scales") "step_whole"
  na_Scales_tells : NoAttr g.K (He.ga g.K "Scales") "tells"
  na_Scales_tell_whole : NoAttr g.K (He.ga g.K "Scales") "tell_whole"
  me_Scales_told : Meth g.K (He.ga g.K "Scales") "told" (He.ma g.K (He.ga g.K "Scales") "told")
  f_Scales_told : ∃ fd, L2.Fun g.K "told" "Scales.told" st_Scales_told (He.ma g.K (He.ga g.K "Scales") "told") fd
  mk_Scales : Mk g.K (He.ga g.K "Scales") (He.ma g.K (He.ga g.K "Scales") "__init__")
  f_Scales___init__ : ∃ fd, L2.Fun g.K "__init__" "Scales.__init__" st_Scales___init__ (He.ma g.K (He.ga g.K "Scales") "__init__") fd
  T_Unfit : SupC g.K g.mg "Unfit" (He.ga g.K "Unfit") (He.ma g.K (He.ga g.K "Unfit") "__init__")
  S_Unfit : SupF g.K P (He.ga g.K "Unfit") (He.ma g.K (He.ga g.K "Unfit") "__init__") (initA 4) (initB 4) (initS 4)
  T_Never : SupC g.K g.mg "Never" (He.ga g.K "Never") (He.ma g.K (He.ga g.K "Never") "__init__")
  S_Never : SupF g.K P (He.ga g.K "Never") (He.ma g.K (He.ga g.K "Never") "__init__") (initA 5) (initB 5) (initS 5)
  em_Never : ∀ m b ax, Dl.em_Never m = some b → g.mg m = some (.ref ax) → PySem.W.exmOne g.K (.ref ax) (.ref (He.ga g.K "Never")) = some b
  ec_Never : ExcC g.K (He.ga g.K "Never")
  is_Never_ChainError : PySem.W.kitOne g.K (.ref (He.ga g.K "Never")) (.ref (He.ga g.K "ChainError")) = some true

section
variable {P : Program} {w : World} {g : DG} {base : Heap}

theorem fg_wall (B : Bt P g) : Fg P w g base "_wall" st_wall 1 ["k"] s_wall := by
  obtain ⟨fd, F⟩ := B.f_wall
  exact fg_dl (wb := w_wall) B.g_wall F sc_wall (fun cdv A outer s H E c =>
    (evb_one (evs_while c.p (evt_val ev_bool) (evb_one evs_pass)))) pure_wall
theorem fg_greatest_divisor (B : Bt P g) : Fg P w g base "greatest_divisor" st_greatest_divisor 1 ["a", "b"] s_greatest_divisor := by
  obtain ⟨fd, F⟩ := B.f_greatest_divisor
  exact fg_dl (wb := w_greatest_divisor) B.g_greatest_divisor F sc_greatest_divisor (fun cdv A outer s H E c =>
    (evb_one (evs_ret (ev_gcd B.gcd_ (eva_cons (ev_var 0) (eva_cons (ev_var 1) eva_nil)))))) pure_greatest_divisor
theorem fg_least_multiple (B : Bt P g) : Fg P w g base "least_multiple" st_least_multiple 1 ["numbers"] s_least_multiple := by
  obtain ⟨fd, F⟩ := B.f_least_multiple
  exact fg_dl (wb := w_least_multiple) B.g_least_multiple F sc_least_multiple (fun cdv A outer s H E c =>
    (evb_cons (evs_setD (i := 1) sc_least_multiple.nd ev_int)
    (evb_cons (evs_for c.p (evi_seq c.c.K (ev_var 0)) (evg_name 2 sc_least_multiple.nd) (evb_one (evs_setD (i := 1) sc_least_multiple.nd (ev_lcm B.lcm_ (eva_cons (ev_var 1) (eva_cons (ev_var 2) eva_nil))))))
    (evb_one (evs_ret (ev_var 1)))))) pure_least_multiple
theorem fg_lowest (B : Bt P g) : Fg P w g base "lowest" st_lowest 1 ["a", "b"] s_lowest := by
  obtain ⟨fd, F⟩ := B.f_lowest
  exact fg_dl (wb := w_lowest) B.g_lowest F sc_lowest (fun cdv A outer s H E c =>
    (evb_cons (evs_if (evt_cm (cm_eq c.c) (ev_var 1) ev_int) (evb_one (evs_raise0 c.c B.T_Unfit B.S_Unfit c.r c.t)) evb_nil)
    (evb_cons (evs_setD (i := 2) sc_lowest.nd (ev_if (evt_cm cm_gt (ev_var 1) ev_int) (ev_gcd B.gcd_ (eva_cons (ev_var 0) (eva_cons (ev_var 1) eva_nil))) (ev_neg (ev_gcd B.gcd_ (eva_cons (ev_var 0) (eva_cons (ev_var 1) eva_nil))))))
    (evb_one (evs_ret (ev_tup (eva_cons (ev_div (ev_var 0) (ev_var 2)) (eva_cons (ev_div (ev_var 1) (ev_var 2)) eva_nil)))))))) pure_lowest
theorem fg_plain_line (B : Bt P g) (D_greatest_divisor : Fg P w g base "greatest_divisor" st_greatest_divisor 1 ["a", "b"] s_greatest_divisor) : Fg P w g base "plain_line" st_plain_line 2 ["line"] s_plain_line := by
  obtain ⟨fd, F⟩ := B.f_plain_line
  exact fg_dl (wb := w_plain_line) B.g_plain_line F sc_plain_line (fun cdv A outer s H E c =>
    (evb_cons (evs_setD (i := 1) sc_plain_line.nd ev_int)
    (evb_cons (evs_for c.p (evi_seq c.c.K (ev_var 0)) (evg_name 2 sc_plain_line.nd) (evb_one (evs_setD (i := 1) sc_plain_line.nd (ev_call D_greatest_divisor c.c c.t (c.r.mono (by decide)) (eva_cons (ev_var 1) (eva_cons (ev_var 2) eva_nil)) (fun _ _ _ _ _ _ us h => match us, h with | [_,_], _ => rfl)))))
    (evb_one (evs_ret (ev_tuple2 c.c B.tuple_ (eva_cons (ev_lc (own := [(("weight" : Str), 2)]) sc_plain_line.nd (evi_seq c.c.K (ev_var 0)) (blkOk_by (N := ["line", "divisor", "weight"]) (sc := defScope st_plain_line) (by decide +kernel)) (fun s H C cl fp => (evg_name 2 sc_plain_line.nd)) (fun s H C cl fp => evts_nil) (fun s H C cl fp => (ev_div (ev_var 2) (ev_var 1)))) eva_nil))))))) pure_plain_line
theorem fg_plain (B : Bt P g) (D_plain_line : Fg P w g base "plain_line" st_plain_line 2 ["line"] s_plain_line) : Fg P w g base "plain" st_plain 3 ["chain"] s_plain := by
  obtain ⟨fd, F⟩ := B.f_plain
  exact fg_dl (wb := w_plain) B.g_plain F sc_plain (fun cdv A outer s H E c =>
    (evb_cons (evs_asg (ev_var 0) (evg_tup (n := 4) c.c.K (evgs_cons (evg_name 1 sc_plain.nd) (evgs_cons (evg_name 2 sc_plain.nd) (evgs_cons (evg_name 3 sc_plain.nd) (evgs_cons (evg_name 4 sc_plain.nd) evgs_nil))))))
    (evb_cons (evs_setD (i := 5) sc_plain.nd (ev_tuple2 c.c B.tuple_ (eva_cons (ev_lc (own := [(("own" : Str), 6)]) sc_plain.nd (evi_seq c.c.K (ev_var 3)) (blkOk_by (N := ["chain", "signs", "start", "steps", "tells", "fresh_steps", "own"]) (sc := defScope st_plain) (by decide +kernel)) (fun s H C cl fp => (evg_name 6 sc_plain.nd)) (fun s H C cl fp => evts_nil) (fun s H C cl fp => (ev_call D_plain_line (Bx.blk c.bx).c (Bx.blk c.bx).t ((Bx.blk c.bx).r.mono (by decide)) (eva_cons (ev_var 6) eva_nil) (fun _ _ _ _ _ _ us h => match us, h with | [_], _ => rfl)))) eva_nil)))
    (evb_one (evs_ret (ev_tup (eva_cons (ev_var 1) (eva_cons (ev_call D_plain_line c.c c.t (c.r.mono (by decide)) (eva_cons (ev_var 2) eva_nil) (fun _ _ _ _ _ _ us h => match us, h with | [_], _ => rfl)) (eva_cons (ev_var 5) (eva_cons (ev_tuple2 c.c B.tuple_ (eva_cons (ev_lc (own := [(("own" : Str), 6)]) sc_plain.nd (evi_seq c.c.K (ev_var 4)) (blkOk_by (N := ["chain", "signs", "start", "steps", "tells", "fresh_steps", "own"]) (sc := defScope st_plain) (by decide +kernel)) (fun s H C cl fp => (evg_name 6 sc_plain.nd)) (fun s H C cl fp => evts_nil) (fun s H C cl fp => (ev_call D_plain_line (Bx.blk c.bx).c (Bx.blk c.bx).t ((Bx.blk c.bx).r.mono (by decide)) (eva_cons (ev_var 6) eva_nil) (fun _ _ _ _ _ _ us h => match us, h with | [_], _ => rfl)))) eva_nil)) eva_nil)))))))))) pure_plain
theorem fg_line_of (B : Bt P g) (D_least_multiple : Fg P w g base "least_multiple" st_least_multiple 1 ["numbers"] s_least_multiple) (D_plain_line : Fg P w g base "plain_line" st_plain_line 2 ["line"] s_plain_line) : Fg P w g base "line_of" st_line_of 3 ["fractions"] s_line_of := by
  obtain ⟨fd, F⟩ := B.f_line_of
  exact fg_dl (wb := w_line_of) B.g_line_of F sc_line_of (fun cdv A outer s H E c =>
    (evb_cons (evs_setD (i := 1) sc_line_of.nd (ev_call D_least_multiple c.c c.t (c.r.mono (by decide)) (eva_cons (ev_lc (own := [(("own" : Str), 2)]) sc_line_of.nd (evi_seq c.c.K (ev_var 0)) (blkOk_by (N := ["fractions", "common", "own"]) (sc := defScope st_line_of) (by decide +kernel)) (fun s H C cl fp => (evg_name 2 sc_line_of.nd)) (fun s H C cl fp => evts_nil) (fun s H C cl fp => (ev_ix (Bx.blk c.bx).c (ev_var 2) ev_int))) eva_nil) (fun _ _ _ _ _ _ us h => match us, h with | [_], _ => rfl)))
    (evb_one (evs_ret (ev_call D_plain_line c.c c.t (c.r.mono (by decide)) (eva_cons (ev_tuple2 c.c B.tuple_ (eva_cons (ev_lc (own := [(("own" : Str), 2)]) sc_line_of.nd (evi_seq c.c.K (ev_var 0)) (blkOk_by (N := ["fractions", "common", "own"]) (sc := defScope st_line_of) (by decide +kernel)) (fun s H C cl fp => (evg_name 2 sc_line_of.nd)) (fun s H C cl fp => evts_nil) (fun s H C cl fp => (ev_mul (ev_ix (Bx.blk c.bx).c (ev_var 2) ev_int) (ev_div (ev_var 1) (ev_ix (Bx.blk c.bx).c (ev_var 2) ev_int))))) eva_nil)) eva_nil) (fun _ _ _ _ _ _ us h => match us, h with | [_], _ => rfl)))))) pure_line_of
theorem fg_scaled (B : Bt P g) (D_least_multiple : Fg P w g base "least_multiple" st_least_multiple 1 ["numbers"] s_least_multiple) : Fg P w g base "scaled" st_scaled 2 ["lines"] s_scaled := by
  obtain ⟨fd, F⟩ := B.f_scaled
  exact fg_dl (wb := w_scaled) B.g_scaled F sc_scaled (fun cdv A outer s H E c =>
    (evb_cons (evs_setD (i := 1) sc_scaled.nd (ev_call D_least_multiple c.c c.t (c.r.mono (by decide)) (eva_cons (ev_lc (own := [(("line" : Str), 2)]) sc_scaled.nd (evi_seq c.c.K (ev_var 0)) (blkOk_by (N := ["lines", "common", "line", "weight"]) (sc := defScope st_scaled) (by decide +kernel)) (fun s H C cl fp => (evg_name 2 sc_scaled.nd)) (fun s H C cl fp => evts_nil) (fun s H C cl fp => (ev_sum (Bx.blk c.bx).c B.sum_ (eva_cons (ev_var 2) eva_nil)))) eva_nil) (fun _ _ _ _ _ _ us h => match us, h with | [_], _ => rfl)))
    (evb_one (evs_ret (ev_tup (eva_cons (ev_lc (own := [(("line" : Str), 2)]) sc_scaled.nd (evi_seq c.c.K (ev_var 0)) (blkOk_by (N := ["lines", "common", "line", "weight"]) (sc := defScope st_scaled) (by decide +kernel)) (fun s H C cl fp => (evg_name 2 sc_scaled.nd)) (fun s H C cl fp => evts_nil) (fun s H C cl fp => (ev_lc (own := [(("weight" : Str), 3)]) sc_scaled.nd (evi_seq (Bx.blk c.bx).c.K (ev_var 2)) (blkOk_by (by kernel_rfl)) (fun s H C cl fp => (evg_name 3 sc_scaled.nd)) (fun s H C cl fp => evts_nil) (fun s H C cl fp => (ev_mul (ev_var 3) (ev_div (ev_var 1) (ev_sum (Bx.blk (Bx.blk c.bx)).c B.sum_ (eva_cons (ev_var 2) eva_nil)))))))) (eva_cons (ev_var 1) eva_nil))))))) pure_scaled
theorem fg_gone_on (B : Bt P g) : Fg P w g base "gone_on" st_gone_on 1 ["row", "steps"] s_gone_on := by
  obtain ⟨fd, F⟩ := B.f_gone_on
  exact fg_dl (wb := w_gone_on) B.g_gone_on F sc_gone_on (fun cdv A outer s H E c =>
    (evb_one (evs_ret (ev_lc (own := [(("state" : Str), 4)]) sc_gone_on.nd (evi_range1 B.range_ (eva_cons (ev_len c.c B.len_ (eva_cons (ev_var 0) eva_nil)) eva_nil)) (blkOk_by (N := ["row", "steps", "number", "line", "state"]) (sc := defScope st_gone_on) (by decide +kernel)) (fun s H C cl fp => (evg_name 4 sc_gone_on.nd)) (fun s H C cl fp => evts_nil) (fun s H C cl fp => (ev_sum (Bx.blk c.bx).c B.sum_ (eva_cons (ev_lc (own := [(("number" : Str), 2), (("line" : Str), 3)]) sc_gone_on.nd (evi_zip (Bx.blk c.bx).c.K B.zip_ (eva_cons (ev_var 0) (eva_cons (ev_var 1) eva_nil))) (blkOk_by (by kernel_rfl)) (fun s H C cl fp => (evg_tup (n := 2) (Bx.blk (Bx.blk c.bx)).c.K (evgs_cons (evg_name 2 sc_gone_on.nd) (evgs_cons (evg_name 3 sc_gone_on.nd) evgs_nil)))) (fun s H C cl fp => evts_nil) (fun s H C cl fp => (ev_mul (ev_var 2) (ev_ix (Bx.blk (Bx.blk c.bx)).c (ev_var 3) (ev_var 4))))) eva_nil))))))) pure_gone_on
theorem fg_Scales_told (B : Bt P g) : Fm P w g base (He.ma g.K (He.ga g.K "Scales") "told") "told" "Scales.told" st_Scales_told 1 ["self", "line", "sign"] s_Scales_told := by
  obtain ⟨fd, F⟩ := B.f_Scales_told
  exact fm_dl (wb := w_Scales_told) F sc_Scales_told (fun cdv A outer s H E c =>
    (evb_cons (evs_setD (i := 3) sc_Scales_told.nd (ev_mstr PySem.F.slot_str_index PySem.F.type_str_index mt_sindex snd_sindex (ev_fld c.c B.cls_Scales B.na_Scales_signs (ev_var 0)) (eva_cons (ev_var 2) eva_nil)))
    (evb_one (evs_ret (ev_lc (own := [(("number" : Str), 4), (("tells" : Str), 5)]) sc_Scales_told.nd (evi_zip c.c.K B.zip_ (eva_cons (ev_var 1) (eva_cons (ev_fld c.c B.cls_Scales B.na_Scales_tells (ev_var 0)) eva_nil))) (blkOk_by (N := ["self", "line", "sign", "place", "number", "tells"]) (sc := defScope st_Scales_told) (by decide +kernel)) (fun s H C cl fp => (evg_tup (n := 2) (Bx.blk c.bx).c.K (evgs_cons (evg_name 4 sc_Scales_told.nd) (evgs_cons (evg_name 5 sc_Scales_told.nd) evgs_nil)))) (fun s H C cl fp => evts_nil) (fun s H C cl fp => (ev_mul (ev_var 4) (ev_ix (Bx.blk c.bx).c (ev_var 5) (ev_var 3))))))))) pure_Scales_told
theorem fg_told_on (B : Bt P g) (D_Scales_told : Fm P w g base (He.ma g.K (He.ga g.K "Scales") "told") "told" "Scales.told" st_Scales_told 1 ["self", "line", "sign"] s_Scales_told) : Fg P w g base "told_on" st_told_on 2 ["scales", "line", "whole", "sign"] s_told_on := by
  obtain ⟨fd, F⟩ := B.f_told_on
  exact fg_dl (wb := w_told_on) B.g_told_on F sc_told_on (fun cdv A outer s H E c =>
    (evb_cons (evs_if (evt_cm (cm_eq c.c) (ev_var 3) (ev_conS c.c B.c_GAP)) (evb_one (evs_ret (ev_tup (eva_cons (ev_var 1) (eva_cons (ev_var 2) eva_nil))))) evb_nil)
    (evb_one (evs_ret (ev_tup (eva_cons (ev_meth D_Scales_told c.c c.t (c.r.mono (by decide)) B.cls_Scales B.me_Scales_told (ev_var 0) (eva_cons (ev_var 1) (eva_cons (ev_var 3) eva_nil)) (fun _ _ _ _ _ _ us h => match us, h with | [_,_,_], _ => rfl)) (eva_cons (ev_mul (ev_var 2) (ev_fld c.c B.cls_Scales B.na_Scales_tell_whole (ev_var 0))) eva_nil))))))) pure_told_on
theorem fg_ahead_lines (B : Bt P g) (D_told_on : Fg P w g base "told_on" st_told_on 2 ["scales", "line", "whole", "sign"] s_told_on) (D_gone_on : Fg P w g base "gone_on" st_gone_on 1 ["row", "steps"] s_gone_on) : Fg P w g base "ahead_lines" st_ahead_lines 3 ["scales", "view"] s_ahead_lines := by
  obtain ⟨fd, F⟩ := B.f_ahead_lines
  exact fg_dl (wb := w_ahead_lines) B.g_ahead_lines F sc_ahead_lines (fun cdv A outer s H E c =>
    (evb_cons (evs_par3O (i := 2) (j := 3) (l := 4) sc_ahead_lines.nd (ev_lst eva_nil) (eva_cons (ev_fld c.c B.cls_Scales B.na_Scales_start (ev_var 0)) (eva_cons (ev_fld c.c B.cls_Scales B.na_Scales_begun (ev_var 0)) eva_nil)))
    (evb_cons (evs_for c.p (evi_enum c.c.K B.enumerate_ (eva_cons (ev_var 1) eva_nil)) (evg_tup (n := 2) c.c.K (evgs_cons (evg_name 5 sc_ahead_lines.nd) (evgs_cons (evg_name 6 sc_ahead_lines.nd) evgs_nil))) (evb_cons (evs_if (evt_cm cm_gt (ev_var 5) ev_int) (evb_one (evs_par (i := 3) (j := 4) sc_ahead_lines.nd (eva_cons (ev_call D_gone_on c.c c.t (c.r.mono (by decide)) (eva_cons (ev_var 3) (eva_cons (ev_fld c.c B.cls_Scales B.na_Scales_steps (ev_var 0)) eva_nil)) (fun _ _ _ _ _ _ us h => match us, h with | [_,_], _ => rfl)) (eva_cons (ev_mul (ev_var 4) (ev_fld c.c B.cls_Scales B.na_Scales_step_whole (ev_var 0))) eva_nil)))) evb_nil)
    (evb_cons (evs_asg (ev_call D_told_on c.c c.t (c.r.mono (by decide)) (eva_cons (ev_var 0) (eva_cons (ev_var 3) (eva_cons (ev_var 4) (eva_cons (ev_var 6) eva_nil)))) (fun _ _ _ _ _ _ us h => match us, h with | [_,_,_,_], _ => rfl)) (evg_tup (n := 2) c.c.K (evgs_cons (evg_name 3 sc_ahead_lines.nd) (evgs_cons (evg_name 4 sc_ahead_lines.nd) evgs_nil))))
    (evb_one (evs_append 2 c.c (eva_cons (ev_tup (eva_cons (ev_var 3) (eva_cons (ev_var 4) eva_nil))) eva_nil))))))
    (evb_one (evs_ret (ev_var 2)))))) pure_ahead_lines
theorem fg_shares_in (B : Bt P g) (D_lowest : Fg P w g base "lowest" st_lowest 1 ["a", "b"] s_lowest) : Fg P w g base "shares_in" st_shares_in 2 ["pairs"] s_shares_in := by
  obtain ⟨fd, F⟩ := B.f_shares_in
  exact fg_dl (wb := w_shares_in) B.g_shares_in F sc_shares_in (fun cdv A outer s H E c =>
    (evb_one (evs_ret (ev_tuple2 c.c B.tuple_ (eva_cons (ev_lc (own := [(("line" : Str), 2), (("whole" : Str), 3)]) sc_shares_in.nd (evi_seq c.c.K (ev_var 0)) (blkOk_by (N := ["pairs", "number", "line", "whole"]) (sc := defScope st_shares_in) (by decide +kernel)) (fun s H C cl fp => (evg_tup (n := 2) (Bx.blk c.bx).c.K (evgs_cons (evg_name 2 sc_shares_in.nd) (evgs_cons (evg_name 3 sc_shares_in.nd) evgs_nil)))) (fun s H C cl fp => evts_nil) (fun s H C cl fp => (ev_tuple2 (Bx.blk c.bx).c B.tuple_ (eva_cons (ev_lc (own := [(("number" : Str), 1)]) sc_shares_in.nd (evi_seq (Bx.blk c.bx).c.K (ev_var 2)) (blkOk_by (by kernel_rfl)) (fun s H C cl fp => (evg_name 1 sc_shares_in.nd)) (fun s H C cl fp => evts_nil) (fun s H C cl fp => (ev_call D_lowest (Bx.blk (Bx.blk c.bx)).c (Bx.blk (Bx.blk c.bx)).t ((Bx.blk (Bx.blk c.bx)).r.mono (by decide)) (eva_cons (ev_var 1) (eva_cons (ev_var 3) eva_nil)) (fun _ _ _ _ _ _ us h => match us, h with | [_,_], _ => rfl)))) eva_nil)))) eva_nil))))) pure_shares_in
theorem fg_onward_line (B : Bt P g) (D_ahead_lines : Fg P w g base "ahead_lines" st_ahead_lines 3 ["scales", "view"] s_ahead_lines) (D_gone_on : Fg P w g base "gone_on" st_gone_on 1 ["row", "steps"] s_gone_on) : Fg P w g base "onward_line" st_onward_line 4 ["scales", "view"] s_onward_line := by
  obtain ⟨fd, F⟩ := B.f_onward_line
  exact fg_dl (wb := w_onward_line) B.g_onward_line F sc_onward_line (fun cdv A outer s H E c =>
    (evb_cons (evs_if (evt_cm (cm_eq c.c) (ev_var 1) ev_str) (evb_one (evs_ret (ev_tup (eva_cons (ev_fld c.c B.cls_Scales B.na_Scales_start (ev_var 0)) (eva_cons (ev_fld c.c B.cls_Scales B.na_Scales_begun (ev_var 0)) eva_nil))))) evb_nil)
    (evb_cons (evs_asg (ev_ix c.c (ev_call D_ahead_lines c.c c.t (c.r.mono (by decide)) (eva_cons (ev_var 0) (eva_cons (ev_var 1) eva_nil)) (fun _ _ _ _ _ _ us h => match us, h with | [_,_], _ => rfl)) (ev_neg ev_int)) (evg_tup (n := 2) c.c.K (evgs_cons (evg_name 2 sc_onward_line.nd) (evgs_cons (evg_name 3 sc_onward_line.nd) evgs_nil))))
    (evb_one (evs_ret (ev_tup (eva_cons (ev_call D_gone_on c.c c.t (c.r.mono (by decide)) (eva_cons (ev_var 2) (eva_cons (ev_fld c.c B.cls_Scales B.na_Scales_steps (ev_var 0)) eva_nil)) (fun _ _ _ _ _ _ us h => match us, h with | [_,_], _ => rfl)) (eva_cons (ev_mul (ev_var 3) (ev_fld c.c B.cls_Scales B.na_Scales_step_whole (ev_var 0))) eva_nil)))))))) pure_onward_line
theorem fg_Scales___init__ (B : Bt P g) (D_scaled : Fg P w g base "scaled" st_scaled 2 ["lines"] s_scaled) : Fi P w g base "Scales" "Scales.__init__" st_Scales___init__ 3 ["self", "chain"] s_Scales___init__ := by
  obtain ⟨fd, F⟩ := B.f_Scales___init__
  exact fi_dl (wb := w_Scales___init__) F sc_Scales___init__ (fun cdv A outer s H E c =>
    (evb_cons (evs_asgH (ev_tup (eva_cons (ev_ix c.c (ev_var 1) ev_int) (eva_cons (ev_list2 c.c B.list_ (eva_cons (ev_ix c.c (ev_var 1) ev_int) eva_nil)) (eva_cons (ev_sum c.c B.sum_ (eva_cons (ev_ix c.c (ev_var 1) ev_int) eva_nil)) eva_nil)))) (eh_tup (n := 3) c.c.K (ehs_cons (eh_fld 0 c.c B.cls_Scales B.na_Scales_signs) (ehs_cons (eh_fld 0 c.c B.cls_Scales B.na_Scales_start) (ehs_cons (eh_fld 0 c.c B.cls_Scales B.na_Scales_begun) ehs_nil)))))
    (evb_cons (evs_asgH (ev_call D_scaled c.c c.t (c.r.mono (by decide)) (eva_cons (ev_ix c.c (ev_var 1) ev_int) eva_nil) (fun _ _ _ _ _ _ us h => match us, h with | [_], _ => rfl)) (eh_tup (n := 2) c.c.K (ehs_cons (eh_fld 0 c.c B.cls_Scales B.na_Scales_steps) (ehs_cons (eh_fld 0 c.c B.cls_Scales B.na_Scales_step_whole) ehs_nil))))
    (evb_cons (evs_asgH (ev_call D_scaled c.c c.t (c.r.mono (by decide)) (eva_cons (ev_ix c.c (ev_var 1) ev_int) eva_nil) (fun _ _ _ _ _ _ us h => match us, h with | [_], _ => rfl)) (eh_tup (n := 2) c.c.K (ehs_cons (eh_fld 0 c.c B.cls_Scales B.na_Scales_tells) (ehs_cons (eh_fld 0 c.c B.cls_Scales B.na_Scales_tell_whole) ehs_nil))))
    (evb_one (evs_setF 0 c.c B.cls_Scales B.na_Scales_beat (ev_mul (ev_fld c.c B.cls_Scales B.na_Scales_step_whole (ev_var 0)) (ev_fld c.c B.cls_Scales B.na_Scales_tell_whole (ev_var 0))))))))) pure_Scales___init__
theorem fg_onward_shares (B : Bt P g) (D_shares_in : Fg P w g base "shares_in" st_shares_in 2 ["pairs"] s_shares_in) (D_onward_line : Fg P w g base "onward_line" st_onward_line 4 ["scales", "view"] s_onward_line) (D_Scales___init__ : Fi P w g base "Scales" "Scales.__init__" st_Scales___init__ 3 ["self", "chain"] s_Scales___init__) : Fg P w g base "onward_shares" st_onward_shares 5 ["chain", "view"] s_onward_shares := by
  obtain ⟨fd, F⟩ := B.f_onward_shares
  exact fg_dl (wb := w_onward_shares) B.g_onward_shares F sc_onward_shares (fun cdv A outer s H E c =>
    (evb_one (evs_ret (ev_ix c.c (ev_call D_shares_in c.c c.t (c.r.mono (by decide)) (eva_cons (ev_lst (eva_cons (ev_call D_onward_line c.c c.t (c.r.mono (by decide)) (eva_cons (ev_make D_Scales___init__ c.c c.t (c.r.mono (by decide)) B.mk_Scales B.g_Scales (eva_cons (ev_var 0) eva_nil) (fun _ _ _ _ _ _ us h => match us, h with | [_,_], _ => rfl)) (eva_cons (ev_var 1) eva_nil)) (fun _ _ _ _ _ _ us h => match us, h with | [_,_], _ => rfl)) eva_nil)) eva_nil) (fun _ _ _ _ _ _ us h => match us, h with | [_], _ => rfl)) ev_int)))) pure_onward_shares
theorem fg_behind_view (B : Bt P g) (D_onward_shares : Fg P w g base "onward_shares" st_onward_shares 5 ["chain", "view"] s_onward_shares) (D_plain : Fg P w g base "plain" st_plain 3 ["chain"] s_plain) (D_line_of : Fg P w g base "line_of" st_line_of 3 ["fractions"] s_line_of) : Fg P w g base "behind_view" st_behind_view 6 ["chain", "view"] s_behind_view := by
  obtain ⟨fd, F⟩ := B.f_behind_view
  exact fg_dl (wb := w_behind_view) B.g_behind_view F sc_behind_view (fun cdv A outer s H E c =>
    (evb_cons (evs_setD (i := 2) sc_behind_view.nd (ev_call D_onward_shares c.c c.t (c.r.mono (by decide)) (eva_cons (ev_var 0) (eva_cons (ev_var 1) eva_nil)) (fun _ _ _ _ _ _ us h => match us, h with | [_,_], _ => rfl)))
    (evb_cons (evs_if (evt_cm (cm_eq c.c) (ev_lc (own := [(("share" : Str), 3)]) sc_behind_view.nd (evi_seq c.c.K (ev_var 2)) (blkOk_by (N := ["chain", "view", "shares", "share"]) (sc := defScope st_behind_view) (by decide +kernel)) (fun s H C cl fp => (evg_name 3 sc_behind_view.nd)) (fun s H C cl fp => (evts_one (evt_cm (cm_ne (Bx.blk c.bx).c) (ev_var 3) (ev_conT (Bx.blk c.bx).c B.c_NOUGHT)))) (fun s H C cl fp => (ev_var 3))) (ev_lst eva_nil)) (evb_one (evs_raise0 c.c B.T_Never B.S_Never c.r c.t)) evb_nil)
    (evb_one (evs_ret (ev_call D_plain c.c c.t (c.r.mono (by decide)) (eva_cons (ev_tup (eva_cons (ev_ix c.c (ev_var 0) ev_int) (eva_cons (ev_call D_line_of c.c c.t (c.r.mono (by decide)) (eva_cons (ev_var 2) eva_nil) (fun _ _ _ _ _ _ us h => match us, h with | [_], _ => rfl)) (eva_cons (ev_ix c.c (ev_var 0) ev_int) (eva_cons (ev_ix c.c (ev_var 0) ev_int) eva_nil))))) eva_nil) (fun _ _ _ _ _ _ us h => match us, h with | [_], _ => rfl))))))) pure_behind_view
theorem fg_law_draw (B : Bt P g) : Fg P w g base "_law_draw" st_law_draw 1 ["deck", "many"] s_law_draw := by
  obtain ⟨fd, F⟩ := B.f_law_draw
  refine fg_of B.g_law_draw F sc_law_draw fun cdv A outer s H vs Q E hr hg hl hsp => ⟨_, ?_, run_drawC B.dki "deck" "many" "cell" "found" hsp⟩
  have hu : (A.deeper (envOfC "_law_draw" (defScope st_law_draw) s.heap.objs.size (He.ga g.K "_law_draw") cdv)).units + 64 < cLine := by
    have := hr.un
    omega
  have hu1 : (A.deeper (envOfC "_law_draw" (defScope st_law_draw) s.heap.objs.size (He.ga g.K "_law_draw") cdv)).units + 1 < cLine := by omega
  exact pss_cons (ps_if (pt_cmpR op_lt (pv 1) pe_int (nomark _)) (pss_one (ps_ret pe_int)) pss_nil)
    (pss_cons (ps_if (pt_cmpR (op_neD hu) (pe_ix ix_list (pv 0) pe_int (fun _ _ => rfl)) (pe_lst pa_nil) (by first | exact nomark _ | rfl)) (pss_cons (ps_set (i := 2) sc_law_draw.nd rfl (Or.inl rfl) (pe_bm0 PySem.F.plainAttrs_list PySem.F.slot_list_pop PySem.F.type_list_pop mt_pop (pe_ix ix_list (pv 0) pe_int (fun _ _ => rfl))))
      (pss_cons (ps_if (pt_cmpR op_ge1 (pv 2) (pv 1) (nomark _)) (pss_one (ps_expr (pe_bm PySem.F.plainAttrs_list PySem.F.slot_list_append PySem.F.type_list_append mt_append (pe_ix ix_list (pv 0) pe_int (fun _ _ => rfl)) (pa_cons (pe_op op_divC (pv 2) (pv 1)) pa_nil)))) pss_nil)
      (pss_one (ps_ret (pe_op op_modN (pe_callTy call_int1 rfl B.int_ (by decide +kernel) (pa_cons (pv 2) pa_nil)) (pv 1)))))) pss_nil)
    (pss_cons (ps_asg (pe_op op_add (pe_ix ix_list (pv 0) pe_int (fun _ _ => rfl)) pe_int) (pg_sub (pv 0) pe_int set_list))
    (pss_cons (ps_set (i := 3) sc_law_draw.nd rfl (Or.inl rfl) (pe_op op_modN (pe_callTy call_int1 rfl B.int_ (by decide +kernel) (pa_cons (pe_op op_add (pe_ix ix_list (pv 0) pe_int (fun _ _ => rfl)) (pe_op op_mulC pe_int (pe_ix ix_list (pv 0) pe_int (fun _ _ => rfl)))) pa_nil)) pe_int))
    (pss_cons (ps_set (i := 3) sc_law_draw.nd rfl (Or.inl rfl) (pe_op op_modN (pe_callTy call_int1 rfl B.int_ (by decide +kernel) (pa_cons (pe_op op_add (pe_op op_add (pe_op op_mulC (pv 3) (pv 3)) (pe_op op_mulC pe_int (pe_ix ix_list (pv 0) pe_int (fun _ _ => rfl)))) pe_int) pa_nil)) pe_int))
    (pss_cons (ps_set (i := 3) sc_law_draw.nd rfl (Or.inl rfl) (pe_op op_modN (pe_callTy call_int1 rfl B.int_ (by decide +kernel) (pa_cons (pe_op op_add (pe_op op_mulC (pv 3) (pv 3)) (pe_ix ix_list (pv 0) pe_int (fun _ _ => rfl))) pa_nil)) pe_int))
    (pss_one (ps_ret (pe_op op_modN (pe_callTy call_int1 rfl B.int_ (by decide +kernel) (pa_cons (pe_op op_divC (pv 3) pe_int) pa_nil)) (pv 1)))))))))

theorem fg_law_pick (B : Bt P g) (D_law_draw : Fg P w g base "_law_draw" st_law_draw 1 ["deck", "many"] s_law_draw) : Fg P w g base "_law_pick" st_law_pick 2 ["deck", "items"] s_law_pick := by
  obtain ⟨fd, F⟩ := B.f_law_pick
  exact fg_dl (wb := w_law_pick) B.g_law_pick F sc_law_pick (fun cdv A outer s H E c =>
    (evb_one (evs_ret (ev_ix c.c (ev_var 1) (ev_call D_law_draw c.c c.t (c.r.mono (by decide)) (eva_cons (ev_var 0) (eva_cons (ev_len c.c B.len_ (eva_cons (ev_var 1) eva_nil)) eva_nil)) (fun _ _ _ _ _ _ us h => match us, h with | [_,_], _ => rfl)))))) pure_law_pick
theorem fg_law_common (B : Bt P g) : Fg P w g base "_law_common" st_law_common 1 ["a", "b"] s_law_common := by
  obtain ⟨fd, F⟩ := B.f_law_common
  exact fg_dl (wb := w_law_common) B.g_law_common F sc_law_common (fun cdv A outer s H E c =>
    (evb_cons (evs_while c.p (evt_cm (cm_ne c.c) (ev_var 1) ev_int) (evb_one (evs_par (i := 0) (j := 1) sc_law_common.nd (eva_cons (ev_var 1) (eva_cons (ev_mod (ev_var 0) (ev_var 1)) eva_nil)))))
    (evb_one (evs_ret (ev_abs B.abs_ (eva_cons (ev_var 0) eva_nil)))))) pure_law_common
theorem fg_law_least (B : Bt P g) (D_law_common : Fg P w g base "_law_common" st_law_common 1 ["a", "b"] s_law_common) : Fg P w g base "_law_least" st_law_least 2 ["line"] s_law_least := by
  obtain ⟨fd, F⟩ := B.f_law_least
  exact fg_dl (wb := w_law_least) B.g_law_least F sc_law_least (fun cdv A outer s H E c =>
    (evb_cons (evs_setD (i := 1) sc_law_least.nd ev_int)
    (evb_cons (evs_for c.p (evi_seq c.c.K (ev_var 0)) (evg_name 2 sc_law_least.nd) (evb_one (evs_setD (i := 1) sc_law_least.nd (ev_call D_law_common c.c c.t (c.r.mono (by decide)) (eva_cons (ev_var 1) (eva_cons (ev_var 2) eva_nil)) (fun _ _ _ _ _ _ us h => match us, h with | [_,_], _ => rfl)))))
    (evb_one (evs_ret (ev_tuple2 c.c B.tuple_ (eva_cons (ev_lc (own := [(("weight" : Str), 2)]) sc_law_least.nd (evi_seq c.c.K (ev_var 0)) (blkOk_by (N := ["line", "c", "weight"]) (sc := defScope st_law_least) (by decide +kernel)) (fun s H C cl fp => (evg_name 2 sc_law_least.nd)) (fun s H C cl fp => evts_nil) (fun s H C cl fp => (ev_div (ev_var 2) (ev_var 1)))) eva_nil))))))) pure_law_least
theorem fg_law_multiple (B : Bt P g) (D_law_common : Fg P w g base "_law_common" st_law_common 1 ["a", "b"] s_law_common) : Fg P w g base "_law_multiple" st_law_multiple 2 ["items"] s_law_multiple := by
  obtain ⟨fd, F⟩ := B.f_law_multiple
  exact fg_dl (wb := w_law_multiple) B.g_law_multiple F sc_law_multiple (fun cdv A outer s H E c =>
    (evb_cons (evs_setD (i := 1) sc_law_multiple.nd ev_int)
    (evb_cons (evs_for c.p (evi_seq c.c.K (ev_var 0)) (evg_name 2 sc_law_multiple.nd) (evb_one (evs_setD (i := 1) sc_law_multiple.nd (ev_div (ev_mul (ev_var 1) (ev_var 2)) (ev_call D_law_common c.c c.t (c.r.mono (by decide)) (eva_cons (ev_var 1) (eva_cons (ev_var 2) eva_nil)) (fun _ _ _ _ _ _ us h => match us, h with | [_,_], _ => rfl))))))
    (evb_one (evs_ret (ev_var 1)))))) pure_law_multiple
theorem fg_law_plain (B : Bt P g) (D_law_least : Fg P w g base "_law_least" st_law_least 2 ["line"] s_law_least) : Fg P w g base "_law_plain" st_law_plain 3 ["chain"] s_law_plain := by
  obtain ⟨fd, F⟩ := B.f_law_plain
  exact fg_dl (wb := w_law_plain) B.g_law_plain F sc_law_plain (fun cdv A outer s H E c =>
    (evb_cons (evs_par (i := 1) (j := 2) sc_law_plain.nd (eva_cons (ev_lc (own := [(("line" : Str), 3)]) sc_law_plain.nd (evi_seq c.c.K (ev_ix c.c (ev_var 0) ev_int)) (blkOk_by (N := ["chain", "steps", "tells", "line"]) (sc := defScope st_law_plain) (by decide +kernel)) (fun s H C cl fp => (evg_name 3 sc_law_plain.nd)) (fun s H C cl fp => evts_nil) (fun s H C cl fp => (ev_call D_law_least (Bx.blk c.bx).c (Bx.blk c.bx).t ((Bx.blk c.bx).r.mono (by decide)) (eva_cons (ev_var 3) eva_nil) (fun _ _ _ _ _ _ us h => match us, h with | [_], _ => rfl)))) (eva_cons (ev_lc (own := [(("line" : Str), 3)]) sc_law_plain.nd (evi_seq c.c.K (ev_ix c.c (ev_var 0) ev_int)) (blkOk_by (N := ["chain", "steps", "tells", "line"]) (sc := defScope st_law_plain) (by decide +kernel)) (fun s H C cl fp => (evg_name 3 sc_law_plain.nd)) (fun s H C cl fp => evts_nil) (fun s H C cl fp => (ev_call D_law_least (Bx.blk c.bx).c (Bx.blk c.bx).t ((Bx.blk c.bx).r.mono (by decide)) (eva_cons (ev_var 3) eva_nil) (fun _ _ _ _ _ _ us h => match us, h with | [_], _ => rfl)))) eva_nil)))
    (evb_one (evs_ret (ev_tup (eva_cons (ev_ix c.c (ev_var 0) ev_int) (eva_cons (ev_call D_law_least c.c c.t (c.r.mono (by decide)) (eva_cons (ev_ix c.c (ev_var 0) ev_int) eva_nil) (fun _ _ _ _ _ _ us h => match us, h with | [_], _ => rfl)) (eva_cons (ev_tuple2 c.c B.tuple_ (eva_cons (ev_var 1) eva_nil)) (eva_cons (ev_tuple2 c.c B.tuple_ (eva_cons (ev_var 2) eva_nil)) eva_nil))))))))) pure_law_plain
theorem fg_law_weights (B : Bt P g) (D_law_pick : Fg P w g base "_law_pick" st_law_pick 2 ["deck", "items"] s_law_pick) (D_law_draw : Fg P w g base "_law_draw" st_law_draw 1 ["deck", "many"] s_law_draw) : Fg P w g base "_law_weights" st_law_weights 3 ["deck", "many"] s_law_weights := by
  obtain ⟨fd, F⟩ := B.f_law_weights
  exact fg_dl (wb := w_law_weights) B.g_law_weights F sc_law_weights (fun cdv A outer s H E c =>
    (evb_cons (evs_setLc (i := 2) (own := [(("turn" : Str), 3)]) sc_law_weights.nd (evi_range1 B.range_ (eva_cons (ev_var 1) eva_nil)) (blkOk_by (N := ["deck", "many", "line", "turn"]) (sc := defScope st_law_weights) (by decide +kernel)) (fun s H C cl fp => (evg_name 3 sc_law_weights.nd)) (fun s H C cl fp => evts_nil) (fun s H C cl fp => (ev_call D_law_pick (Bx.blk c.bx).c (Bx.blk c.bx).t ((Bx.blk c.bx).r.mono (by decide)) (eva_cons (ev_var 0) (eva_cons (ev_lst (eva_cons ev_int (eva_cons ev_int (eva_cons ev_int (eva_cons ev_int (eva_cons ev_int (eva_cons ev_int (eva_cons ev_int eva_nil)))))))) eva_nil)) (fun _ _ _ _ _ _ us h => match us, h with | [_,_], _ => rfl))))
    (evb_cons (evs_if (evt_cm (cm_eq c.c) (ev_sum c.c B.sum_ (eva_cons (ev_var 2) eva_nil)) ev_int) (evb_one (evs_store 2 c.c (ev_add c.c.K ev_int (ev_call D_law_draw c.c c.t (c.r.mono (by decide)) (eva_cons (ev_var 0) (eva_cons ev_int eva_nil)) (fun _ _ _ _ _ _ us h => match us, h with | [_,_], _ => rfl))) (ev_call D_law_draw c.c c.t (c.r.mono (by decide)) (eva_cons (ev_var 0) (eva_cons (ev_var 1) eva_nil)) (fun _ _ _ _ _ _ us h => match us, h with | [_,_], _ => rfl)))) evb_nil)
    (evb_one (evs_ret (ev_tuple2 c.c B.tuple_ (eva_cons (ev_var 2) eva_nil))))))) pure_law_weights
theorem fg_law_chain (B : Bt P g) (D_law_weights : Fg P w g base "_law_weights" st_law_weights 3 ["deck", "many"] s_law_weights) : Fg P w g base "_law_chain" st_law_chain 4 ["deck", "signs", "many"] s_law_chain := by
  obtain ⟨fd, F⟩ := B.f_law_chain
  exact fg_dl (wb := w_law_chain) B.g_law_chain F sc_law_chain (fun cdv A outer s H E c =>
    (evb_cons (evs_setLcD (i := 3) (own := [(("state" : Str), 4)]) sc_law_chain.nd (evi_range1 B.range_ (eva_cons (ev_var 2) eva_nil)) (blkOk_by (N := ["deck", "signs", "many", "steps", "state", "tells"]) (sc := defScope st_law_chain) (by decide +kernel)) (fun s H C cl fp => (evg_name 4 sc_law_chain.nd)) (fun s H C cl fp => evts_nil) (fun s H C cl fp => (ev_call D_law_weights (Bx.blk c.bx).c (Bx.blk c.bx).t ((Bx.blk c.bx).r.mono (by decide)) (eva_cons (ev_var 0) (eva_cons (ev_var 2) eva_nil)) (fun _ _ _ _ _ _ us h => match us, h with | [_,_], _ => rfl))))
    (evb_cons (evs_setLcD (i := 5) (own := [(("state" : Str), 4)]) sc_law_chain.nd (evi_range1 B.range_ (eva_cons (ev_var 2) eva_nil)) (blkOk_by (N := ["deck", "signs", "many", "steps", "state", "tells"]) (sc := defScope st_law_chain) (by decide +kernel)) (fun s H C cl fp => (evg_name 4 sc_law_chain.nd)) (fun s H C cl fp => evts_nil) (fun s H C cl fp => (ev_call D_law_weights (Bx.blk c.bx).c (Bx.blk c.bx).t ((Bx.blk c.bx).r.mono (by decide)) (eva_cons (ev_var 0) (eva_cons (ev_len (Bx.blk c.bx).c B.len_ (eva_cons (ev_var 1) eva_nil)) eva_nil)) (fun _ _ _ _ _ _ us h => match us, h with | [_,_], _ => rfl))))
    (evb_one (evs_ret (ev_tup (eva_cons (ev_var 1) (eva_cons (ev_call D_law_weights c.c c.t (c.r.mono (by decide)) (eva_cons (ev_var 0) (eva_cons (ev_var 2) eva_nil)) (fun _ _ _ _ _ _ us h => match us, h with | [_,_], _ => rfl)) (eva_cons (ev_tuple2 c.c B.tuple_ (eva_cons (ev_var 3) eva_nil)) (eva_cons (ev_tuple2 c.c B.tuple_ (eva_cons (ev_var 5) eva_nil)) eva_nil)))))))))) pure_law_chain
theorem fg_law_factors (B : Bt P g) (D_law_draw : Fg P w g base "_law_draw" st_law_draw 1 ["deck", "many"] s_law_draw) : Fg P w g base "_law_factors" st_law_factors 2 ["deck", "lines"] s_law_factors := by
  obtain ⟨fd, F⟩ := B.f_law_factors
  exact fg_dl (wb := w_law_factors) B.g_law_factors F sc_law_factors (fun cdv A outer s H E c =>
    (evb_one (evs_ret (ev_lc (own := [(("line" : Str), 2)]) sc_law_factors.nd (evi_seq c.c.K (ev_var 1)) (blkOk_by (N := ["deck", "lines", "line"]) (sc := defScope st_law_factors) (by decide +kernel)) (fun s H C cl fp => (evg_name 2 sc_law_factors.nd)) (fun s H C cl fp => evts_nil) (fun s H C cl fp => (ev_tup (eva_cons (ev_var 2) (eva_cons (ev_add (Bx.blk c.bx).c.K ev_int (ev_call D_law_draw (Bx.blk c.bx).c (Bx.blk c.bx).t ((Bx.blk c.bx).r.mono (by decide)) (eva_cons (ev_var 0) (eva_cons ev_int eva_nil)) (fun _ _ _ _ _ _ us h => match us, h with | [_,_], _ => rfl))) eva_nil)))))))) pure_law_factors
theorem fg_law_times (B : Bt P g) (D_law_factors : Fg P w g base "_law_factors" st_law_factors 2 ["deck", "lines"] s_law_factors) : Fg P w g base "_law_times" st_law_times 3 ["deck", "chain"] s_law_times := by
  obtain ⟨fd, F⟩ := B.f_law_times
  exact fg_dl (wb := w_law_times) B.g_law_times F sc_law_times (fun cdv A outer s H E c =>
    (evb_cons (evs_set (i := 2) sc_law_times.nd (ev_lst eva_nil))
    (evb_cons (evs_for c.p (evi_seq c.c.K (ev_tup (eva_cons (ev_tup (eva_cons (ev_ix c.c (ev_var 1) ev_int) eva_nil)) (eva_cons (ev_ix c.c (ev_var 1) ev_int) (eva_cons (ev_ix c.c (ev_var 1) ev_int) eva_nil))))) (evg_name 3 sc_law_times.nd) (evb_one (evs_append 2 c.c (eva_cons (ev_tuple2 c.c B.tuple_ (eva_cons (ev_lc (own := [(("line" : Str), 5), (("times" : Str), 6)]) sc_law_times.nd (evi_seq c.c.K (ev_call D_law_factors c.c c.t (c.r.mono (by decide)) (eva_cons (ev_var 0) (eva_cons (ev_var 3) eva_nil)) (fun _ _ _ _ _ _ us h => match us, h with | [_,_], _ => rfl))) (blkOk_by (N := ["deck", "chain", "parts", "lines", "weight", "line", "times"]) (sc := defScope st_law_times) (by decide +kernel)) (fun s H C cl fp => (evg_tup (n := 2) (Bx.blk c.bx).c.K (evgs_cons (evg_name 5 sc_law_times.nd) (evgs_cons (evg_name 6 sc_law_times.nd) evgs_nil)))) (fun s H C cl fp => evts_nil) (fun s H C cl fp => (ev_tuple2 (Bx.blk c.bx).c B.tuple_ (eva_cons (ev_lc (own := [(("weight" : Str), 4)]) sc_law_times.nd (evi_seq (Bx.blk c.bx).c.K (ev_var 5)) (blkOk_by (by kernel_rfl)) (fun s H C cl fp => (evg_name 4 sc_law_times.nd)) (fun s H C cl fp => evts_nil) (fun s H C cl fp => (ev_mul (ev_var 4) (ev_var 6)))) eva_nil)))) eva_nil)) eva_nil))))
    (evb_one (evs_ret (ev_tup (eva_cons (ev_ix c.c (ev_var 1) ev_int) (eva_cons (ev_ix c.c (ev_ix c.c (ev_var 2) ev_int) ev_int) (eva_cons (ev_ix c.c (ev_var 2) ev_int) (eva_cons (ev_ix c.c (ev_var 2) ev_int) eva_nil)))))))))) pure_law_times
theorem fg_law_sums (B : Bt P g) (D_law_multiple : Fg P w g base "_law_multiple" st_law_multiple 2 ["items"] s_law_multiple) : Fg P w g base "_law_sums" st_law_sums 3 ["some"] s_law_sums := by
  obtain ⟨fd, F⟩ := B.f_law_sums
  exact fg_dl (wb := w_law_sums) B.g_law_sums F sc_law_sums (fun cdv A outer s H E c =>
    (evb_cons (evs_set (i := 1) sc_law_sums.nd (ev_lst (eva_cons (ev_call D_law_multiple c.c c.t (c.r.mono (by decide)) (eva_cons (ev_lc (own := [(("chain" : Str), 2)]) sc_law_sums.nd (evi_seq c.c.K (ev_var 0)) (blkOk_by (N := ["some", "found", "chain", "place", "lines", "line"]) (sc := defScope st_law_sums) (by decide +kernel)) (fun s H C cl fp => (evg_name 2 sc_law_sums.nd)) (fun s H C cl fp => evts_nil) (fun s H C cl fp => (ev_sum (Bx.blk c.bx).c B.sum_ (eva_cons (ev_ix (Bx.blk c.bx).c (ev_var 2) ev_int) eva_nil)))) eva_nil) (fun _ _ _ _ _ _ us h => match us, h with | [_], _ => rfl)) eva_nil)))
    (evb_cons (evs_for c.p (evi_seq c.c.K (ev_tup (eva_cons ev_int (eva_cons ev_int eva_nil)))) (evg_name 3 sc_law_sums.nd) (evb_cons (evs_setD (i := 4) sc_law_sums.nd (ev_lst eva_nil))
    (evb_cons (evs_for c.p (evi_seq c.c.K (ev_var 0)) (evg_name 2 sc_law_sums.nd) (evb_one (evs_setD (i := 4) sc_law_sums.nd (ev_add c.c.K (ev_var 4) (ev_lc (own := [(("line" : Str), 5)]) sc_law_sums.nd (evi_seq c.c.K (ev_ix c.c (ev_var 2) (ev_var 3))) (blkOk_by (N := ["some", "found", "chain", "place", "lines", "line"]) (sc := defScope st_law_sums) (by decide +kernel)) (fun s H C cl fp => (evg_name 5 sc_law_sums.nd)) (fun s H C cl fp => evts_nil) (fun s H C cl fp => (ev_sum (Bx.blk c.bx).c B.sum_ (eva_cons (ev_var 5) eva_nil))))))))
    (evb_one (evs_append 1 c.c (eva_cons (ev_call D_law_multiple c.c c.t (c.r.mono (by decide)) (eva_cons (ev_var 4) eva_nil) (fun _ _ _ _ _ _ us h => match us, h with | [_], _ => rfl)) eva_nil))))))
    (evb_one (evs_ret (ev_var 1)))))) pure_law_sums
theorem fg_law_scaled (B : Bt P g) : Fg P w g base "_law_scaled" st_law_scaled 1 ["line", "whole"] s_law_scaled := by
  obtain ⟨fd, F⟩ := B.f_law_scaled
  exact fg_dl (wb := w_law_scaled) B.g_law_scaled F sc_law_scaled (fun cdv A outer s H E c =>
    (evb_cons (evs_setD (i := 2) sc_law_scaled.nd (ev_div (ev_var 1) (ev_sum c.c B.sum_ (eva_cons (ev_var 0) eva_nil))))
    (evb_one (evs_ret (ev_lc (own := [(("weight" : Str), 3)]) sc_law_scaled.nd (evi_seq c.c.K (ev_var 0)) (blkOk_by (N := ["line", "whole", "times", "weight"]) (sc := defScope st_law_scaled) (by decide +kernel)) (fun s H C cl fp => (evg_name 3 sc_law_scaled.nd)) (fun s H C cl fp => evts_nil) (fun s H C cl fp => (ev_mul (ev_var 3) (ev_var 2)))))))) pure_law_scaled
theorem fg_law_model (B : Bt P g) (D_law_scaled : Fg P w g base "_law_scaled" st_law_scaled 1 ["line", "whole"] s_law_scaled) : Fg P w g base "_law_model" st_law_model 2 ["chain", "sums"] s_law_model := by
  obtain ⟨fd, F⟩ := B.f_law_model
  exact fg_dl (wb := w_law_model) B.g_law_model F sc_law_model (fun cdv A outer s H E c =>
    (evb_cons (evs_setLcD (i := 2) (own := [(("line" : Str), 3)]) sc_law_model.nd (evi_seq c.c.K (ev_ix c.c (ev_var 0) ev_int)) (blkOk_by (N := ["chain", "sums", "steps", "line"]) (sc := defScope st_law_model) (by decide +kernel)) (fun s H C cl fp => (evg_name 3 sc_law_model.nd)) (fun s H C cl fp => evts_nil) (fun s H C cl fp => (ev_call D_law_scaled (Bx.blk c.bx).c (Bx.blk c.bx).t ((Bx.blk c.bx).r.mono (by decide)) (eva_cons (ev_var 3) (eva_cons (ev_ix (Bx.blk c.bx).c (ev_var 1) ev_int) eva_nil)) (fun _ _ _ _ _ _ us h => match us, h with | [_,_], _ => rfl))))
    (evb_one (evs_ret (ev_tup (eva_cons (ev_ix c.c (ev_var 0) ev_int) (eva_cons (ev_call D_law_scaled c.c c.t (c.r.mono (by decide)) (eva_cons (ev_ix c.c (ev_var 0) ev_int) (eva_cons (ev_ix c.c (ev_var 1) ev_int) eva_nil)) (fun _ _ _ _ _ _ us h => match us, h with | [_,_], _ => rfl)) (eva_cons (ev_var 2) (eva_cons (ev_lc (own := [(("line" : Str), 3)]) sc_law_model.nd (evi_seq c.c.K (ev_ix c.c (ev_var 0) ev_int)) (blkOk_by (N := ["chain", "sums", "steps", "line"]) (sc := defScope st_law_model) (by decide +kernel)) (fun s H C cl fp => (evg_name 3 sc_law_model.nd)) (fun s H C cl fp => evts_nil) (fun s H C cl fp => (ev_call D_law_scaled (Bx.blk c.bx).c (Bx.blk c.bx).t ((Bx.blk c.bx).r.mono (by decide)) (eva_cons (ev_var 3) (eva_cons (ev_ix (Bx.blk c.bx).c (ev_var 1) ev_int) eva_nil)) (fun _ _ _ _ _ _ us h => match us, h with | [_,_], _ => rfl)))) eva_nil))))))))) pure_law_model
theorem fg_law_go (B : Bt P g) : Fg P w g base "_law_go" st_law_go 1 ["model", "line", "sign"] s_law_go := by
  obtain ⟨fd, F⟩ := B.f_law_go
  exact fg_dl (wb := w_law_go) B.g_law_go F sc_law_go (fun cdv A outer s H E c =>
    (evb_cons (evs_if (evt_cm (cm_ne c.c) (ev_var 2) ev_str) (evb_cons (evs_setD (i := 3) sc_law_go.nd (ev_mstr PySem.F.slot_str_index PySem.F.type_str_index mt_sindex snd_sindex (ev_ix c.c (ev_var 0) ev_int) (eva_cons (ev_var 2) eva_nil)))
    (evb_one (evs_setD (i := 1) sc_law_go.nd (ev_lc (own := [(("state" : Str), 4), (("weight" : Str), 5)]) sc_law_go.nd (evi_enum c.c.K B.enumerate_ (eva_cons (ev_var 1) eva_nil)) (blkOk_by (N := ["model", "line", "sign", "place", "state", "weight", "states", "further"]) (sc := defScope st_law_go) (by decide +kernel)) (fun s H C cl fp => (evg_tup (n := 2) (Bx.blk c.bx).c.K (evgs_cons (evg_name 4 sc_law_go.nd) (evgs_cons (evg_name 5 sc_law_go.nd) evgs_nil)))) (fun s H C cl fp => evts_nil) (fun s H C cl fp => (ev_mul (ev_var 5) (ev_ix (Bx.blk c.bx).c (ev_ix (Bx.blk c.bx).c (ev_ix (Bx.blk c.bx).c (ev_var 0) ev_int) (ev_var 4)) (ev_var 3)))))))) evb_nil)
    (evb_cons (evs_setD (i := 6) sc_law_go.nd (ev_listRg1 B.list_ B.range_ (ev_len c.c B.len_ (eva_cons (ev_var 1) eva_nil))))
    (evb_one (evs_ret (ev_lc (own := [(("further" : Str), 7)]) sc_law_go.nd (evi_seq c.c.K (ev_var 6)) (blkOk_by (N := ["model", "line", "sign", "place", "state", "weight", "states", "further"]) (sc := defScope st_law_go) (by decide +kernel)) (fun s H C cl fp => (evg_name 7 sc_law_go.nd)) (fun s H C cl fp => evts_nil) (fun s H C cl fp => (ev_sum (Bx.blk c.bx).c B.sum_ (eva_cons (ev_lc (own := [(("state" : Str), 4)]) sc_law_go.nd (evi_seq (Bx.blk c.bx).c.K (ev_var 6)) (blkOk_by (by kernel_rfl)) (fun s H C cl fp => (evg_name 4 sc_law_go.nd)) (fun s H C cl fp => evts_nil) (fun s H C cl fp => (ev_mul (ev_ix (Bx.blk (Bx.blk c.bx)).c (ev_var 1) (ev_var 4)) (ev_ix (Bx.blk (Bx.blk c.bx)).c (ev_ix (Bx.blk (Bx.blk c.bx)).c (ev_ix (Bx.blk (Bx.blk c.bx)).c (ev_var 0) ev_int) (ev_var 4)) (ev_var 7))))) eva_nil))))))))) pure_law_go
theorem fg_law_thin (B : Bt P g) (D_law_common : Fg P w g base "_law_common" st_law_common 1 ["a", "b"] s_law_common) : Fg P w g base "_law_thin" st_law_thin 2 ["line"] s_law_thin := by
  obtain ⟨fd, F⟩ := B.f_law_thin
  exact fg_dl (wb := w_law_thin) B.g_law_thin F sc_law_thin (fun cdv A outer s H E c =>
    (evb_cons (evs_setD (i := 1) sc_law_thin.nd ev_int)
    (evb_cons (evs_for c.p (evi_seq c.c.K (ev_var 0)) (evg_name 2 sc_law_thin.nd) (evb_one (evs_setD (i := 1) sc_law_thin.nd (ev_call D_law_common c.c c.t (c.r.mono (by decide)) (eva_cons (ev_var 1) (eva_cons (ev_var 2) eva_nil)) (fun _ _ _ _ _ _ us h => match us, h with | [_,_], _ => rfl)))))
    (evb_one (evs_ret (ev_if (evt_cm cm_gt (ev_var 1) ev_int) (ev_lc (own := [(("item" : Str), 2)]) sc_law_thin.nd (evi_seq c.c.K (ev_var 0)) (blkOk_by (N := ["line", "c", "item"]) (sc := defScope st_law_thin) (by decide +kernel)) (fun s H C cl fp => (evg_name 2 sc_law_thin.nd)) (fun s H C cl fp => evts_nil) (fun s H C cl fp => (ev_div (ev_var 2) (ev_var 1)))) (ev_var 0))))))) pure_law_thin
theorem fg_law_due (B : Bt P g) (D_law_model : Fg P w g base "_law_model" st_law_model 2 ["chain", "sums"] s_law_model) (D_law_plain : Fg P w g base "_law_plain" st_law_plain 3 ["chain"] s_law_plain) (D_law_sums : Fg P w g base "_law_sums" st_law_sums 3 ["some"] s_law_sums) (D_law_thin : Fg P w g base "_law_thin" st_law_thin 2 ["line"] s_law_thin) (D_law_go : Fg P w g base "_law_go" st_law_go 1 ["model", "line", "sign"] s_law_go) : Fg P w g base "_law_due" st_law_due 4 ["chain", "view"] s_law_due := by
  obtain ⟨fd, F⟩ := B.f_law_due
  exact fg_dl (wb := w_law_due) B.g_law_due F sc_law_due (fun cdv A outer s H E c =>
    (evb_cons (evs_setD (i := 2) sc_law_due.nd (ev_call D_law_model c.c c.t (c.r.mono (by decide)) (eva_cons (ev_var 0) (eva_cons (ev_call D_law_sums c.c c.t (c.r.mono (by decide)) (eva_cons (ev_lst (eva_cons (ev_var 0) eva_nil)) eva_nil) (fun _ _ _ _ _ _ us h => match us, h with | [_], _ => rfl)) eva_nil)) (fun _ _ _ _ _ _ us h => match us, h with | [_,_], _ => rfl)))
    (evb_cons (evs_setD (i := 3) sc_law_due.nd (ev_ix c.c (ev_var 2) ev_int))
    (evb_cons (evs_for c.p (evi_seq c.c.K (ev_var 1)) (evg_name 4 sc_law_due.nd) (evb_one (evs_setD (i := 3) sc_law_due.nd (ev_call D_law_thin c.c c.t (c.r.mono (by decide)) (eva_cons (ev_call D_law_go c.c c.t (c.r.mono (by decide)) (eva_cons (ev_var 2) (eva_cons (ev_var 3) (eva_cons (ev_var 4) eva_nil))) (fun _ _ _ _ _ _ us h => match us, h with | [_,_,_], _ => rfl)) eva_nil) (fun _ _ _ _ _ _ us h => match us, h with | [_], _ => rfl)))))
    (evb_cons (evs_if (evt_cm (cm_eq c.c) (ev_sum c.c B.sum_ (eva_cons (ev_var 3) eva_nil)) ev_int) (evb_one (evs_ret ev_none)) evb_nil)
    (evb_one (evs_ret (ev_call D_law_plain c.c c.t (c.r.mono (by decide)) (eva_cons (ev_tup (eva_cons (ev_ix c.c (ev_var 0) ev_int) (eva_cons (ev_tuple2 c.c B.tuple_ (eva_cons (ev_var 3) eva_nil)) (eva_cons (ev_ix c.c (ev_var 0) ev_int) (eva_cons (ev_ix c.c (ev_var 0) ev_int) eva_nil))))) eva_nil) (fun _ _ _ _ _ _ us h => match us, h with | [_], _ => rfl))))))))) pure_law_due
theorem fg_law_heard (B : Bt P g) (D_behind_view : Fg P w g base "behind_view" st_behind_view 6 ["chain", "view"] s_behind_view) : Fg P w g base "_law_heard" st_law_heard 7 ["chain", "view", "is_named"] s_law_heard := by
  obtain ⟨fd, F⟩ := B.f_law_heard
  exact fg_dl (wb := w_law_heard g) B.g_law_heard F sc_law_heard (fun cdv A outer s H E c =>
    (evb_one (evs_tryAs (i := 3) (em := em_Never) c.c sc_law_heard.nd ⟨rfl, by decide, .inl B.g_Never⟩ c.t B.em_Never
    (fun W pn xe t p => (evb_one (evs_ret (ev_if (evt_val (ev_var 2)) (ev_callK (ks := [("view" : Str), ("chain" : Str)]) (idx := [1, 0]) D_behind_view (Bc.tr c t p).c (Bc.tr c t p).t ((Bc.tr c t p).r.mono (by decide)) (evk_cons (ev_var 1) (evk_cons (ev_var 0) evk_nil)) (fun _ _ _ _ _ _ us h => match us, h with | [_,_], _ => rfl)) (ev_call D_behind_view (Bc.tr c t p).c (Bc.tr c t p).t ((Bc.tr c t p).r.mono (by decide)) (eva_cons (ev_var 0) (eva_cons (ev_var 1) eva_nil)) (fun _ _ _ _ _ _ us h => match us, h with | [_,_], _ => rfl))))))
    (fun a oe cls d pn hz hf => (evb_one (evs_ret (ev_if (evt_val (ev_isE 3 c.c hz hf B.ec_Never B.is_Never_ChainError B.g_ChainError B.isinstance_)) ev_none ev_str))))))) (pure_law_heard B.g_Never)
end
/-! ### the deck's def -/
theorem fn_law_deck {P : Program} {w : World} {g : DG} {base : Heap} (B : Bt P g) {fd : FuncData} (F : L2.Fun g.K "_law_deck" "_law_deck" st_law_deck (He.ga g.K "_law_deck") fd) : FnOk P w g.K g.mg base (L2.CX P w) 1 (He.ga g.K "_law_deck") fd ["script"] (spDeck g) := by
  refine F.okX sc_law_deck (fun vs H Q E h => by obtain ⟨a, ns, rfl, _⟩ := h; rfl) fun cdv A outer s H vs Q E hr h => ⟨_, ?_, run_deckC B.dki "script" "cells" "stir" "cell" h⟩
  exact pss_cons (ps_par rfl sc_law_deck.nd rfl rfl (by decide) rfl rfl (pa_cons (pe_lc rfl sc_law_deck.nd (pi_list (pe_slice sl_list (pv 0) po_none (po_some pe_int))) (own := [(("cell" : Str), 3)]) (blkOk_by (N := ["script", "cells", "stir", "cell"]) (sc := defScope st_law_deck) (by decide +kernel)) (fun s H C cl fp => pg_name (i := 3) sc_law_deck.nd rfl (Or.inl rfl)) (fun s H C cl fp => pts_nil)
      (fun s H C cl fp => pe_op op_add (pe_op op_mulC pe_int (pe_callB call_abs rfl B.abs_ (by decide +kernel) (pa_cons (pv 3) pa_nil))) (pe_callTy call_int1 rfl B.int_ (by decide +kernel) (pa_cons (pe_cmpR op_lt (pv 3) pe_int (nomark _)) pa_nil))))
      (pa_cons (pe_op op_add pe_int (pe_callB call_len_seq rfl B.len_ boot_len (pa_cons (pv 0) pa_nil))) pa_nil)) rfl)
    (pss_cons (ps_for (passes_of rfl) rfl (pi_list (pv 1)) (pg_name (i := 3) sc_law_deck.nd rfl (Or.inl rfl)) (pss_one (ps_set (i := 2) sc_law_deck.nd rfl (Or.inl rfl) (pe_op op_modN (pe_callTy call_int1 rfl B.int_ (by decide +kernel) (pa_cons (pe_op op_add (pe_op op_add (pe_op op_mulC (pv 2) pe_int) (pv 3)) pe_int) pa_nil)) pe_int))))
    (pss_one (ps_ret (pe_lst (pa_cons (pe_lc rfl sc_law_deck.nd (pi_list (pv 1)) (own := [(("cell" : Str), 3)]) (blkOk_by (N := ["script", "cells", "stir", "cell"]) (sc := defScope st_law_deck) (by decide +kernel)) (fun s H C cl fp => pg_name (i := 3) sc_law_deck.nd rfl (Or.inl rfl)) (fun s H C cl fp => pts_one (pt_cmpR op_ge1 (pv 3) (pe_op op_pow pe_int pe_int) (by first | exact nomark _ | rfl))) (fun s H C cl fp => pv 3)) (pa_cons (pv 2) (pa_cons pe_int pa_nil)))))))
theorem law_run {P : Program} {w : World} {g : DG} {base : Heap} (B : Bt P g) {a : Addr} {ns : List Int} (hb : g.K.In base) (hns : ns.length ≤ 63) : LawRun P w g.K g.mg base (He.ga g.K "law") a ns := by
  have D_wall : Fg P w g base "_wall" st_wall 1 ["k"] s_wall := fg_wall B
  have D_greatest_divisor : Fg P w g base "greatest_divisor" st_greatest_divisor 1 ["a", "b"] s_greatest_divisor := fg_greatest_divisor B
  have D_least_multiple : Fg P w g base "least_multiple" st_least_multiple 1 ["numbers"] s_least_multiple := fg_least_multiple B
  have D_lowest : Fg P w g base "lowest" st_lowest 1 ["a", "b"] s_lowest := fg_lowest B
  have D_plain_line : Fg P w g base "plain_line" st_plain_line 2 ["line"] s_plain_line := fg_plain_line B D_greatest_divisor
  have D_plain : Fg P w g base "plain" st_plain 3 ["chain"] s_plain := fg_plain B D_plain_line
  have D_line_of : Fg P w g base "line_of" st_line_of 3 ["fractions"] s_line_of := fg_line_of B D_least_multiple D_plain_line
  have D_scaled : Fg P w g base "scaled" st_scaled 2 ["lines"] s_scaled := fg_scaled B D_least_multiple
  have D_gone_on : Fg P w g base "gone_on" st_gone_on 1 ["row", "steps"] s_gone_on := fg_gone_on B
  have D_Scales_told : Fm P w g base (He.ma g.K (He.ga g.K "Scales") "told") "told" "Scales.told" st_Scales_told 1 ["self", "line", "sign"] s_Scales_told := fg_Scales_told B
  have D_told_on : Fg P w g base "told_on" st_told_on 2 ["scales", "line", "whole", "sign"] s_told_on := fg_told_on B D_Scales_told
  have D_ahead_lines : Fg P w g base "ahead_lines" st_ahead_lines 3 ["scales", "view"] s_ahead_lines := fg_ahead_lines B D_told_on D_gone_on
  have D_shares_in : Fg P w g base "shares_in" st_shares_in 2 ["pairs"] s_shares_in := fg_shares_in B D_lowest
  have D_onward_line : Fg P w g base "onward_line" st_onward_line 4 ["scales", "view"] s_onward_line := fg_onward_line B D_ahead_lines D_gone_on
  have D_Scales___init__ : Fi P w g base "Scales" "Scales.__init__" st_Scales___init__ 3 ["self", "chain"] s_Scales___init__ := fg_Scales___init__ B D_scaled
  have D_onward_shares : Fg P w g base "onward_shares" st_onward_shares 5 ["chain", "view"] s_onward_shares := fg_onward_shares B D_shares_in D_onward_line D_Scales___init__
  have D_behind_view : Fg P w g base "behind_view" st_behind_view 6 ["chain", "view"] s_behind_view := fg_behind_view B D_onward_shares D_plain D_line_of
  have D_law_draw : Fg P w g base "_law_draw" st_law_draw 1 ["deck", "many"] s_law_draw := fg_law_draw B
  have D_law_pick : Fg P w g base "_law_pick" st_law_pick 2 ["deck", "items"] s_law_pick := fg_law_pick B D_law_draw
  have D_law_common : Fg P w g base "_law_common" st_law_common 1 ["a", "b"] s_law_common := fg_law_common B
  have D_law_least : Fg P w g base "_law_least" st_law_least 2 ["line"] s_law_least := fg_law_least B D_law_common
  have D_law_multiple : Fg P w g base "_law_multiple" st_law_multiple 2 ["items"] s_law_multiple := fg_law_multiple B D_law_common
  have D_law_plain : Fg P w g base "_law_plain" st_law_plain 3 ["chain"] s_law_plain := fg_law_plain B D_law_least
  have D_law_weights : Fg P w g base "_law_weights" st_law_weights 3 ["deck", "many"] s_law_weights := fg_law_weights B D_law_pick D_law_draw
  have D_law_chain : Fg P w g base "_law_chain" st_law_chain 4 ["deck", "signs", "many"] s_law_chain := fg_law_chain B D_law_weights
  have D_law_factors : Fg P w g base "_law_factors" st_law_factors 2 ["deck", "lines"] s_law_factors := fg_law_factors B D_law_draw
  have D_law_times : Fg P w g base "_law_times" st_law_times 3 ["deck", "chain"] s_law_times := fg_law_times B D_law_factors
  have D_law_sums : Fg P w g base "_law_sums" st_law_sums 3 ["some"] s_law_sums := fg_law_sums B D_law_multiple
  have D_law_scaled : Fg P w g base "_law_scaled" st_law_scaled 1 ["line", "whole"] s_law_scaled := fg_law_scaled B
  have D_law_model : Fg P w g base "_law_model" st_law_model 2 ["chain", "sums"] s_law_model := fg_law_model B D_law_scaled
  have D_law_go : Fg P w g base "_law_go" st_law_go 1 ["model", "line", "sign"] s_law_go := fg_law_go B
  have D_law_thin : Fg P w g base "_law_thin" st_law_thin 2 ["line"] s_law_thin := fg_law_thin B D_law_common
  have D_law_due : Fg P w g base "_law_due" st_law_due 4 ["chain", "view"] s_law_due := fg_law_due B D_law_model D_law_plain D_law_sums D_law_thin D_law_go
  have D_law_heard : Fg P w g base "_law_heard" st_law_heard 7 ["chain", "view", "is_named"] s_law_heard := fg_law_heard B D_behind_view
  obtain ⟨fd, F⟩ := B.f_law
  obtain ⟨fdD, FD⟩ := B.f_law_deck
  have bD : Binds g.K fdD ["script"] [] := FD.binds fun _ _ _ _ _ _ us hl => match us, hl with | [_], _ => rfl
  have bL : ∀ (s : Shared) (u : Value), BindsTo s fd ⟨[u], []⟩ [(("script" : Str), u)] := fun s u => by
    obtain ⟨oc, od, kV, doc, pm, an, cdv, ct, osl, efd, lk, hcd⟩ := F.ex
    subst efd
    exact BindsTo.of_eq rfl
  exact law_dl (wr := w_law) (k := 7) F sc_law rfl (by decide) ⟨rfl, by decide, by decide⟩ bL
    (fun cdv A outer s H E c => ps_set (i := 1) sc_law.nd rfl (by first | exact Or.inl rfl | exact Or.inr rfl) (pe_call (fn_law_deck B FD) (c.r.mono (by decide)) rfl B.g_law_deck FD.kp bD .nil passL (pa_cons (pv 0) pa_nil)))
    (fun cdv A outer s H E c =>
    (evb_cons (evs_for c.p (evi_range1 B.range_ (eva_cons ev_int eva_nil)) (evg_name 2 sc_law.nd) (evb_cons (evs_setD (i := 3) sc_law.nd (ev_call D_law_pick c.c c.t (c.r.mono (by decide)) (eva_cons (ev_var 1) (eva_cons (ev_lst (eva_cons ev_str (eva_cons ev_str (eva_cons ev_str (eva_cons ev_str eva_nil))))) eva_nil)) (fun _ _ _ _ _ _ us h => match us, h with | [_,_], _ => rfl)))
    (evb_cons (evs_setD (i := 4) sc_law.nd (ev_call D_law_times c.c c.t (c.r.mono (by decide)) (eva_cons (ev_var 1) (eva_cons (ev_call D_law_chain c.c c.t (c.r.mono (by decide)) (eva_cons (ev_var 1) (eva_cons (ev_var 3) (eva_cons (ev_add c.c.K ev_int (ev_call D_law_draw c.c c.t (c.r.mono (by decide)) (eva_cons (ev_var 1) (eva_cons ev_int eva_nil)) (fun _ _ _ _ _ _ us h => match us, h with | [_,_], _ => rfl))) eva_nil))) (fun _ _ _ _ _ _ us h => match us, h with | [_,_,_], _ => rfl)) eva_nil)) (fun _ _ _ _ _ _ us h => match us, h with | [_,_], _ => rfl)))
    (evb_cons (evs_setD (i := 5) sc_law.nd (ev_if (evt_w (evw_and (evt_cm (cm_eq c.c) (ev_var 2) ev_int) (evw_and1 (evt_cm (cm_eq c.c) (ev_call D_law_draw c.c c.t (c.r.mono (by decide)) (eva_cons (ev_var 1) (eva_cons ev_int eva_nil)) (fun _ _ _ _ _ _ us h => match us, h with | [_,_], _ => rfl)) ev_int)))) ev_int (ev_call D_law_draw c.c c.t (c.r.mono (by decide)) (eva_cons (ev_var 1) (eva_cons ev_int eva_nil)) (fun _ _ _ _ _ _ us h => match us, h with | [_,_], _ => rfl))))
    (evb_cons (evs_setD (i := 6) sc_law.nd (ev_mstr PySem.F.slot_str_join PySem.F.type_str_join mt_join snd_join ev_str (eva_cons (ev_lc (own := [(("place" : Str), 7)]) sc_law.nd (evi_range1 B.range_ (eva_cons (ev_var 5) eva_nil)) (blkOk_by (N := ["script", "deck", "turn", "signs", "chain", "many", "view", "place", "known", "due", "is_named", "spot", "ahead"]) (sc := defScope st_law) (by decide +kernel)) (fun s H C cl fp => (evg_name 7 sc_law.nd)) (fun s H C cl fp => evts_nil) (fun s H C cl fp => (ev_call D_law_pick (Bx.blk c.bx).c (Bx.blk c.bx).t ((Bx.blk c.bx).r.mono (by decide)) (eva_cons (ev_var 1) (eva_cons (ev_add (Bx.blk c.bx).c.K (ev_list2 (Bx.blk c.bx).c B.list_ (eva_cons (ev_var 3) eva_nil)) (ev_lst (eva_cons ev_str eva_nil))) eva_nil)) (fun _ _ _ _ _ _ us h => match us, h with | [_,_], _ => rfl)))) eva_nil)))
    (evb_cons (evs_par (i := 8) (j := 9) sc_law.nd (eva_cons (ev_repr c.c B.repr_ (eva_cons (ev_tup (eva_cons (ev_var 4) (eva_cons (ev_var 6) eva_nil))) eva_nil)) (eva_cons (ev_repr c.c B.repr_ (eva_cons (ev_call D_law_due c.c c.t (c.r.mono (by decide)) (eva_cons (ev_var 4) (eva_cons (ev_var 6) eva_nil)) (fun _ _ _ _ _ _ us h => match us, h with | [_,_], _ => rfl)) eva_nil)) eva_nil)))
    (evb_cons (evs_for c.p (evi_seq c.c.K (ev_tup (eva_cons ev_bool (eva_cons ev_bool eva_nil)))) (evg_name 10 sc_law.nd) (evb_one (evs_if (evt_w (evw_or (evt_cm (cm_ne c.c) (ev_repr c.c B.repr_ (eva_cons (ev_call D_law_heard c.c c.t (c.r.mono (by decide)) (eva_cons (ev_var 4) (eva_cons (ev_var 6) (eva_cons (ev_var 10) eva_nil))) (fun _ _ _ _ _ _ us h => match us, h with | [_,_,_], _ => rfl)) eva_nil)) (ev_var 9)) (evw_or1 (evt_cm (cm_ne c.c) (ev_repr c.c B.repr_ (eva_cons (ev_tup (eva_cons (ev_var 4) (eva_cons (ev_var 6) eva_nil))) eva_nil)) (ev_var 8))))) (evb_one (evs_ret ev_bool)) evb_nil)))
    (evb_cons (evs_if (evt_cm (cm_ne c.c) (ev_repr c.c B.repr_ (eva_cons (ev_call D_law_heard c.c c.t (c.r.mono (by decide)) (eva_cons (ev_call D_law_times c.c c.t (c.r.mono (by decide)) (eva_cons (ev_var 1) (eva_cons (ev_var 4) eva_nil)) (fun _ _ _ _ _ _ us h => match us, h with | [_,_], _ => rfl)) (eva_cons (ev_var 6) (eva_cons ev_bool eva_nil))) (fun _ _ _ _ _ _ us h => match us, h with | [_,_,_], _ => rfl)) eva_nil)) (ev_var 9)) (evb_one (evs_ret ev_bool)) evb_nil)
    (evb_cons (evs_setD (i := 11) sc_law.nd (ev_call D_law_draw c.c c.t (c.r.mono (by decide)) (eva_cons (ev_var 1) (eva_cons (ev_add c.c.K (ev_var 5) ev_int) eva_nil)) (fun _ _ _ _ _ _ us h => match us, h with | [_,_], _ => rfl)))
    (evb_cons (evs_setD (i := 12) sc_law.nd (ev_call D_law_heard c.c c.t (c.r.mono (by decide)) (eva_cons (ev_var 4) (eva_cons (ev_slice c.c (ev_var 6) evo_none (evo_some (ev_var 11))) (eva_cons ev_bool eva_nil))) (fun _ _ _ _ _ _ us h => match us, h with | [_,_,_], _ => rfl)))
    (evb_cons (evs_if (evt_cm (cm_ne c.c) (ev_repr c.c B.repr_ (eva_cons (ev_var 12) eva_nil)) (ev_repr c.c B.repr_ (eva_cons (ev_call D_law_due c.c c.t (c.r.mono (by decide)) (eva_cons (ev_var 4) (eva_cons (ev_slice c.c (ev_var 6) evo_none (evo_some (ev_var 11))) eva_nil)) (fun _ _ _ _ _ _ us h => match us, h with | [_,_], _ => rfl)) eva_nil))) (evb_one (evs_ret ev_bool)) evb_nil)
    (evb_one (evs_if (evt_cm (cm_ne c.c) (ev_repr c.c B.repr_ (eva_cons (ev_if (evt_cm cm_is (ev_var 12) ev_none) ev_none (ev_call D_law_heard c.c c.t (c.r.mono (by decide)) (eva_cons (ev_var 12) (eva_cons (ev_slice c.c (ev_var 6) (evo_some (ev_var 11)) evo_none) (eva_cons ev_bool eva_nil))) (fun _ _ _ _ _ _ us h => match us, h with | [_,_,_], _ => rfl))) eva_nil)) (ev_var 9)) (evb_one (evs_ret ev_bool)) evb_nil)))))))))))))
    (evb_one (evs_ret ev_bool)))) pure_law (B.sysB _ hb) hns

end Dl
namespace Dl
open PySem PySem.Spec PyProof.Rows L2
def fa : List He.Fa := [.glo "_wall", .glo "greatest_divisor", .glo "least_multiple", .glo "lowest", .glo "plain_line", .glo "plain", .glo "line_of", .glo "scaled", .glo "gone_on", .glo "told_on", .glo "ahead_lines", .glo "shares_in", .glo "onward_line", .glo "onward_shares", .glo "behind_view", .glo "_law_deck", .glo "_law_draw", .glo "_law_pick", .glo "_law_common", .glo "_law_least", .glo "_law_multiple", .glo "_law_plain", .glo "_law_weights", .glo "_law_chain", .glo "_law_factors", .glo "_law_times", .glo "_law_sums", .glo "_law_scaled", .glo "_law_model", .glo "_law_go", .glo "_law_thin", .glo "_law_due", .glo "_law_heard", .glo "law", .glo "ChainError", .glo "Unfit", .glo "Never", .glo "Scales", .free "abs", .free "enumerate", .free "int", .free "isinstance", .free "len", .free "list", .free "range", .free "repr", .free "sum", .free "tuple", .free "zip", .cls "Scales", .noat "Scales" "beat", .noat "Scales" "signs", .noat "Scales" "start", .noat "Scales" "begun", .noat "Scales" "steps", .noat "Scales" "step_whole", .noat "Scales" "tells", .noat "Scales" "tell_whole", .meth "Scales" "told", .mkr "Scales", .glo "NOUGHT", .str "GAP" "."]
def fn : List He.DefD := [mkD "_wall" st_wall, mkD "greatest_divisor" st_greatest_divisor, mkD "least_multiple" st_least_multiple, mkD "lowest" st_lowest, mkD "plain_line" st_plain_line, mkD "plain" st_plain, mkD "line_of" st_line_of, mkD "scaled" st_scaled, mkD "gone_on" st_gone_on, mkD "told_on" st_told_on, mkD "ahead_lines" st_ahead_lines, mkD "shares_in" st_shares_in, mkD "onward_line" st_onward_line, mkD "onward_shares" st_onward_shares, mkD "behind_view" st_behind_view, mkD "_law_deck" st_law_deck, mkD "_law_draw" st_law_draw, mkD "_law_pick" st_law_pick, mkD "_law_common" st_law_common, mkD "_law_least" st_law_least, mkD "_law_multiple" st_law_multiple, mkD "_law_plain" st_law_plain, mkD "_law_weights" st_law_weights, mkD "_law_chain" st_law_chain, mkD "_law_factors" st_law_factors, mkD "_law_times" st_law_times, mkD "_law_sums" st_law_sums, mkD "_law_scaled" st_law_scaled, mkD "_law_model" st_law_model, mkD "_law_go" st_law_go, mkD "_law_thin" st_law_thin, mkD "_law_due" st_law_due, mkD "_law_heard" st_law_heard, mkD "law" st_law, mkM "Scales" "told" "Scales.told" st_Scales_told, mkM "Scales" "__init__" "Scales.__init__" st_Scales___init__]
def ex (K : PySem.W.Frag) : Bool := He.tupB K "NOUGHT" [.int 0, .int 1] && (supB K "Unfit" && (supB K "Never" && (supFB K PySem.Challenge.pw_veiledchains_k42_whole_chains_behind_vie.main.file "Unfit" && (supFB K PySem.Challenge.pw_veiledchains_k42_whole_chains_behind_vie.main.file "Never" && (bltB K "gcd" "math.gcd" && (bltB K "lcm" "math.lcm" && (sysKB K && (excCB K (He.ga K "Never") && (kitB K "Never" "ChainError" true && (exmB K "Never" "Never" true))))))))))
def cs : List SupD := [⟨"Unfit", initA 4, initB 4, initS 4⟩, ⟨"Never", initA 5, initB 5, initS 5⟩]
abbrev Rw : PySem.W.OpenRow := PySem.W.OpenLaw.row PySem.Challenge.rw_veiledchains_k42_whole_chains_behind_vie
abbrev hk : PySem.W.Hook := hookS 4 fa fn ex cs
def ob (s : PySem.W.SharedT) : AlS := obsSG 4 fa fn ex cs (HandSHeadRun.getT s)
theorem ob_eq (s : PySem.W.SharedT) : ob s = hk.obs s.abs := obsSG_eq (HandSHeadRun.getT_eq s)
def loose : List PySem.Str := (["gcd", "lcm", "__name__", "NOUGHT", "GAP", "ChainError", "Unfit", "Never", "Scales", "_wall", "greatest_divisor", "least_multiple", "lowest", "plain_line", "plain", "line_of", "scaled", "gone_on", "told_on", "ahead_lines", "shares_in", "onward_line", "onward_shares", "behind_view", "_law_deck", "_law_draw", "_law_pick", "_law_common", "_law_least", "_law_multiple"] : List PySem.Str) ++ (["_law_plain", "_law_weights", "_law_chain", "_law_times", "_law_factors", "_law_sums", "_law_scaled", "_law_model", "_law_go", "_law_thin", "_law_due", "_law_heard"] : List PySem.Str)
theorem head_run (w : World) : HandSHeadRun.RunEqI Rw (PySem.W.view Rw.prog [48]) hk ob 6000 loose w := by
  unfold HandSHeadRun.RunEqI
  kernel_rfl
theorem facts {w : World} {K : PySem.W.Frag} {h : Heap} {mg : Str → Option Value} (X : K.In h) (G : h.Ns mainGlobals mg) (c : SaysS fa fn ex cs K) : Bt PySem.Challenge.pw_veiledchains_k42_whole_chains_behind_vie ⟨K, mg, dkiC⟩ := by
  have cm := c.more
  obtain ⟨e0, r0⟩ := He.ba cm
  obtain ⟨e1, r1⟩ := He.ba r0
  obtain ⟨e2, r2⟩ := He.ba r1
  obtain ⟨e3, r3⟩ := He.ba r2
  obtain ⟨e4, r4⟩ := He.ba r3
  obtain ⟨e5, r5⟩ := He.ba r4
  obtain ⟨e6, r6⟩ := He.ba r5
  obtain ⟨e7, r7⟩ := He.ba r6
  obtain ⟨e8, r8⟩ := He.ba r7
  obtain ⟨e9, e10⟩ := He.ba r8
  exact ⟨rfl,
    (fun _ hb => sysK_ok e7 hb),
    He.free_ok X G (c.d.fact 38 rfl),
    He.free_ok X G (c.d.fact 39 rfl),
    He.free_ok X G (c.d.fact 40 rfl),
    He.free_ok X G (c.d.fact 41 rfl),
    He.free_ok X G (c.d.fact 42 rfl),
    He.free_ok X G (c.d.fact 43 rfl),
    He.free_ok X G (c.d.fact 44 rfl),
    He.free_ok X G (c.d.fact 45 rfl),
    He.free_ok X G (c.d.fact 46 rfl),
    He.free_ok X G (c.d.fact 47 rfl),
    He.free_ok X G (c.d.fact 48 rfl),
    blt_ok X G e5,
    blt_ok X G e6,
    ⟨He.glo_ok X G (c.d.fact 60 rfl), conT_ok e0⟩,
    He.str_ok X G (c.d.fact 61 rfl),
    He.glo_ok X G (c.d.fact 0 rfl),
    c.fun_ 0 rfl,
    He.glo_ok X G (c.d.fact 1 rfl),
    c.fun_ 1 rfl,
    He.glo_ok X G (c.d.fact 2 rfl),
    c.fun_ 2 rfl,
    He.glo_ok X G (c.d.fact 3 rfl),
    c.fun_ 3 rfl,
    He.glo_ok X G (c.d.fact 4 rfl),
    c.fun_ 4 rfl,
    He.glo_ok X G (c.d.fact 5 rfl),
    c.fun_ 5 rfl,
    He.glo_ok X G (c.d.fact 6 rfl),
    c.fun_ 6 rfl,
    He.glo_ok X G (c.d.fact 7 rfl),
    c.fun_ 7 rfl,
    He.glo_ok X G (c.d.fact 8 rfl),
    c.fun_ 8 rfl,
    He.glo_ok X G (c.d.fact 9 rfl),
    c.fun_ 9 rfl,
    He.glo_ok X G (c.d.fact 10 rfl),
    c.fun_ 10 rfl,
    He.glo_ok X G (c.d.fact 11 rfl),
    c.fun_ 11 rfl,
    He.glo_ok X G (c.d.fact 12 rfl),
    c.fun_ 12 rfl,
    He.glo_ok X G (c.d.fact 13 rfl),
    c.fun_ 13 rfl,
    He.glo_ok X G (c.d.fact 14 rfl),
    c.fun_ 14 rfl,
    He.glo_ok X G (c.d.fact 15 rfl),
    c.fun_ 15 rfl,
    He.glo_ok X G (c.d.fact 16 rfl),
    c.fun_ 16 rfl,
    He.glo_ok X G (c.d.fact 17 rfl),
    c.fun_ 17 rfl,
    He.glo_ok X G (c.d.fact 18 rfl),
    c.fun_ 18 rfl,
    He.glo_ok X G (c.d.fact 19 rfl),
    c.fun_ 19 rfl,
    He.glo_ok X G (c.d.fact 20 rfl),
    c.fun_ 20 rfl,
    He.glo_ok X G (c.d.fact 21 rfl),
    c.fun_ 21 rfl,
    He.glo_ok X G (c.d.fact 22 rfl),
    c.fun_ 22 rfl,
    He.glo_ok X G (c.d.fact 23 rfl),
    c.fun_ 23 rfl,
    He.glo_ok X G (c.d.fact 24 rfl),
    c.fun_ 24 rfl,
    He.glo_ok X G (c.d.fact 25 rfl),
    c.fun_ 25 rfl,
    He.glo_ok X G (c.d.fact 26 rfl),
    c.fun_ 26 rfl,
    He.glo_ok X G (c.d.fact 27 rfl),
    c.fun_ 27 rfl,
    He.glo_ok X G (c.d.fact 28 rfl),
    c.fun_ 28 rfl,
    He.glo_ok X G (c.d.fact 29 rfl),
    c.fun_ 29 rfl,
    He.glo_ok X G (c.d.fact 30 rfl),
    c.fun_ 30 rfl,
    He.glo_ok X G (c.d.fact 31 rfl),
    c.fun_ 31 rfl,
    He.glo_ok X G (c.d.fact 32 rfl),
    c.fun_ 32 rfl,
    He.glo_ok X G (c.d.fact 33 rfl),
    c.fun_ 33 rfl,
    He.glo_ok X G (c.d.fact 34 rfl),
    He.glo_ok X G (c.d.fact 35 rfl),
    He.glo_ok X G (c.d.fact 36 rfl),
    He.glo_ok X G (c.d.fact 37 rfl),
    He.cls_ok (c.d.fact 49 rfl),
    He.noat_ok (c.d.fact 50 rfl),
    He.noat_ok (c.d.fact 51 rfl),
    He.noat_ok (c.d.fact 52 rfl),
    He.noat_ok (c.d.fact 53 rfl),
    He.noat_ok (c.d.fact 54 rfl),
    He.noat_ok (c.d.fact 55 rfl),
    He.noat_ok (c.d.fact 56 rfl),
    He.noat_ok (c.d.fact 57 rfl),
    He.meth_ok (c.d.fact 58 rfl),
    c.meth_ 34 rfl,
    He.mkr_ok (c.d.fact 59 rfl),
    c.meth_ 35 rfl,
    sup_ok X G e1,
    supF_ok (c.sup 0 rfl) e3 rfl,
    sup_ok X G e2,
    supF_ok (c.sup 1 rfl) e4 rfl,
    (fun m b ax h1 h2 => by
    unfold Dl.em_Never at h1
    by_cases hm : m = "Never"
    · rw [if_pos hm] at h1
      subst hm
      have h3 := h2.symm.trans (He.glo_ok X G (c.d.fact 36 rfl))
      cases h1
      cases h3
      exact of_decide_eq_true e10
    · rw [if_neg hm] at h1; cases h1),
    excC_ok e8,
    of_decide_eq_true e9⟩
end Dl
open PySem PySem.W PySem.Calls PyProof.Rows
theorem PySem.Challenge.cw_veiledchains_k42_whole_chains_behind_vie_holds : PySem.Challenge.rw_veiledchains_k42_whole_chains_behind_vie.Holds := by
  w_on; o_law
  refine HandSHeadRun.head_imp (r := OpenLaw.row PySem.Challenge.rw_veiledchains_k42_whole_chains_behind_vie) (q := view (OpenLaw.row PySem.Challenge.rw_veiledchains_k42_whole_chains_behind_vie).prog [48]) (H := Dl.hk) (ob := Dl.ob) (M := 6000) (loose := Dl.loose) (d := HandSHeadRun.topDef (OpenLaw.row PySem.Challenge.rw_veiledchains_k42_whole_chains_behind_vie).prog 48) (kwd := []) Dl.ob_eq
     Dl.head_run (by kernel_rfl) (by kernel_rfl) (by kernel_rfl) (by rfl) (by first | assumption | decide +kernel) (by decide +kernel) ⟨rfl, rfl, rfl, rfl, rfl, by decide +kernel⟩ ?hw ?hc
  case hw => w_witness2
  case hc =>
    refine Dl.walk_law (l := PySem.Challenge.rw_veiledchains_k42_whole_chains_behind_vie) (n := 63) rfl (by decide) (by kernel_rfl) ?F
    intro w mg fa h Y G hmg0
    obtain ⟨K, KX, c⟩ := Y
    have hmg : mg ("law" : PySem.Str) = some (.ref fa) := by
      have e : (HandSHeadRun.topDef (OpenLaw.row PySem.Challenge.rw_veiledchains_k42_whole_chains_behind_vie).prog 48).name = ("law" : PySem.Str) := by kernel_rfl
      rw [← e]
      exact hmg0
    have B := Dl.facts (w := w) KX G c
    have e2 : some (Value.ref fa) = some (Value.ref (He.ga K "law")) := hmg.symm.trans B.g_law
    cases e2
    exact ⟨K, KX, fun a ns hl base hb _ => Dl.law_run (g := ⟨K, mg, Dl.dkiC⟩) B hb hl⟩


