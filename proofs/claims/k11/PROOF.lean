import PyProof.Rows.All
import Wide.All
import OpenK.AllK
import Wide.FinOn
import HandS.ForMost
import HandS.Exc
import HandS.ExcOwn
import HandS.TryOnly
import HandS.WordsExc
import HandS.Codes
import HandS.Lambda
import HandS.TupMul
import HandS.TupAny
import HandS.Style
import HandS.ReplaceList
import HandS.Replace
import HandS.Iter
import HandS.Comp
import KE.KStateDown
import HandS.Ends
import HandS.More
import HandS.Defaults
import HandS.Head0
import HandS.Head1
import HandS.Head2
import HandS.HeadEnd
import HandS.HeadHook1
import HandS.HeadHook2
import HandS.TryMany
import PyProof.SeqIndex
import HandS.Dict
import PySem.Challenge.RW_onestamp_k11_texts_of_facts
set_option Elab.async false
set_option linter.all false
set_option maxRecDepth 100000
set_option maxHeartbeats 4000000
/-! The D layer: values as data, texts with good tokens, over the hand layer's Inv. -/
namespace DL
open PySem PySem.Spec PyProof.Rows L2
abbrev S (l : List Nat) : Str := ⟨l.toArray⟩

/-! ### data, store, results -/
inductive D where
  | non | bl (b : Bool) | int (i : Int) | str (l : List Nat) | cst (l : List Nat) | ust (l : List Nat)
  | tup (l : List D) | lst (l : List D) | new (l : List D) | own (i : Nat) (l : List D)
  | scr (ns : List Int) | ref (n : Nat) | fn (x : Str) | adr (a : Addr) | dic (l : List (List Nat × Int))
inductive Cell where
  | lst (l : List D)
  | tbl (q : Str)
abbrev Store := List Cell
abbrev Env_ := List (Option D)
structure Ex where
  cls : Str
  fld : Option (Str × Int)
inductive R (α : Type) where
  | ok (a : α) (s : Store) | exn (e : Ex) (s : Store) | bad
abbrev EM := Env_ → Store → R D
def R.bind {α β : Type} : R α → (α → Store → R β) → R β
  | .ok a s, f => f a s
  | .exn e s, _ => .exn e s
  | .bad, _ => .bad
@[simp] theorem bind_ok {α β : Type} (a : α) (s : Store) (f : α → Store → R β) : (R.ok a s).bind f = f a s := rfl
@[simp] theorem bind_exn {α β : Type} (e : Ex) (s : Store) (f : α → Store → R β) : (R.exn e s : R α).bind f = .exn e s := rfl
@[simp] theorem bind_bad {α β : Type} (f : α → Store → R β) : (R.bad : R α).bind f = .bad := rfl
/-- a value that may fail to be -/
def R.of {α : Type} (o : Option α) (s : Store) : R α := match o with
  | some a => .ok a s
  | none => .bad
@[simp] theorem of_some {α : Type} (a : α) (s : Store) : R.of (some a) s = .ok a s := rfl
@[simp] theorem of_none {α : Type} (s : Store) : R.of (none : Option α) s = .bad := rfl

/-! ### what stands in the heap -/
structure Gh where
  H : Hp
  as : List Addr
  ow : List Addr
  oa : Nat → Option Addr
/-- a frame's facts: the texts' least token, the ghost at its entry, a def's own frame -/
structure Tx where
  lo : Nat
  mg : Str → Option Value
  tb : List Addr
  w : World
instance : Coe Tx Nat := ⟨Tx.lo⟩
structure Fx where
  T : Tx
  g : Gh
  fn : Bool
  n0 : Nat
def fz (o : Obj) : HO := .frz o (.ext fun _ => True)
def mu (a : Addr) (o : Obj) : HO := .ext fun h => h.get? a = some o
structure TupO (o : Obj) (us : List Value) : Prop where
  c : o.cls = .type "tuple"
  d : ∃ n, o.data = .seq us.toArray n
  z : us.length ≤ sizeLine
structure LstO (o : Obj) (us : List Value) : Prop where
  d : ∃ n, o = { cls := .type "list", data := .seq us.toArray n }
  z : us.length ≤ sizeLine
/-- neither a new list nor a name's own -/
def plain : D → Bool
  | .new _ => false
  | .own _ _ => false
  | _ => true
/-- a new value that a name holds is never new -/
def notNew : D → Bool
  | .new _ => false
  | _ => true
/-- a dict of texts to numbers -/
structure DicO (w : World) (o : Obj) (l : List (List Nat × Int)) : Prop where
  nd : (l.map (·.1)).Nodup
  ex : ∃ tk : List Nat → Tok, ∀ (P : Program) (h : Heap) (a : Addr), h.get? a = some o → h.DictOf (mixKind P w) a (l.map fun p => ((.inr (S p.1) : Key), Value.int p.2 (tk p.1)))
mutual
def Rep (T : Tx) (G : Gh) (n : Nat) : D → Value → Prop
  | .non, u => u = .none
  | .bl b, u => u = .bool b
  | .int i, u => ∃ t, u = .int i t
  | .str l, u => ∃ t, u = .str (S l) t ∧ T ≤ t ∧ t < n ∧ l.length ≤ sizeLine
  | .cst l, u => ∃ t, u = .str (S l) t ∧ 0 < t ∧ t < T ∧ l.length ≤ sizeLine
  | .ust l, u => ∃ t, u = .str (S l) t ∧ l.length ≤ sizeLine
  | .tup ds, u => ∃ a o us, u = .ref a ∧ G.H a = some (fz o) ∧ TupO o us ∧ Reps T G n ds us
  | .lst ds, u => ∃ a o us, u = .ref a ∧ G.H a = some (fz o) ∧ LstO o us ∧ Reps T G n ds us
  | .new ds, u => ∃ a o us, u = .ref a ∧ G.H a = some (mu a o) ∧ a ∉ G.as ∧ a ∉ G.ow ∧ LstO o us ∧ Reps T G n ds us
  | .own i ds, u => ∃ a o us, u = .ref a ∧ G.H a = some (mu a o) ∧ a ∉ G.as ∧ a ∈ G.ow ∧ G.oa i = some a ∧ LstO o us ∧ Reps T G n ds us
  | .scr ns, u => ∃ a o us, u = .ref a ∧ G.H a = some (fz o) ∧ LstO o us ∧ IntsAre us ns
  | .ref k, u => ∃ a, u = .ref a ∧ G.as[k]? = some a
  | .fn x, u => ∃ a, u = .ref a ∧ T.mg x = some (.ref a)
  | .adr a, u => u = .ref a
  | .dic l, u => ∃ a o, u = .ref a ∧ (a == sysModules) = false ∧ G.H a = some (fz o) ∧ DicO T.w o l
def Reps (T : Tx) (G : Gh) (n : Nat) : List D → List Value → Prop
  | [], us => us = []
  | d :: ds, us => ∃ u r, us = u :: r ∧ plain d = true ∧ Rep T G n d u ∧ Reps T G n ds r
end
structure Ext (G G' : Gh) : Prop where
  fr : ∀ b o, G.H b = some (fz o) → G'.H b = some (fz o)
  keep : ∀ b u, G.H b = some u → b ∉ G.as → G'.H b = some u
  pre : ∀ (k : Nat) a, G.as[k]? = some a → G'.as[k]? = some a
  new : ∀ b, b ∈ G'.as → b ∈ G.as ∨ G.H b = none
  dom : ∀ b, G'.H b = none → G.H b = none
  ow : G'.ow = G.ow
  oa : G'.oa = G.oa
theorem Ext.refl (G : Gh) : Ext G G := ⟨fun _ _ h => h, fun _ _ h _ => h, fun _ _ h => h, fun _ h => .inl h, fun _ h => h, rfl, rfl⟩
/-- the same without the frames' own lists -/
structure FExt (G G' : Gh) : Prop where
  fr : ∀ b o, G.H b = some (fz o) → G'.H b = some (fz o)
  keep : ∀ b u, G.H b = some u → b ∉ G.as → G'.H b = some u
  pre : ∀ (k : Nat) a, G.as[k]? = some a → G'.as[k]? = some a
  new : ∀ b, b ∈ G'.as → b ∈ G.as ∨ G.H b = none
  dom : ∀ b, G'.H b = none → G.H b = none
  ow : ∀ b, b ∈ G.ow → b ∈ G'.ow
theorem Ext.fx {G G' : Gh} (e : Ext G G') : FExt G G' := ⟨e.fr, e.keep, e.pre, e.new, e.dom, fun b h => by rw [e.ow]; exact h⟩
theorem FExt.notin {G G' : Gh} (e : FExt G G') {a : Addr} {u : HO} (h : G.H a = some u) (n : a ∉ G.as) : a ∉ G'.as := fun m => by
  rcases e.new a m with q | q
  · exact n q
  · rw [h] at q; cases q
theorem FExt.trans {G G1 G2 : Gh} (a : FExt G G1) (b : FExt G1 G2) : FExt G G2 :=
  ⟨fun c o h => b.fr c o (a.fr c o h), fun c u h n => b.keep c u (a.keep c u h n) (a.notin h n), fun k c h => b.pre k c (a.pre k c h), fun c h => by
    rcases b.new c h with q | q
    · exact a.new c q
    · exact .inr (a.dom c q), fun c h => a.dom c (b.dom c h), fun c h => b.ow c (a.ow c h)⟩
theorem Ext.notin {G G' : Gh} (e : Ext G G') {a : Addr} {u : HO} (h : G.H a = some u) (n : a ∉ G.as) : a ∉ G'.as := fun m => by
  rcases e.new a m with q | q
  · exact n q
  · rw [h] at q; cases q
theorem Ext.trans {G G1 G2 : Gh} (a : Ext G G1) (b : Ext G1 G2) : Ext G G2 :=
  ⟨fun c o h => b.fr c o (a.fr c o h), fun c u h n => b.keep c u (a.keep c u h n) (a.notin h n), fun k c h => b.pre k c (a.pre k c h), fun c h => by
    rcases b.new c h with q | q
    · exact a.new c q
    · exact .inr (a.dom c q), fun c h => a.dom c (b.dom c h), b.ow.trans a.ow, b.oa.trans a.oa⟩
mutual
theorem Rep.mono {T : Tx} {G G' : Gh} {n n' : Nat} (e : Ext G G') (h : n ≤ n') : ∀ {d : D} {u : Value}, Rep T G n d u → Rep T G' n' d u
  | .non, _, r => r
  | .bl _, _, r => r
  | .int _, _, r => r
  | .str _, _, ⟨t, a, b, c, d⟩ => ⟨t, a, b, Nat.lt_of_lt_of_le c h, d⟩
  | .cst _, _, r => r
  | .ust _, _, r => r
  | .tup _, _, ⟨a, o, us, h1, h2, h3, h4⟩ => ⟨a, o, us, h1, e.fr _ _ h2, h3, Reps.mono e h h4⟩
  | .lst _, _, ⟨a, o, us, h1, h2, h3, h4⟩ => ⟨a, o, us, h1, e.fr _ _ h2, h3, Reps.mono e h h4⟩
  | .new _, _, ⟨a, o, us, h1, h2, h3, h6, h4, h5⟩ => ⟨a, o, us, h1, e.keep _ _ h2 h3, e.notin h2 h3, by rw [e.ow]; exact h6, h4, Reps.mono e h h5⟩
  | .own _ _, _, ⟨a, o, us, h1, h2, h3, h6, h7, h4, h5⟩ => ⟨a, o, us, h1, e.keep _ _ h2 h3, e.notin h2 h3, by rw [e.ow]; exact h6, by rw [e.oa]; exact h7, h4, Reps.mono e h h5⟩
  | .scr _, _, ⟨a, o, us, h1, h2, h3, h4⟩ => ⟨a, o, us, h1, e.fr _ _ h2, h3, h4⟩
  | .ref _, _, ⟨a, h1, h2⟩ => ⟨a, h1, e.pre _ _ h2⟩
  | .fn _, _, r => r
  | .adr _, _, r => r
  | .dic _, _, ⟨a, o, h1, h0, h2, h3⟩ => ⟨a, o, h1, h0, e.fr _ _ h2, h3⟩
theorem Reps.mono {T : Tx} {G G' : Gh} {n n' : Nat} (e : Ext G G') (h : n ≤ n') : ∀ {ds : List D} {us : List Value}, Reps T G n ds us → Reps T G' n' ds us
  | [], _, r => r
  | _ :: _, _, ⟨u, r, h1, hp, h2, h3⟩ => ⟨u, r, h1, hp, Rep.mono e h h2, Reps.mono e h h3⟩
end
theorem Reps.length {T : Tx} {G : Gh} {n : Nat} : ∀ {ds : List D} {us : List Value}, Reps T G n ds us → ds.length = us.length
  | [], us, r => by
    have e : us = [] := r
    rw [e]
    rfl
  | _ :: _, _, ⟨_, _, h1, _, _, h3⟩ => by rw [h1]; exact congrArg Nat.succ (Reps.length h3)
/-- what is known of a code object fixes no object -/
theorem codeO_mu {c : Addr} {q : Str} {o : Obj} : LamX.CodeO c q ≠ mu c o := fun e => by
  unfold LamX.CodeO mu at e
  injection e with e
  have key : ∀ v : Value, o = { cls := v, data := .fields #[.none, .str q 0] } := fun v => by
    have g : ({ objs := (Array.replicate c ({ cls := v, data := .fields #[.none, .str q 0] } : Obj)).push { cls := v, data := .fields #[.none, .str q 0] } } : Heap).get? c = some { cls := v, data := .fields #[.none, .str q 0] } := by
      unfold Heap.get?
      have e1 : ((Array.replicate c ({ cls := v, data := .fields #[.none, .str q 0] } : Obj)).push { cls := v, data := .fields #[.none, .str q 0] })[c]? = some { cls := v, data := .fields #[.none, .str q 0] } := by
        rw [Array.getElem?_push]
        simp
      show (match ((Array.replicate c ({ cls := v, data := .fields #[.none, .str q 0] } : Obj)).push { cls := v, data := .fields #[.none, .str q 0] })[c]? with
        | some ⟨_, _, .freed, _⟩ => none
        | o => o) = _
      rw [e1]
    have z := congrFun e { objs := (Array.replicate c ({ cls := v, data := .fields #[.none, .str q 0] } : Obj)).push { cls := v, data := .fields #[.none, .str q 0] } }
    have z2 := z.mp ⟨_, _, _, g, rfl, rfl⟩
    rw [g] at z2
    exact (Option.some.inj z2).symm
  have q1 := key .none
  have q2 := key (.bool true)
  rw [q1] at q2
  cases q2
/-- a table of code objects, each of the name q -/
def TabD (G : Gh) (P : Addr) (q : Str) : Prop := ∃ ps : Array Value, G.H P = some (.tbl ps) ∧ TriplesOk ps.toList ∧ ∀ (pos : Pos) (cv : Value), codeAmong pos ps.toList = some cv → ∃ c, cv = .ref c ∧ G.H c = some (LamX.CodeO c q) ∧ c ∉ G.as
def CellOk (T : Tx) (G : Gh) (n : Nat) (a : Addr) : Cell → Prop
  | .lst ds => ∃ o us, G.H a = some (mu a o) ∧ LstO o us ∧ Reps T G n ds us
  | .tbl q => TabD G a q
structure StoOk (T : Tx) (G : Gh) (n : Nat) (st : Store) : Prop where
  len : G.as.length = st.length
  nd : G.as.Nodup
  cell : ∀ (k : Nat) a c, G.as[k]? = some a → st[k]? = some c → CellOk T G n a c
/-- never a known object -/
theorem StoOk.isMu {T : Tx} {G : Gh} {n : Nat} {st : Store} (h : StoOk T G n st) {a : Addr} (m : a ∈ G.as) : ∃ u, G.H a = some u ∧ ∀ o, u ≠ fz o := by
  obtain ⟨k, hk, e⟩ := List.mem_iff_getElem.mp m
  have hk2 : k < st.length := by rw [← h.len]; exact hk
  have q := h.cell k a (st[k]) (by rw [List.getElem?_eq_getElem hk, e]) (List.getElem?_eq_getElem hk2)
  generalize st[k] = c at q
  cases c with
  | lst ds => obtain ⟨o, _, q, _⟩ := q; exact ⟨_, q, fun o' z => by unfold mu fz at z; cases z⟩
  | tbl q' => obtain ⟨ps, q, _⟩ := q; exact ⟨_, q, fun o' z => by unfold fz at z; cases z⟩
theorem StoOk.notin {T : Tx} {G : Gh} {n : Nat} {st : Store} (h : StoOk T G n st) {a : Addr} {o : Obj} (e : G.H a = some (fz o)) : a ∉ G.as := fun m => by
  obtain ⟨u, q, r⟩ := h.isMu m
  rw [e] at q
  exact r o (Option.some.inj q).symm
/-- the tables stay where nothing of theirs is changed -/
theorem TabD.mono {G G' : Gh} {P : Addr} {q : Str} (h : TabD G P q) (e : Ext G G') (hP : ∀ u, G.H P = some u → G'.H P = some u) : TabD G' P q := by
  obtain ⟨ps, h1, h2, h3⟩ := h
  refine ⟨ps, hP _ h1, h2, fun pos cv hc => ?_⟩
  obtain ⟨c, e1, e2, e3⟩ := h3 pos cv hc
  exact ⟨c, e1, e.keep c _ e2 e3, e.notin e2 e3⟩
/-- .. where an object that a table is not is written, or becomes a cell -/
theorem TabD.put {G : Gh} {P a : Addr} {q : Str} {o : Obj} {H' : Hp} {as' ow' : List Addr} {oa' : Nat → Option Addr} (h : TabD G P q) (ha : G.H a = some (mu a o)) (hH : ∀ b, b ≠ a → H' b = G.H b) (hs : ∀ b, b ∈ as' → b ∈ G.as ∨ b = a) : TabD ⟨H', as', ow', oa'⟩ P q := by
  obtain ⟨ps, h1, h2, h3⟩ := h
  refine ⟨ps, (hH P fun z => ?_).trans h1, h2, fun pos cv hc => ?_⟩
  · rw [z, ha] at h1
    unfold mu at h1
    cases h1
  · obtain ⟨c, e1, e2, e3⟩ := h3 pos cv hc
    have hca : c ≠ a := fun z => by
      rw [z, ha] at e2
      exact codeO_mu (Option.some.inj e2).symm
    exact ⟨c, e1, (hH c hca).trans e2, fun m => (hs c m).elim e3 hca⟩
/-- the cells unchanged, something else new -/
theorem StoOk.mono {T : Tx} {G G' : Gh} {n n' : Nat} {st : Store} (h : StoOk T G n st) (e : Ext G G') (hn : n ≤ n') (ha : G'.as = G.as) (hk : ∀ a u, a ∈ G.as → G.H a = some u → G'.H a = some u) : StoOk T G' n' st := by
  refine ⟨by rw [ha]; exact h.len, by rw [ha]; exact h.nd, fun k a c h1 h2 => ?_⟩
  rw [ha] at h1
  have q := h.cell k a c h1 h2
  cases c with
  | lst ds => obtain ⟨o, us, q1, q2, q3⟩ := q; exact ⟨o, us, hk a _ (List.mem_of_getElem? h1) q1, q2, Reps.mono e hn q3⟩
  | tbl q' => exact TabD.mono q e fun u => hk a u (List.mem_of_getElem? h1)

/-! ### the invariant -/
def blank (N : List Str) : L2.St := List.replicate N.length none
theorem blank_get {N : List Str} {i : Nat} {v : V} (h : (blank N)[i]? = some (some v)) : False := by
  unfold blank at h
  rw [List.getElem?_replicate] at h
  split at h <;> cases h
structure InvD (X : Cx) (T : Fx) (pins : List (Addr × Obj)) (G : Gh) (ρ : Env_) (st : Store) (s : Shared) : Prop where
  inv : Inv X pins (blank X.N) G.H s
  loc : ∃ m, s.heap.Ns X.env.locals m ∧ (∀ (i : Nat) (x : Str) (d : D), X.N[i]? = some x → ρ[i]? = some (some d) → Vis X.env.scope x → ∃ u, Rep T.T G s.toks d u ∧ Look X.env s.heap m x u)
  sto : StoOk T.T G s.toks st
  tok : T.T ≤ s.toks
  pos : 0 < T.T.lo
  len : ρ.length = X.N.length
  owd : ∀ a, a ∈ G.ow → G.H a ≠ none
  ext : FExt T.g G
  nn : ∀ (i : Nat) (d : D), ρ[i]? = some (some d) → notNew d = true
  oaT : ∀ i a, G.oa i = some a → T.g.H a = none
  oaw : ∀ i a, G.oa i = some a → a ∈ G.ow
  oai : ∀ i j a, G.oa i = some a → G.oa j = some a → i = j
  so : T.fn = true → ∀ (j i : Nat) (c : List D), ρ[j]? = some (some (.own i c)) → i = j
  tb : ∀ (j : Nat) P, T.T.tb[j]? = some P → G.as[j]? = some P
  tk0 : T.n0 ≤ s.toks
section
variable {X : Cx} {T : Fx} {pins : List (Addr × Obj)} {G G' : Gh} {ρ : Env_} {st st' : Store} {s s' : Shared}
theorem Look.keep {env : Env} {h h' : Heap} {m : Str → Option Value} {x : Str} {u : Value} (hc : ∀ x c v, env.cells.lookup x = some c → h.IsCell c v → h'.IsCell c v) (l : Look env h m x u) : Look env h' m x u := by
  rcases l with l | ⟨k, c, e, z⟩
  · exact .inl l
  · exact .inr ⟨k, c, e, hc x c _ e z⟩
theorem Look.back {env : Env} {h h' : Heap} {m : Str → Option Value} {x : Str} {u : Value} (ok : ∀ x c, env.cells.lookup x = some c → ∃ v, h.IsCell c v) (hc : ∀ x c v, env.cells.lookup x = some c → h.IsCell c v → h'.IsCell c v) (l : Look env h' m x u) : Look env h m x u := by
  rcases l with l | ⟨k, c, e, z⟩
  · exact .inl l
  · obtain ⟨v, q⟩ := ok x c e
    obtain ⟨o, h1, h2⟩ := hc x c v e q
    obtain ⟨o', h1', h2'⟩ := z
    rw [h1] at h1'; cases h1'
    rw [h2] at h2'
    injection h2' with e2
    subst e2
    exact .inr ⟨k, c, e, q⟩
theorem InvD.move (I : InvD X T pins G ρ st s) (J : Inv X pins (blank X.N) G'.H s') (e : Ext G G') (hn : s.toks ≤ s'.toks) (hm : ∀ m, s.heap.Ns X.env.locals m → s'.heap.Ns X.env.locals m)
    (hc : ∀ x c v, X.env.cells.lookup x = some c → s.heap.IsCell c v → s'.heap.IsCell c v) (hs : StoOk T.T G' s'.toks st') : InvD X T pins G' ρ st' s' := by
  obtain ⟨m, h1, h2⟩ := I.loc
  refine ⟨J, ⟨m, hm m h1, fun i x d a b c => ?_⟩, hs, Nat.le_trans I.tok hn, I.pos, I.len, fun a h q => I.owd a (by rw [← e.ow]; exact h) (e.dom a q), I.ext.trans e.fx, I.nn, fun i a h => I.oaT i a (by rw [← e.oa]; exact h), fun i a h => by rw [e.ow]; exact I.oaw i a (by rw [← e.oa]; exact h), fun i j a h k => I.oai i j a (by rw [← e.oa]; exact h) (by rw [← e.oa]; exact k), I.so, fun j P h => e.pre j P (I.tb j P h), Nat.le_trans I.tk0 hn⟩
  obtain ⟨u, r, l⟩ := h2 i x d a b c
  exact ⟨u, Rep.mono e hn r, Look.keep hc l⟩
theorem cell_kept {h h' : Heap} (k : ∀ b u, h.get? b = some u → h'.get? b = some u) {c : Addr} {v : Option Value} (z : h.IsCell c v) : h'.IsCell c v :=
  let ⟨o, h1, h2⟩ := z
  ⟨o, k _ _ h1, h2⟩
theorem InvD.kept {h' : Heap} {t' : Nat} (I : InvD X T pins G ρ st s) (k : ∀ b u, s.heap.get? b = some u → h'.get? b = some u) (hn : s.toks ≤ t') : InvD X T pins G ρ st { s with heap := h', toks := t' } :=
  I.move (s' := { s with heap := h', toks := t' }) (I.inv.kept k) (Ext.refl G) hn (fun _ h => h.keeps k) (fun _ _ _ _ z => cell_kept k z) (I.sto.mono (Ext.refl G) hn rfl fun _ _ _ h => h)
theorem InvD.tk {t' : Nat} (I : InvD X T pins G ρ st s) (hn : s.toks ≤ t') : InvD X T pins G ρ st { s with toks := t' } := I.kept (h' := s.heap) (fun _ _ h => h) hn
theorem InvD.free (I : InvD X T pins G ρ st s) {a : Addr} (h : s.heap.objs.size ≤ a) : G.H a = none := I.inv.hok.fresh h
theorem Ext.laid {a : Addr} {u : HO} (h : G.H a = none) : Ext G ⟨upd G.H a u, G.as, G.ow, G.oa⟩ :=
  ⟨fun b o q => by show upd G.H a u b = _; rw [upd_ne (ne_of_none q h)]; exact q, fun b o q _ => by show upd G.H a u b = _; rw [upd_ne (ne_of_none q h)]; exact q, fun _ _ q => q, fun _ q => .inl q, fun b q => by
    by_cases hb : b = a
    · rw [hb]; exact h
    · exact (upd_ne hb).symm.trans q, rfl, rfl⟩
theorem InvD.laid {a : Addr} {u : HO} {h' : Heap} {t' : Nat} (I : InvD X T pins G ρ st s) (k : ∀ b u, s.heap.get? b = some u → h'.get? b = some u) (hp : s.heap.objs.size ≤ a) (ok : ObjOk X.prog X.w (upd G.H a u) h' a u) (hn : s.toks ≤ t') :
    InvD X T pins ⟨upd G.H a u, G.as, G.ow, G.oa⟩ ρ st { s with heap := h', toks := t' } :=
  I.move (G' := ⟨upd G.H a u, G.as, G.ow, G.oa⟩) (s' := { s with heap := h', toks := t' }) (I.inv.laid k hp ok) (Ext.laid (I.free hp)) hn (fun _ h => h.keeps k) (fun _ _ _ _ z => cell_kept k z)
    (I.sto.mono (Ext.laid (I.free hp)) hn rfl fun b o _ q => by show upd G.H a u b = _; rw [upd_ne (ne_of_none q (I.free hp))]; exact q)
theorem ok_fz {P : Program} {w : World} {H : Hp} {h : Heap} {a : Addr} {o : Obj} (e : h.get? a = some o) : ObjOk P w H h a (fz o) := ⟨e, True.intro, ⟨o, e⟩, fun _ _ _ _ => True.intro⟩
theorem ok_mu {P : Program} {w : World} {H : Hp} {h : Heap} {a : Addr} {o : Obj} (e : h.get? a = some o) : ObjOk P w H h a (mu a o) := ⟨e, ⟨o, e⟩, fun _ _ h1 h2 => h2 _ h1⟩
theorem InvD.atF (I : InvD X T pins G ρ st s) {a : Addr} {o : Obj} (e : G.H a = some (fz o)) : s.heap.get? a = some o := (I.inv.hok a _ e).1
theorem InvD.atM (I : InvD X T pins G ρ st s) {a : Addr} {o : Obj} (e : G.H a = some (mu a o)) : s.heap.get? a = some o := (I.inv.hok a _ e).1
end
end DL
namespace DL
open PySem PySem.Spec PyProof.Rows L2

/-! ### judgements -/
structure ExOk (X : Cx) (G : Gh) (ex : Ex) (cls : Value) (dd : Option Addr) : Prop where
  c : ∃ C, X.mg ex.cls = some (.ref C) ∧ cls = .ref C
  p : (dd = none ∧ ex.fld = none) ∨ ∃ dx f i, dd = some dx ∧ ex.fld = some (f, i) ∧ G.H dx = some (.xd [(f, V.int i)])
/-- an exception in the air: sI is the state without it -/
def Air (X : Cx) (T : Fx) (pins : List (Addr × Obj)) (G : Gh) (ρ : Env_) (st : Store) (ex : Ex) (x : Value) (s' : Shared) : Prop :=
  ∃ (a : Addr) (B : Heap) (sI : Shared) (cls : Value) (dd : Option Addr), x = .ref a ∧ InvD X T pins G ρ st sI ∧ (∀ b o, sI.heap.get? b = some o → b ∉ frs X.stack → B.get? b = some o) ∧
    sI.heap.UpToSlots s'.heap ∧ Sky B X.stack a (Zc cls dd) X.env.locals s'.heap ∧ G.H a = none ∧ s'.os = sI.os ∧ AllBare s'.gens ∧ sI.toks ≤ s'.toks ∧ ExOk X G ex cls dd
def NewOk (G : Gh) (d : D) (u : Value) : Prop := ∀ ds a, d = .new ds → u = .ref a → G.H a = none
def OkP (X : Cx) (T : Fx) (pins : List (Addr × Obj)) (G : Gh) (ρ : Env_) (r : R D) (u : Value) (s' : Shared) : Prop :=
  ∃ d st' G', r = .ok d st' ∧ Ext G G' ∧ InvD X T pins G' ρ st' s' ∧ Rep T.T G' s'.toks d u ∧ NewOk G d u
def OkB (X : Cx) (T : Fx) (pins : List (Addr × Obj)) (G : Gh) (ρ : Env_) (r : R Bool) (b : Bool) (s' : Shared) : Prop :=
  ∃ st' G', r = .ok b st' ∧ Ext G G' ∧ InvD X T pins G' ρ st' s'
def ExP {α : Type} (X : Cx) (T : Fx) (pins : List (Addr × Obj)) (G : Gh) (ρ : Env_) (r : R α) (x : Value) (s' : Shared) : Prop :=
  ∃ ex st' G', r = .exn ex st' ∧ Ext G G' ∧ Air X T pins G' ρ st' ex x s'
abbrev EB := Env_ → Store → R Bool
abbrev EL := Env_ → Store → R (List D)
structure DE (X : Cx) (T : Fx) (e : Expr) (m : EM) : Prop where
  ap : ∀ (pins : List (Addr × Obj)) (s : Shared) (G : Gh) (ρ : Env_) (st : Store), InvD X T pins G ρ st s → m ρ st ≠ .bad →
  wpAny (model X.prog X.w) X.A (eval e X.env) (OkP X T pins G ρ (m ρ st)) (ExP X T pins G ρ (m ρ st)) s
instance {X : Cx} {T : Fx} {e : Expr} {m : EM} : CoeFun (DE X T e m) fun _ => ∀ (pins : List (Addr × Obj)) (s : Shared) (G : Gh) (ρ : Env_) (st : Store), InvD X T pins G ρ st s → m ρ st ≠ .bad →
  wpAny (model X.prog X.w) X.A (eval e X.env) (OkP X T pins G ρ (m ρ st)) (ExP X T pins G ρ (m ρ st)) s := ⟨DE.ap⟩
/-- a test -/
structure DT (X : Cx) (T : Fx) (e : Expr) (m : EB) : Prop where
  ap : ∀ (pins : List (Addr × Obj)) (s : Shared) (G : Gh) (ρ : Env_) (st : Store), InvD X T pins G ρ st s → m ρ st ≠ .bad →
  wpAny (model X.prog X.w) X.A (isTrue e X.env (eval e X.env)) (OkB X T pins G ρ (m ρ st)) (ExP X T pins G ρ (m ρ st)) s
instance {X : Cx} {T : Fx} {e : Expr} {m : EB} : CoeFun (DT X T e m) fun _ => ∀ (pins : List (Addr × Obj)) (s : Shared) (G : Gh) (ρ : Env_) (st : Store), InvD X T pins G ρ st s → m ρ st ≠ .bad →
  wpAny (model X.prog X.w) X.A (isTrue e X.env (eval e X.env)) (OkB X T pins G ρ (m ρ st)) (ExP X T pins G ρ (m ρ st)) s := ⟨DT.ap⟩
/-- a test, whatever its whole is -/
structure DW (X : Cx) (T : Fx) (e : Expr) (m : EB) : Prop where
  ap : ∀ (whole : Sem Value) (pins : List (Addr × Obj)) (s : Shared) (G : Gh) (ρ : Env_) (st : Store), InvD X T pins G ρ st s → m ρ st ≠ .bad →
  wpAny (model X.prog X.w) X.A (isTrue e X.env whole) (OkB X T pins G ρ (m ρ st)) (ExP X T pins G ρ (m ρ st)) s
instance {X : Cx} {T : Fx} {e : Expr} {m : EB} : CoeFun (DW X T e m) fun _ => ∀ (whole : Sem Value) (pins : List (Addr × Obj)) (s : Shared) (G : Gh) (ρ : Env_) (st : Store), InvD X T pins G ρ st s → m ρ st ≠ .bad →
  wpAny (model X.prog X.w) X.A (isTrue e X.env whole) (OkB X T pins G ρ (m ρ st)) (ExP X T pins G ρ (m ρ st)) s := ⟨DW.ap⟩
theorem DW.dt {X : Cx} {T : Fx} {e : Expr} {m : EB} (h : DW X T e m) : DT X T e m := .mk (h _)

section
variable {X : Cx} {T : Fx} {pins : List (Addr × Obj)} {G G1 : Gh} {ρ : Env_} {st st1 : Store} {s s1 : Shared} {e a b : Expr} {m ma mb : EM} {pos : Pos}
theorem ExP.up {α β : Type} {r : R α} {q : R β} (x1 : Ext G G1) (h : ∀ ex st', r = .exn ex st' → q = .exn ex st') {x : Value} (z : ExP X T pins G1 ρ r x s1) : ExP X T pins G ρ q x s1 :=
  let ⟨ex, st', G', e1, e2, e3⟩ := z
  ⟨ex, st', G', h ex st' e1, x1.trans e2, e3⟩
theorem NewOk.up (x1 : Ext G G1) {d : D} {u : Value} (h : NewOk G1 d u) : NewOk G d u := fun ds a e1 e2 => x1.dom a (h ds a e1 e2)
theorem OkP.up {r q : R D} (x1 : Ext G G1) (h : ∀ d st', r = .ok d st' → q = .ok d st') {u : Value} (z : OkP X T pins G1 ρ r u s1) : OkP X T pins G ρ q u s1 :=
  let ⟨d, st', G', e1, e2, e3, e4, e5⟩ := z
  ⟨d, st', G', h d st' e1, x1.trans e2, e3, e4, e5.up x1⟩
theorem OkB.up {r q : R Bool} (x1 : Ext G G1) {c c' : Bool} (h : ∀ st', r = .ok c st' → q = .ok c' st') (z : OkB X T pins G1 ρ r c s1) : OkB X T pins G ρ q c' s1 :=
  let ⟨st', G', e1, e2, e3⟩ := z
  ⟨st', G', h st' e1, x1.trans e2, e3⟩
/-- evaluated, then gone on -/
theorem DE.run (h : DE X T e m) (I : InvD X T pins G ρ st s) (hb : m ρ st ≠ .bad) {Q : Value → Shared → Prop} {E : Value → Shared → Prop}
    (hk : ∀ u s1 d st1 G1, m ρ st = .ok d st1 → Ext G G1 → InvD X T pins G1 ρ st1 s1 → Rep T.T G1 s1.toks d u → NewOk G d u → s.toks ≤ s1.toks → Q u s1) (hx : ∀ x s1, ExP X T pins G ρ (m ρ st) x s1 → E x s1) :
    wpAny (model X.prog X.w) X.A (eval e X.env) Q E s :=
  wpAny_mono (PySem.wpAny_toks (h pins s G ρ st I hb)) (fun u s1 ⟨hn, d, st1, G1, h1, h2, h3, h4, h5⟩ => hk u s1 d st1 G1 h1 h2 h3 h4 h5 hn) fun x s1 z => hx x s1 z.2
theorem bad_l {α β : Type} {r : R α} {f : α → Store → R β} (h : r.bind f ≠ .bad) : r ≠ .bad := fun e => h (by rw [e]; rfl)
theorem DE.same {m' : EM} (h : DE X T e m) (q : ∀ ρ st, m' ρ st ≠ .bad → m ρ st = m' ρ st) : DE X T e m' := .mk fun pins s G ρ st I hb => by
  have e1 := q ρ st hb
  rw [← e1] at hb ⊢
  exact h pins s G ρ st I hb

/-! ### names, constants -/
def eVar (i : Nat) : EM := fun ρ st => R.of ((ρ[i]?).bind id) st
theorem of_bad {α : Type} {o : Option α} {st : Store} (h : R.of o st ≠ .bad) : ∃ a, o = some a := by
  cases o with
  | none => exact absurd rfl h
  | some a => exact ⟨a, rfl⟩
theorem var_some {i : Nat} {d : D} (e : (ρ[i]?).bind id = some d) : ρ[i]? = some (some d) := by
  cases q : ρ[i]? with
  | none => rw [q] at e; cases e
  | some o =>
    rw [q] at e
    exact congrArg some e
/-- a name: its value, unchanged state -/
theorem name_ok {i : Nat} {x : Str} {d : D} {Q : Value → Shared → Prop} {E : Value → Shared → Prop} (I : InvD X T pins G ρ st s) (hN : X.N[i]? = some x) (hv : Vis X.env.scope x) (hd : (x == ("__debug__" : Str)) = false) (hcd : (x == ("__classdict__" : Str)) = false)
    (e : ρ[i]? = some (some d)) (h : ∀ u, Rep T.T G s.toks d u → Q u s) : wpAny (model X.prog X.w) X.A (eval (.Name x pos) X.env) Q E s := by
  obtain ⟨m, hn, hl⟩ := I.loc
  obtain ⟨u, r, l⟩ := hl i x d hN e hv
  rcases l with ⟨hk, hm⟩ | ⟨hk, c, hc, hcell⟩
  · exact wpAny_Name (wpAny_loadName_local I.inv.ok.kind hk hn hm (h u r)) hd
  · rcases hk with hk | hk
    · exact wpAny_Name (wpAny_loadName_cell I.inv.ok.kind hk hc hcell (h u r)) hd
    · exact wpAny_Name (wpAny_loadName_free I.inv.ok.kind hk hc hcell (h u r) hcd) hd
theorem NewOk.of {d : D} {u : Value} (h : notNew d = true) : NewOk G d u := fun ds a e1 _ => by rw [e1] at h; cases h
theorem de_var {i : Nat} {x : Str} (hN : X.N[i]? = some x) (hv : Vis X.env.scope x) (hd : (x == ("__debug__" : Str)) = false := by decide) (hcd : (x == ("__classdict__" : Str)) = false := by decide) : DE X T (.Name x pos) (eVar i) := by
  refine .mk ?_
  intro pins s G ρ st I hb
  obtain ⟨d, e⟩ := of_bad hb
  have hr : eVar i ρ st = .ok d st := by unfold eVar; rw [e]; rfl
  rw [hr]
  exact name_ok I hN hv hd hcd (var_some e) fun u r => ⟨d, st, G, rfl, Ext.refl G, I, r, NewOk.of (I.nn i d (var_some e))⟩
def eC (d : D) : EM := fun _ st => .ok d st
theorem de_int {i j} : DE X T (.Constant (.int i) j pos) (eC (.int i)) := .mk fun pins s G ρ st I _ =>
  wpAny_Constant_int ⟨_, st, G, rfl, Ext.refl G, I.tk (Nat.le_succ _), ⟨_, rfl⟩, NewOk.of rfl⟩
theorem de_bl {c j} : DE X T (.Constant (.bool c) j pos) (eC (.bl c)) := .mk fun pins s G ρ st I _ => Constant_bool ⟨_, st, G, rfl, Ext.refl G, I, rfl, NewOk.of rfl⟩
theorem de_non {j} : DE X T (.Constant .none j pos) (eC .non) := .mk fun pins s G ρ st I _ => Constant_none ⟨_, st, G, rfl, Ext.refl G, I, rfl, NewOk.of rfl⟩
theorem de_str {x : Str} {l : List Nat} {j} (hx : x = S l) (hl : l.length ≤ 1000000 := by decide +kernel) : DE X T (.Constant (.str x) j pos) (eC (.str l)) := .mk fun pins s G ρ st I _ => by
  subst hx
  exact Calls.Constant_str ⟨_, st, G, rfl, Ext.refl G, I.tk (Nat.le_succ _), ⟨_, rfl, I.tok, Nat.lt_succ_self _, by rw [sizeLine_eq]; omega⟩, NewOk.of rfl⟩
/-- a module's constant -/
theorem de_gint {x : Str} {i : Int} (hg : Gl X x) (hm : ∃ t, X.mg x = some (.int i t)) (hd : (x == ("__debug__" : Str)) = false := by decide) : DE X T (.Name x pos) (eC (.int i)) := .mk fun pins s G ρ st I _ => by
  obtain ⟨t, hm⟩ := hm
  exact ld_glob I.inv hg hm ⟨_, st, G, rfl, Ext.refl G, I, ⟨_, rfl⟩, NewOk.of rfl⟩ hd
theorem de_gstr {x : Str} {l : List Nat} (hg : Gl X x) (hm : ∃ t, X.mg x = some (.str (S l) t) ∧ 0 < t ∧ t < T.T) (hl : l.length ≤ 1000000 := by decide +kernel) (hd : (x == ("__debug__" : Str)) = false := by decide) : DE X T (.Name x pos) (eC (.cst l)) := .mk fun pins s G ρ st I _ => by
  obtain ⟨t, hm, h0, h1⟩ := hm
  exact ld_glob I.inv hg hm ⟨_, st, G, rfl, Ext.refl G, I, ⟨_, rfl, h0, h1, by rw [sizeLine_eq]; omega⟩, NewOk.of rfl⟩ hd

/-! ### two in a row -/
def eBin (f : Store → D → D → Option D) (ma mb : EM) : EM := fun ρ st => (ma ρ st).bind fun x st1 => (mb ρ st1).bind fun y st2 => R.of (f st2 x y) st2
/-- an operator by values -/
def OpD (X : Cx) (T : Fx) (f : Value → Value → Sem Value) (p : Store → D → D → Option D) : Prop := ∀ (pins : List (Addr × Obj)) (s : Shared) (G : Gh) (ρ : Env_) (st : Store) (u v : Value) (x y d : D) (E : Value → Shared → Prop),
  InvD X T pins G ρ st s → Rep T.T G s.toks x u → Rep T.T G s.toks y v → p st x y = some d → wpAny (model X.prog X.w) X.A (f u v) (OkP X T pins G ρ (.ok d st)) E s
theorem two (ha : DE X T a ma) (hb : DE X T b mb) {f : Value → Value → Sem Value} {p : Store → D → D → Option D} (ho : OpD X T f p) (I : InvD X T pins G ρ st s) (h : eBin p ma mb ρ st ≠ .bad) :
    wpAny (model X.prog X.w) X.A (eval a X.env) (fun u s1 => wpAny (model X.prog X.w) X.A (eval b X.env) (fun v s2 => wpAny (model X.prog X.w) X.A (f u v) (OkP X T pins G ρ (eBin p ma mb ρ st)) (ExP X T pins G ρ (eBin p ma mb ρ st)) s2)
      (ExP X T pins G ρ (eBin p ma mb ρ st)) s1) (ExP X T pins G ρ (eBin p ma mb ρ st)) s := by
  refine ha.run I (bad_l h) (fun u s1 x st1 G1 e1 x1 I1 r1 _ _ => ?_) fun x s1 z => z.up (Ext.refl G) fun ex st' e1 => by unfold eBin; rw [e1]; rfl
  have eq1 : eBin p ma mb ρ st = (mb ρ st1).bind fun y st2 => R.of (p st2 x y) st2 := by unfold eBin; rw [e1]; rfl
  rw [eq1] at h ⊢
  refine hb.run I1 (bad_l h) (fun v s2 y st2 G2 e2 x2 I2 r2 _ hn => ?_) fun x s1 z => z.up x1 fun ex st' e2 => by rw [e2]; rfl
  rw [e2] at h ⊢
  obtain ⟨d, e3⟩ := of_bad h
  have eq3 : ((R.ok y st2).bind fun y st2 => R.of (p st2 x y) st2) = .ok d st2 := by rw [bind_ok, e3]; rfl
  rw [eq3]
  exact wpAny_mono (ho pins s2 G2 ρ st2 u v x y d _ I2 (r1.mono x2 hn) r2 e3) (fun r s3 z => z.up (x1.trans x2) fun _ _ q => q) fun _ _ z => z
end
end DL
namespace DL
open PySem PySem.Spec PyProof.Rows L2

/-! ### a value's kind -/
inductive Vw where
  | non | bl (b : Bool) | int (i : Int) | str (l : List Nat) | lst (l : List D) | tup (l : List D)
def D.vw : D → Option Vw
  | .non => some .non
  | .bl b => some (.bl b)
  | .int i => some (.int i)
  | .str l => some (.str l)
  | .cst l => some (.str l)
  | .ust l => some (.str l)
  | .tup l => some (.tup l)
  | .lst l => some (.lst l)
  | .new l => some (.lst l)
  | .own _ l => some (.lst l)
  | .scr ns => some (.lst (ns.map .int))
  | .ref _ => none
  | .fn _ => none
  | .adr _ => none
  | .dic _ => none
inductive VwOk (T : Tx) (G : Gh) (n : Nat) (h : Heap) : Vw → Value → Prop where
  | non : VwOk T G n h .non .none
  | bl (b : Bool) : VwOk T G n h (.bl b) (.bool b)
  | int (i : Int) (t : Tok) : VwOk T G n h (.int i) (.int i t)
  | str (l : List Nat) (t : Tok) (z : l.length ≤ sizeLine) : VwOk T G n h (.str l) (.str (S l) t)
  | lst {ds : List D} {a : Addr} {us : List Value} {k : Nat} (e : h.get? a = some { cls := .type "list", data := .seq us.toArray k }) (z : us.length ≤ sizeLine) (r : Reps T G n ds us) : VwOk T G n h (.lst ds) (.ref a)
  | tup {ds : List D} {a : Addr} {us : List Value} {k : Nat} {o : Obj} (e : h.get? a = some o) (c : o.cls = .type "tuple") (d : o.data = .seq us.toArray k) (z : us.length ≤ sizeLine) (r : Reps T G n ds us) : VwOk T G n h (.tup ds) (.ref a)
theorem reps_ints {T : Tx} {G : Gh} {n : Nat} : ∀ {us : List Value} {ns : List Int}, IntsAre us ns → Reps T G n (ns.map .int) us
  | _, _, .nil => rfl
  | _, _, .cons i t h => ⟨_, _, rfl, rfl, ⟨t, rfl⟩, reps_ints h⟩
section
variable {X : Cx} {T : Fx} {pins : List (Addr × Obj)} {G G1 : Gh} {ρ : Env_} {st st1 : Store} {s s1 : Shared} {x y : D} {u v : Value}
theorem lst_view {o : Obj} {us : List Value} {ds : List D} {a : Addr} (h : LstO o us) (e : s.heap.get? a = some o) (r : Reps T.T G s.toks ds us) : VwOk T.T G s.toks s.heap (.lst ds) (.ref a) := by
  obtain ⟨⟨k, d⟩, z⟩ := h
  subst d
  exact .lst e z r
theorem InvD.view (I : InvD X T pins G ρ st s) {w : Vw} (r : Rep T.T G s.toks x u) (e : x.vw = some w) : VwOk T.T G s.toks s.heap w u := by
  cases x with
  | non => cases e; cases (show u = .none from r); exact .non
  | bl b => cases e; cases (show u = .bool b from r); exact .bl b
  | int i => cases e; obtain ⟨t, rfl⟩ := (show ∃ t, u = .int i t from r); exact .int i t
  | str l => cases e; obtain ⟨t, rfl, _, _, z⟩ := (show ∃ t, u = .str (S l) t ∧ _ ∧ _ ∧ _ from r); exact .str l t z
  | cst l => cases e; obtain ⟨t, rfl, _, _, z⟩ := (show ∃ t, u = .str (S l) t ∧ _ ∧ _ ∧ _ from r); exact .str l t z
  | ust l => cases e; obtain ⟨t, rfl, z⟩ := (show ∃ t, u = .str (S l) t ∧ _ from r); exact .str l t z
  | tup l => cases e; obtain ⟨a, o, us, rfl, h1, ⟨c, ⟨k, d⟩, z⟩, h2⟩ := r; exact .tup (I.atF h1) c d z h2
  | lst l => cases e; obtain ⟨a, o, us, rfl, h1, h3, h2⟩ := r; exact lst_view h3 (I.atF h1) h2
  | new l => cases e; obtain ⟨a, o, us, rfl, h1, _, _, h3, h2⟩ := r; exact lst_view h3 (I.atM h1) h2
  | own i l => cases e; obtain ⟨a, o, us, rfl, h1, _, _, _, h3, h2⟩ := r; exact lst_view h3 (I.atM h1) h2
  | scr ns => cases e; obtain ⟨a, o, us, rfl, h1, h3, h2⟩ := r; exact lst_view h3 (I.atF h1) (reps_ints h2)
  | ref k => cases e
  | fn x => cases e
  | adr a => cases e
  | dic l => cases e
/-- the elements, in order -/
def D.sq : D → Option (List D)
  | .tup l => some l
  | x => match x.vw with
    | some (.lst l) => some l
    | _ => none
def txt : D → Option (List Nat)
  | .str l => some l
  | .cst l => some l
  | .ust l => some l
  | _ => none
theorem Reps.get {T : Tx} {G : Gh} {n : Nat} : ∀ {ds : List D} {us : List Value} {i : Nat} {d : D}, Reps T G n ds us → ds[i]? = some d → ∃ u, us[i]? = some u ∧ Rep T G n d u ∧ plain d = true
  | [], _, _, _, _, e => by simp at e
  | _ :: _, _, 0, d, ⟨u, r, h1, hp, h2, _⟩, e => by
    subst h1
    simp at e
    subst e
    exact ⟨u, rfl, h2, hp⟩
  | _ :: _, _, i + 1, d, ⟨u, r, h1, _, _, h3⟩, e => by
    subst h1
    obtain ⟨w, q1, q2⟩ := Reps.get (i := i) (d := d) h3 (by simpa using e)
    exact ⟨w, by simpa using q1, q2⟩
theorem Reps.append {T : Tx} {G : Gh} {n : Nat} : ∀ {ds es : List D} {us ws : List Value}, Reps T G n ds us → Reps T G n es ws → Reps T G n (ds ++ es) (us ++ ws)
  | [], _, _, _, h, k => by
    cases (show _ = [] from h)
    exact k
  | _ :: _, _, _, _, ⟨u, r, h1, hp, h2, h3⟩, k => by
    subst h1
    exact ⟨u, _, rfl, hp, h2, Reps.append h3 k⟩
theorem Reps.drop {T : Tx} {G : Gh} {n : Nat} : ∀ {ds : List D} {us : List Value} (i : Nat), Reps T G n ds us → Reps T G n (ds.drop i) (us.drop i)
  | [], _, i, h => by
    cases (show _ = [] from h)
    rw [List.drop_nil, List.drop_nil]
    exact rfl
  | _ :: _, _, 0, h => h
  | _ :: _, _, i + 1, ⟨u, r, h1, _, _, h3⟩ => by
    subst h1
    exact Reps.drop i h3
theorem Reps.take {T : Tx} {G : Gh} {n : Nat} : ∀ {ds : List D} {us : List Value} (i : Nat), Reps T G n ds us → Reps T G n (ds.take i) (us.take i)
  | [], _, i, h => by
    cases (show _ = [] from h)
    rw [List.take_nil, List.take_nil]
    exact rfl
  | _ :: _, _, 0, _ => rfl
  | _ :: _, _, i + 1, ⟨u, r, h1, hp, h2, h3⟩ => by
    subst h1
    exact ⟨u, _, rfl, hp, h2, Reps.take i h3⟩
theorem Reps.one {T : Tx} {G : Gh} {n : Nat} {d : D} {u : Value} (h : Rep T G n d u) (p : plain d = true) : Reps T G n [d] [u] := ⟨u, [], rfl, p, h, rfl⟩

/-! ### what comes out -/
theorem ok_same {d : D} (I : InvD X T pins G ρ st s) (r : Rep T.T G s.toks d u) (h : notNew d = true) : OkP X T pins G ρ (.ok d st) u s := ⟨d, st, G, rfl, Ext.refl G, I, r, NewOk.of h⟩
theorem ok_int {i : Int} {t t' : Nat} (I : InvD X T pins G ρ st s) (h : s.toks ≤ t') : OkP X T pins G ρ (.ok (.int i) st) (.int i t) { s with toks := t' } := ⟨_, st, G, rfl, Ext.refl G, I.tk h, ⟨t, rfl⟩, NewOk.of rfl⟩
theorem ok_bl {b b' : Bool} (I : InvD X T pins G ρ st s) (e : b = b') : OkP X T pins G ρ (.ok (.bl b) st) (.bool b') s := by
  subst e
  exact ok_same I rfl rfl
theorem ok_str {l : List Nat} {x : Str} {t' : Nat} (I : InvD X T pins G ρ st s) (e : x = S l) (z : l.length ≤ sizeLine) (h : s.toks < t') : OkP X T pins G ρ (.ok (.str l) st) (.str x s.toks) { s with toks := t' } := by
  subst e
  exact ⟨_, st, G, rfl, Ext.refl G, I.tk (Nat.le_of_lt h), ⟨s.toks, rfl, I.tok, h, z⟩, NewOk.of rfl⟩
theorem push_none (I : InvD X T pins G ρ st s) : G.H s.heap.objs.size = none := I.free (Nat.le_refl _)
theorem notin_as (I : InvD X T pins G ρ st s) {a : Addr} (h : G.H a = none) : a ∉ G.as := fun m => by
  obtain ⟨o, q, _⟩ := I.sto.isMu m
  rw [h] at q
  cases q
theorem notin_ow (I : InvD X T pins G ρ st s) {a : Addr} (h : G.H a = none) : a ∉ G.ow := fun m => I.owd a m h
theorem ok_new {ds : List D} {us : List Value} {k t' : Nat} (I : InvD X T pins G ρ st s) (r : Reps T.T G s.toks ds us) (z : us.length ≤ sizeLine) (h : s.toks ≤ t') :
    OkP X T pins G ρ (.ok (.new ds) st) (.ref s.heap.objs.size) { s with heap := s.heap.push { cls := .type "list", data := .seq us.toArray k }, toks := t' } := by
  have hn := push_none I
  refine ⟨_, st, _, rfl, Ext.laid (u := mu s.heap.objs.size { cls := .type "list", data := .seq us.toArray k }) hn, I.laid (u := mu s.heap.objs.size { cls := .type "list", data := .seq us.toArray k }) (fun b u e => Heap.get?_push_of_some _ e) (Nat.le_refl _) (ok_mu (Heap.get?_push_size _ rfl)) h, ?_, ?_⟩
  · exact ⟨_, _, us, rfl, upd_same, notin_as I hn, notin_ow I hn, ⟨⟨k, rfl⟩, z⟩, Reps.mono (Ext.laid hn) h r⟩
  · rintro es a _ e2
    injection e2 with e3
    rw [← e3]
    exact hn
theorem ok_tup {ds : List D} {us : List Value} {k t' : Nat} (I : InvD X T pins G ρ st s) (r : Reps T.T G s.toks ds us) (z : us.length ≤ sizeLine) (h : s.toks ≤ t') :
    OkP X T pins G ρ (.ok (.tup ds) st) (.ref s.heap.objs.size) { s with heap := s.heap.push { cls := .type "tuple", data := .seq us.toArray k }, toks := t' } := by
  have hn := push_none I
  refine ⟨_, st, _, rfl, Ext.laid (u := fz { cls := .type "tuple", data := .seq us.toArray k }) hn, I.laid (u := fz { cls := .type "tuple", data := .seq us.toArray k }) (fun b u e => Heap.get?_push_of_some _ e) (Nat.le_refl _) (ok_fz (Heap.get?_push_size _ rfl)) h, ?_, NewOk.of rfl⟩
  exact ⟨_, _, us, rfl, upd_same, ⟨rfl, ⟨k, rfl⟩, z⟩, Reps.mono (Ext.laid hn) h r⟩
end

/-! ### the equality of data -/
def eqL (f : D → D → Option Bool) : List D → List D → Option Bool
  | [], [] => some true
  | [], _ :: _ => some false
  | _ :: _, [] => some false
  | a :: as, b :: bs => match f a b, eqL f as bs with
    | some p, some q => some (p && q)
    | _, _ => none
def eqV (f : D → D → Option Bool) : Vw → Vw → Option Bool
  | .non, .non => some true
  | .bl a, .bl b => some (a == b)
  | .int a, .int b => some (a == b)
  | .str a, .str b => some (a == b)
  | .bl a, .int b => some ((if a then 1 else 0) == b)
  | .int a, .bl b => some (a == (if b then 1 else 0))
  | .lst a, .lst b => eqL f a b
  | .tup a, .tup b => eqL f a b
  | _, _ => some false
def eqF : Nat → D → D → Option Bool
  | 0, _, _ => none
  | n + 1, x, y => match x.vw, y.vw with
    | some v, some w => eqV (eqF n) v w
    | _, _ => none
/-- what == says of two values' kinds -/
def pEq : Store → D → D → Option D := fun _ x y => (eqF 50 x y).map .bl
def pNe : Store → D → D → Option D := fun _ x y => (eqF 50 x y).map fun b => .bl (!b)
theorem eqL_len {f : D → D → Option Bool} : ∀ {a b : List D} {p : Bool}, eqL f a b = some p → a.length ≠ b.length → p = false
  | [], [], _, _, h => absurd rfl h
  | [], _ :: _, _, e, _ => (Option.some.inj e).symm
  | _ :: _, [], _, e, _ => (Option.some.inj e).symm
  | a :: as, b :: bs, p, e, h => by
    unfold eqL at e
    split at e
    · next q1 q2 e1 e2 =>
      have := eqL_len e2 (fun z => h (by simp [z]))
      subst this
      cases e
      exact Bool.and_false _
    · cases e
/-- the answers for the items -/
def eqE (f : D → D → Option Bool) (a b : List D) (j : Nat) : Bool := match a[j]?, b[j]? with
  | some x, some y => (f x y).getD false
  | _, _ => false
theorem eqL_all {f : D → D → Option Bool} : ∀ {a b : List D} {p : Bool}, eqL f a b = some p → p = ((List.range (min a.length b.length)).all (eqE f a b) && a.length == b.length)
  | [], [], _, e => (Option.some.inj e).symm
  | [], _ :: _, _, e => by
    cases e
    rfl
  | _ :: _, [], _, e => by
    cases e
    rfl
  | a :: as, b :: bs, p, e => by
    unfold eqL at e
    split at e
    · next q1 q2 e1 e2 =>
      have ih := eqL_all e2
      have ep := Option.some.inj e
      rw [← ep, ih]
      have e3 : min (a :: as).length (b :: bs).length = min as.length bs.length + 1 := by simp only [List.length_cons]; omega
      rw [e3, List.range_succ_eq_map, List.all_cons, List.all_map]
      have e4 : eqE f (a :: as) (b :: bs) 0 = q1 := by simp [eqE, e1]
      have e5 : (eqE f (a :: as) (b :: bs) ∘ Nat.succ) = eqE f as bs := by
        funext j
        simp [eqE, Function.comp]
      rw [e4, e5, Bool.and_assoc]
      congr 2
      simp
    · cases e
theorem eqL_at {f : D → D → Option Bool} : ∀ {a b : List D} {p : Bool}, eqL f a b = some p → ∀ (j : Nat) x y, a[j]? = some x → b[j]? = some y → f x y = some (eqE f a b j)
  | [], _, _, _, j, x, y, h1, _ => by simp at h1
  | _ :: _, [], _, _, j, x, y, _, h2 => by simp at h2
  | a :: as, b :: bs, p, e, j, x, y, h1, h2 => by
    unfold eqL at e
    split at e
    · next q1 q2 e1 e2 =>
      cases j with
      | zero =>
        simp at h1 h2
        subst h1 h2
        simp [eqE, e1]
      | succ j =>
        have ih := eqL_at e2 j x y (by simpa using h1) (by simpa using h2)
        rw [ih]
        simp [eqE]
    · cases e
section
variable {X : Cx} {T : Fx} {pins : List (Addr × Obj)} {G G1 : Gh} {ρ : Env_} {st st1 : Store} {s s1 : Shared}
/-- one value is equal to itself -/
theorem eqF_same (I : InvD X T pins G ρ st s) : ∀ (n : Nat) {x y : D} {u : Value} {p : Bool}, Rep T.T G s.toks x u → Rep T.T G s.toks y u → eqF n x y = some p → p = true
  | 0, _, _, _, _, _, _, e => by cases e
  | n + 1, x, y, u, p, r1, r2, e => by
    unfold eqF at e
    split at e
    · next v w e1 e2 =>
      have k1 := I.view r1 e1
      have k2 := I.view r2 e2
      have all : ∀ (a b : List D) (us : List Value) (q : Bool), Reps T.T G s.toks a us → Reps T.T G s.toks b us → eqL (eqF n) a b = some q → q = true := by
        intro a
        induction a with
        | nil =>
          intro b us q h1 h2 h3
          cases (show us = [] from h1)
          cases b with
          | nil => exact (Option.some.inj h3).symm
          | cons _ _ => obtain ⟨_, _, z, _, _⟩ := h2; cases z
        | cons a as ih =>
          intro b us q h1 h2 h3
          obtain ⟨u1, us', z1, _, g1, g2⟩ := h1
          subst z1
          cases b with
          | nil => cases (show _ = [] from h2)
          | cons b bs =>
            obtain ⟨u2, us2, z2, _, g3, g4⟩ := h2
            injection z2 with z3 z4
            subst z3 z4
            unfold eqL at h3
            split at h3
            · next q1 q2 f1 f2 =>
              have a1 := eqF_same I n g1 g3 f1
              have a2 := ih _ _ _ g2 g4 f2
              subst a1 a2
              exact (Option.some.inj h3).symm
            · cases h3
      cases k1 with
      | non => cases k2; exact (Option.some.inj e).symm
      | bl b => cases k2; exact (Option.some.inj e).symm.trans (beq_self_eq_true _)
      | int i t => cases k2; exact (Option.some.inj e).symm.trans (beq_self_eq_true _)
      | str l t zz =>
        generalize hz : S l = z at k2
        cases k2 with
        | str l2 t2 z2 =>
          have : l2 = l := by
            have := congrArg (fun x : Str => x.cps.toList) hz
            exact this.symm
          subst this
          exact (Option.some.inj e).symm.trans (beq_self_eq_true _)
      | @lst ds a us k h1 z1 g1 =>
        cases k2 with
        | @lst ds2 _ us2 k2 h2 z2 g2 =>
          rw [h1] at h2
          have e4 := Option.some.inj h2
          injection e4 with _ _ e5
          injection e5 with e6
          have e7 : us = us2 := by simpa using e6
          subst e7
          exact all _ _ _ _ g1 g2 e
        | @tup ds2 _ us2 k2 o h2 c d z2 g2 =>
          rw [h1] at h2
          cases h2
          have c' : Value.type "list" = .type "tuple" := c
          injection c' with c'
          exact absurd c' (by decide)
      | @tup ds a us k o h1 c d z1 g1 =>
        cases k2 with
        | @lst ds2 _ us2 k2 h2 z2 g2 =>
          rw [h1] at h2
          cases h2
          have c' : Value.type "list" = .type "tuple" := c
          injection c' with c'
          exact absurd c' (by decide)
        | @tup ds2 _ us2 k2 o2 h2 c2 d2 z2 g2 =>
          rw [h1] at h2
          cases h2
          rw [d] at d2
          injection d2 with e6
          have e7 : us = us2 := by simpa using e6
          subst e7
          exact all _ _ _ _ g1 g2 e
    · cases e
theorem eqAt_rc {A : Around} {u v : Value} {b : Bool} {vx vy : Vw} (k1 : VwOk T.T G s.toks s.heap vx u) (k2 : VwOk T.T G s.toks s.heap vy v) (h : SeqAt.RcAt A s u v b) (same : u = v → b = true) : SeqAt.EqAt A s u v b := fun prog w E Q hq => by
  unfold eqBool
  refine wpAny_holding ?_
  refine wpAny_ite_split (fun hab => ?_) (fun _ => ?_)
  · rw [same (eq_of_beq hab)] at hq
    exact wpAny_bind (wpAny_rule (wpAny_pure hq))
  · cases k1 <;> cases k2 <;> exact wpAny_bind (h prog w E _ (wpAny_truthy_bool hq))
theorem eqF_vw {n : Nat} {x y : D} {b : Bool} (e : eqF n x y = some b) : ∃ v w, x.vw = some v ∧ y.vw = some w := by
  cases n with
  | zero => cases e
  | succ n =>
    unfold eqF at e
    split at e
    · next v w e1 e2 => exact ⟨v, w, e1, e2⟩
    · cases e
theorem isList_of {h : Heap} {a : Addr} {us : List Value} {k : Nat} (e : h.get? a = some { cls := .type "list", data := .seq us.toArray k }) : h.IsList a us.toArray := ⟨_, e, rfl, k, rfl⟩
theorem isTuple_of {h : Heap} {a : Addr} {us : List Value} {k : Nat} {o : Obj} (e : h.get? a = some o) (c : o.cls = .type "tuple") (d : o.data = .seq us.toArray k) : h.IsTuple a us.toArray := ⟨o, e, c, k, d⟩
theorem str_eq (a b : List Nat) : ((S a) == (S b)) = (a == b) := SX.S_beq a b
/-- == and != of two values -/
theorem rc_at (I : InvD X T pins G ρ st s) : ∀ (n : Nat) {A : Around} {x y : D} {u v : Value} {p : Bool}, A.units + n < cLine → Rep T.T G s.toks x u → Rep T.T G s.toks y v → eqF n x y = some p → SeqAt.RcAt A s u v p ∧ SeqAt.RcNeAt A s u v (!p)
  | 0, _, _, _, _, _, _, _, _, _, e => by cases e
  | n + 1, A, x, y, u, v, p, hu, r1, r2, e => by
    have hA : A.units < cLine := by omega
    unfold eqF at e
    split at e
    · next vx vy e1 e2 =>
      have k1 := I.view r1 e1
      have k2 := I.view r2 e2
      have item : ∀ (a b : List D) (us ws : List Value) (q : Bool), Reps T.T G s.toks a us → Reps T.T G s.toks b ws → eqL (eqF n) a b = some q →
          ∀ j (h1 : j < us.toArray.size) (h2 : j < ws.toArray.size), SeqAt.EqAt A.in1 s us.toArray[j] ws.toArray[j] (eqE (eqF n) a b j) := by
        intro a b us ws q g1 g2 e j h1 h2
        have l1 := g1.length
        have l2 := g2.length
        rw [List.size_toArray] at h1 h2
        obtain ⟨w1, q1, q2, _⟩ := g1.get (i := j) (d := a[j]) (by rw [List.getElem?_eq_getElem])
        obtain ⟨w2, q3, q4, _⟩ := g2.get (i := j) (d := b[j]) (by rw [List.getElem?_eq_getElem])
        have f := eqL_at e j a[j] b[j] (by rw [List.getElem?_eq_getElem]) (by rw [List.getElem?_eq_getElem])
        have w1e : us.toArray[j] = w1 := by
          rw [List.getElem?_eq_getElem h1] at q1
          exact Option.some.inj q1
        have w2e : ws.toArray[j] = w2 := by
          rw [List.getElem?_eq_getElem h2] at q3
          exact Option.some.inj q3
        rw [w1e, w2e]
        obtain ⟨va, vb, ea, eb⟩ := eqF_vw f
        refine eqAt_rc (I.view q2 ea) (I.view q4 eb) (rc_at I n (by show A.units + 1 + n < cLine; omega) q2 q4 f).1 fun z => ?_
        subst z
        exact eqF_same I n q2 q4 f
      cases k1 with
      | non =>
        cases k2 with
        | non => cases e; exact ⟨SeqAt.RcAt.none_none, SeqAt.RcNeAt.none_none⟩
        | bl b => cases e; exact ⟨SeqAt.RcAt.none_bool b, SeqAt.RcNeAt.none_bool b⟩
        | int b t => cases e; exact ⟨SeqAt.RcAt.none_int b t, SeqAt.RcNeAt.none_int b t⟩
        | str b t zb => cases e; exact ⟨SeqAt.RcAt.none_str _ t, SeqAt.RcNeAt.none_str _ t⟩
        | lst h2 _ _ => cases e; exact ⟨SeqAt.RcAt.none_list (isList_of h2) hA, SeqAt.RcNeAt.none_list (isList_of h2) hA⟩
        | tup h2 c2 d2 _ _ => cases e; exact ⟨SeqAt.RcAt.none_tuple (isTuple_of h2 c2 d2) hA, SeqAt.RcNeAt.none_tuple (isTuple_of h2 c2 d2) hA⟩
      | bl a =>
        cases k2 with
        | non => cases e; exact ⟨SeqAt.RcAt.bool_none a, SeqAt.RcNeAt.bool_none a⟩
        | bl b => cases e; exact ⟨SeqAt.RcAt.bool_bool a b, SeqAt.RcNeAt.bool_bool a b⟩
        | int b t => cases e; exact ⟨SeqAt.RcAt.bool_int a b t, SeqAt.RcNeAt.bool_int a b t⟩
        | str b t zb => cases e; exact ⟨SeqAt.RcAt.bool_str a _ t, SeqAt.RcNeAt.bool_str a _ t⟩
        | lst h2 _ _ => cases e; exact ⟨SeqAt.RcAt.bool_list a (isList_of h2) hA, SeqAt.RcNeAt.bool_list a (isList_of h2) hA⟩
        | tup h2 c2 d2 _ _ => cases e; exact ⟨SeqAt.RcAt.bool_tuple a (isTuple_of h2 c2 d2) hA, SeqAt.RcNeAt.bool_tuple a (isTuple_of h2 c2 d2) hA⟩
      | int a t1 =>
        cases k2 with
        | non => cases e; exact ⟨SeqAt.RcAt.int_none a t1, SeqAt.RcNeAt.int_none a t1⟩
        | bl b => cases e; exact ⟨SeqAt.RcAt.int_bool a t1 b, SeqAt.RcNeAt.int_bool a t1 b⟩
        | int b t => cases e; exact ⟨SeqAt.RcAt.int_int a t1 b t, SeqAt.RcNeAt.int_int a t1 b t⟩
        | str b t zb => cases e; exact ⟨SeqAt.RcAt.int_str a t1 _ t, SeqAt.RcNeAt.int_str a t1 _ t⟩
        | lst h2 _ _ => cases e; exact ⟨SeqAt.RcAt.int_list a t1 (isList_of h2) hA, SeqAt.RcNeAt.int_list a t1 (isList_of h2) hA⟩
        | tup h2 c2 d2 _ _ => cases e; exact ⟨SeqAt.RcAt.int_tuple a t1 (isTuple_of h2 c2 d2) hA, SeqAt.RcNeAt.int_tuple a t1 (isTuple_of h2 c2 d2) hA⟩
      | str a t1 za =>
        cases k2 with
        | non => cases e; exact ⟨SeqAt.RcAt.str_none _ t1, SeqAt.RcNeAt.str_none _ t1⟩
        | bl b => cases e; exact ⟨SeqAt.RcAt.str_bool _ t1 b, SeqAt.RcNeAt.str_bool _ t1 b⟩
        | int b t => cases e; exact ⟨SeqAt.RcAt.str_int _ t1 b t, SeqAt.RcNeAt.str_int _ t1 b t⟩
        | str b t zb =>
          have e' := Option.some.inj e
          rw [← e', ← str_eq]
          exact ⟨SeqAt.RcAt.str_str _ t1 _ t, SeqAt.RcNeAt.str_str _ t1 _ t⟩
        | lst h2 _ _ => cases e; exact ⟨SeqAt.RcAt.str_list _ t1 (isList_of h2) hA, SeqAt.RcNeAt.str_list _ t1 (isList_of h2) hA⟩
        | tup h2 c2 d2 _ _ => cases e; exact ⟨SeqAt.RcAt.str_tuple _ t1 (isTuple_of h2 c2 d2) hA, SeqAt.RcNeAt.str_tuple _ t1 (isTuple_of h2 c2 d2) hA⟩
      | @lst da _ us _ h1 z1 g1 =>
        cases k2 with
        | non => cases e; exact ⟨SeqAt.RcAt.list_none (isList_of h1) hA, SeqAt.RcNeAt.list_none (isList_of h1) hA⟩
        | bl b => cases e; exact ⟨SeqAt.RcAt.list_bool b (isList_of h1) hA, SeqAt.RcNeAt.list_bool b (isList_of h1) hA⟩
        | int b t => cases e; exact ⟨SeqAt.RcAt.list_int b t (isList_of h1) hA, SeqAt.RcNeAt.list_int b t (isList_of h1) hA⟩
        | str b t zb => cases e; exact ⟨SeqAt.RcAt.list_str _ t (isList_of h1) hA, SeqAt.RcNeAt.list_str _ t (isList_of h1) hA⟩
        | @lst db _ ws _ h2 z2 g2 =>
          have e' : eqL (eqF n) da db = some p := e
          have l1 := g1.length
          have l2 := g2.length
          by_cases hl : us.length = ws.length
          · have hz : us.toArray.size = ws.toArray.size := by rw [List.size_toArray, List.size_toArray]; exact hl
            have ep : p = (List.range us.toArray.size).all (eqE (eqF n) da db) := by
              rw [eqL_all e', List.size_toArray, show min da.length db.length = us.length by omega, beq_iff_eq.mpr (show da.length = db.length by omega), Bool.and_true]
            rw [ep]
            exact ⟨SeqAt.RcAt.lists (isList_of h1) (isList_of h2) hz hA (item _ _ _ _ _ g1 g2 e'), SeqAt.RcNeAt.lists (isList_of h1) (isList_of h2) hz hA (item _ _ _ _ _ g1 g2 e')⟩
          · have hz : (us.toArray.size != ws.toArray.size) = true := by rw [List.size_toArray, List.size_toArray]; simpa using hl
            have := eqL_len e' (by omega)
            subst this
            exact ⟨SeqAt.RcAt.lists_lengths (isList_of h1) (isList_of h2) hz hA, SeqAt.RcNeAt.lists_lengths (isList_of h1) (isList_of h2) hz hA⟩
        | tup h2 c2 d2 _ _ => cases e; exact ⟨SeqAt.RcAt.list_tuple (isList_of h1) (isTuple_of h2 c2 d2) hA, SeqAt.RcNeAt.list_tuple (isList_of h1) (isTuple_of h2 c2 d2) hA⟩
      | @tup da _ us _ _ h1 c1 d1 z1 g1 =>
        cases k2 with
        | non => cases e; exact ⟨SeqAt.RcAt.tuple_none (isTuple_of h1 c1 d1) hA, SeqAt.RcNeAt.tuple_none (isTuple_of h1 c1 d1) hA⟩
        | bl b => cases e; exact ⟨SeqAt.RcAt.tuple_bool b (isTuple_of h1 c1 d1) hA, SeqAt.RcNeAt.tuple_bool b (isTuple_of h1 c1 d1) hA⟩
        | int b t => cases e; exact ⟨SeqAt.RcAt.tuple_int b t (isTuple_of h1 c1 d1) hA, SeqAt.RcNeAt.tuple_int b t (isTuple_of h1 c1 d1) hA⟩
        | str b t zb => cases e; exact ⟨SeqAt.RcAt.tuple_str _ t (isTuple_of h1 c1 d1) hA, SeqAt.RcNeAt.tuple_str _ t (isTuple_of h1 c1 d1) hA⟩
        | lst h2 _ _ => cases e; exact ⟨SeqAt.RcAt.tuple_list (isTuple_of h1 c1 d1) (isList_of h2) hA, SeqAt.RcNeAt.tuple_list (isTuple_of h1 c1 d1) (isList_of h2) hA⟩
        | @tup db _ ws _ _ h2 c2 d2 z2 g2 =>
          have e' : eqL (eqF n) da db = some p := e
          have ep : p = ((List.range (min us.toArray.size ws.toArray.size)).all (eqE (eqF n) da db) && us.toArray.size == ws.toArray.size) := by
            rw [eqL_all e', List.size_toArray, List.size_toArray, g1.length, g2.length]
          rw [ep]
          exact ⟨SeqAt.RcAt.tuples (isTuple_of h1 c1 d1) (isTuple_of h2 c2 d2) hA (item _ _ _ _ _ g1 g2 e'), SeqAt.RcNeAt.tuples (isTuple_of h1 c1 d1) (isTuple_of h2 c2 d2) hA (item _ _ _ _ _ g1 g2 e')⟩
    · cases e
theorem op_eq (hu : X.A.units + 64 < cLine) : OpD X T (compareOp .Eq) pEq := fun pins s G ρ st u v x y d E I r1 r2 e => by
  obtain ⟨b, e1, e2⟩ := Option.map_eq_some_iff.mp e
  subst e2
  exact (rc_at I 50 (A := X.A) (by omega) r1 r2 e1).1 _ _ _ _ (ok_bl I rfl)
theorem op_ne (hu : X.A.units + 64 < cLine) : OpD X T (compareOp .NotEq) pNe := fun pins s G ρ st u v x y d E I r1 r2 e => by
  obtain ⟨b, e1, e2⟩ := Option.map_eq_some_iff.mp e
  subst e2
  exact (rc_at I 50 (A := X.A) (by omega) r1 r2 e1).2 _ _ _ _ (ok_bl I rfl)
end
end DL
namespace DL
open PySem PySem.Spec PyProof.Rows L2

/-! ### operators, by values -/
def repL {α : Type} (n : Nat) (a : List α) : List α := (List.replicate n a).flatten
/-- a text behind a text -/
def catT (x y : D) : Option D := match txt x, txt y with
  | some a, some b => if a = [] then some y else if b = [] then some x else if a.length + b.length ≤ 16777216 then some (.str (a ++ b)) else none
  | _, _ => none
def pAdd : Store → D → D → Option D := fun _ x y => match x.vw, y.vw with
  | some (.int i), some (.int j) => some (.int (i + j))
  | some (.str _), some (.str _) => catT x y
  | some (.tup a), some (.tup b) => if a.length + b.length ≤ 16777216 then some (.tup (a ++ b)) else none
  | some (.lst a), some (.lst b) => if a.length + b.length ≤ 16777216 then some (.new (a ++ b)) else none
  | _, _ => none
def pSub : Store → D → D → Option D := fun _ x y => match x, y with
  | .int i, .int j => some (.int (i - j))
  | _, _ => none
def mulT (x : D) (l : List Nat) (k : Int) : Option D :=
  if k ≤ 0 then (if -1000000000 ≤ k then some (.str []) else none) else if k = 1 ∨ l = [] then (if k ≤ 1000000000 then some x else none) else if l.length ≤ 1000 ∧ k ≤ 16000 then some (.str (repL k.toNat l)) else none
def pMul : Store → D → D → Option D := fun _ x y => match x.vw, y with
  | some (.int i), .int j => if (-(2 ^ 64) < i ∧ i < 2 ^ 64) ∨ (-(2 ^ 64) < j ∧ j < 2 ^ 64) then some (.int (i * j)) else none
  | some (.str l), .int k => mulT x l k
  | some (.tup l), .int k => if l ≠ [] ∧ 2 ≤ k ∧ k ≤ 1000 ∧ l.length ≤ 1000 then some (.tup (repL k.toNat l)) else none
  | some (.lst l), .int k => if 0 ≤ k ∧ k ≤ 1000 ∧ l.length ≤ 1000 then some (.new (repL k.toNat l)) else none
  | _, _ => none
def pFdiv : Store → D → D → Option D := fun _ x y => match x, y with
  | .int i, .int j => if 0 < j ∧ j < 1073741824 then some (.int (i / j)) else none
  | _, _ => none
def pMod : Store → D → D → Option D := fun _ x y => match x, y with
  | .int i, .int j => if 0 < j then some (.int (i % j)) else none
  | _, _ => none
def pPow : Store → D → D → Option D := fun _ x y => match x, y with
  | .int i, .int j => if 0 ≤ j ∧ j ≤ 1000 ∧ i.natAbs ≤ 1000 then some (.int (i ^ j.toNat)) else none
  | _, _ => none
def pCmp (f : Int → Int → Bool) : Store → D → D → Option D := fun _ x y => match x, y with
  | .int i, .int j => some (.bl (f i j))
  | _, _ => none
def isNon : D → Bool
  | .non => true
  | _ => false
def pIs : Store → D → D → Option D := fun _ x y => match x, y with
  | x, .non => some (.bl (isNon x))
  | .bl a, .bl b => some (.bl (a == b))
  | .non, .bl _ => some (.bl false)
  | _, _ => none
def pIsNot : Store → D → D → Option D := fun st x y => (pIs st x y).bind fun d => match d with
  | .bl b => some (.bl (!b))
  | _ => none
/-- a text within a text -/
def subIn (a b : List Nat) : Bool := !(Builtin.Str.occurrences (S b) (S a) 0 (S b).length 1).isEmpty
theorem subIn_one (c : Nat) (b : List Nat) : subIn [c] b = decide (c ∈ b) := SX.in_one b c
def inL (f : D → D → Option Bool) : List D → D → Option Bool
  | [], _ => some false
  | d :: ds, x => match f d x, inL f ds x with
    | some p, some q => some (p || q)
    | _, _ => none
def inV (x y : D) : Option Bool := match y.vw with
  | some (.str b) => (txt x).map fun a => subIn a b
  | some (.lst ds) => inL (eqF 50) ds x
  | some (.tup ds) => inL (eqF 50) ds x
  | _ => none
def pIn : Store → D → D → Option D := fun _ x y => (inV x y).map .bl
def pNotIn : Store → D → D → Option D := fun _ x y => (inV x y).map fun b => .bl (!b)

theorem foldl_cat {α : Type} (its : List α) : ∀ (k : Nat) (acc : List α), List.foldl (fun x1 x2 => x1 ++ x2) acc.toArray (List.replicate k its.toArray) = (acc ++ repL k its).toArray
  | 0, acc => by simp [repL]
  | k + 1, acc => by
    have e : acc.toArray ++ its.toArray = (acc ++ its).toArray := by simp
    rw [List.replicate_succ, List.foldl_cons, e, foldl_cat its k (acc ++ its)]
    simp [repL, List.replicate_succ, List.append_assoc]
theorem len_repL {α : Type} (k : Nat) (l : List α) : (repL k l).length = k * l.length := by
  unfold repL
  induction k with
  | zero => simp
  | succ k ih => rw [List.replicate_succ, List.flatten_cons, List.length_append, ih, Nat.succ_mul, Nat.add_comm]
section
variable {X : Cx} {T : Fx} {pins : List (Addr × Obj)} {G G1 : Gh} {ρ : Env_} {st st1 : Store} {s s1 : Shared}
theorem reps_rep {T : Tx} {G : Gh} {n : Nat} {ds : List D} {us : List Value} (h : Reps T G n ds us) : ∀ k, Reps T G n (repL k ds) (repL k us)
  | 0 => rfl
  | k + 1 => by
    have := h.append (reps_rep h k)
    simpa [repL, List.replicate_succ] using this
theorem txt_view {x : D} {u : Value} {l : List Nat} (r : Rep T.T G s.toks x u) (e : txt x = some l) : ∃ t, u = .str (S l) t ∧ l.length ≤ sizeLine := by
  cases x with
  | str l' => cases e; obtain ⟨t, h, _, _, z⟩ := r; exact ⟨t, h, z⟩
  | cst l' => cases e; obtain ⟨t, h, _, _, z⟩ := r; exact ⟨t, h, z⟩
  | ust l' => cases e; obtain ⟨t, h, z⟩ := r; exact ⟨t, h, z⟩
  | _ => cases e
theorem txt_notNew {x : D} {l : List Nat} (e : txt x = some l) : notNew x = true := by
  cases x <;> first | rfl | cases e
theorem S_empty {l : List Nat} : ((S l).length == 0) = decide (l = []) := by
  cases l <;> simp [Str.length]
/-- a text as it is -/
theorem ok_txt {x : D} {l : List Nat} {u : Value} (I : InvD X T pins G ρ st s) (r : Rep T.T G s.toks x u) (e : txt x = some l) : OkP X T pins G ρ (.ok x st) u s := ok_same I r (txt_notNew e)
theorem op_add : OpD X T (binaryOp .Add) pAdd := fun pins s G ρ st u v x y d E I r1 r2 e => by
  unfold pAdd at e
  split at e
  · next i j e1 e2 =>
    cases e
    cases I.view r1 e1
    cases I.view r2 e2
    exact add_int (ok_int I (Nat.le_succ _))
  · next e1 e2 =>
    unfold catT at e
    split at e
    · next a b ea eb =>
      obtain ⟨t, rfl, za⟩ := txt_view r1 ea
      obtain ⟨t', rfl, zb⟩ := txt_view r2 eb
      refine PySem.P.add_str ?_
      rw [S_empty, S_empty]
      by_cases ha : a = []
      · rw [if_pos ha] at e
        cases e
        rw [if_pos (decide_eq_true ha)]
        exact ok_txt I r2 eb
      · rw [if_neg ha] at e
        rw [if_neg (fun z => ha (of_decide_eq_true z))]
        by_cases hb : b = []
        · rw [if_pos hb] at e
          cases e
          rw [if_pos (decide_eq_true hb)]
          exact ok_txt I r1 ea
        · rw [if_neg hb] at e
          rw [if_neg (fun z => hb (of_decide_eq_true z))]
          by_cases hz : a.length + b.length ≤ 16777216
          · rw [if_pos hz] at e
            cases e
            rw [SX.S_cat]
            have z : (a ++ b).length ≤ sizeLine := by rw [sizeLine_eq, List.length_append]; exact hz
            exact ⟨by rw [SX.S_len]; exact z, ok_str I rfl z (Nat.lt_succ_self _)⟩
          · rw [if_neg hz] at e
            cases e
    · cases e
  · next a b e1 e2 =>
    split at e
    · next hz =>
      cases e
      have k1 := I.view r1 e1
      have k2 := I.view r2 e2
      cases k1 with
      | @tup _ l1 us _ o1 h1 c1 d1 z1 g1 =>
        cases k2 with
        | @tup _ l2 ws _ o2 h2 c2 d2 z2 g2 =>
          have p1 : IsTup s.heap l1 us.toArray := ⟨_, h1, c1, _, d1⟩
          have p2 : IsTup s.heap l2 ws.toArray := ⟨_, h2, c2, _, d2⟩
          have hl := g1.length
          have hl2 := g2.length
          by_cases hu : us = []
          · subst hu
            have ha : a = [] := List.eq_nil_of_length_eq_zero hl
            subst ha
            refine cat_tup0 p1 p2 ⟨_, st, G, rfl, Ext.refl G, I, ?_, NewOk.of rfl⟩
            cases y with
            | tup l => cases e2; exact r2
            | _ => cases e2
          · refine HT.cat_tup p1 p2 hu (fun hw => ?_) (fun hw => ?_) (by rw [sizeLine_eq]; omega)
            · subst hw
              have hb : b = [] := List.eq_nil_of_length_eq_zero hl2
              subst hb
              rw [List.append_nil]
              cases x with
              | tup l => cases e1; exact ⟨_, st, G, rfl, Ext.refl G, I, r1, NewOk.of rfl⟩
              | _ => cases e1
            · exact ok_tup (t' := s.toks) I (g1.append g2) (by rw [sizeLine_eq, List.length_append]; omega) (Nat.le_refl _)
    · cases e
  · next a b e1 e2 =>
    split at e
    · next hz =>
      cases e
      have k1 := I.view r1 e1
      have k2 := I.view r2 e2
      cases k1 with
      | @lst _ l1 us _ h1 z1 g1 =>
        cases k2 with
        | @lst _ l2 ws _ h2 z2 g2 =>
          have hl := g1.length
          have hl2 := g2.length
          refine PySem.P.add_list h1 h2 ?_ (by rw [List.size_toArray, List.size_toArray, sizeLine_eq]; omega)
          have ea : us.toArray ++ ws.toArray = (us ++ ws).toArray := by simp
          rw [ea]
          exact ok_new (t' := s.toks) I (g1.append g2) (by rw [sizeLine_eq, List.length_append]; omega) (Nat.le_refl _)
    · cases e
  · cases e
theorem op_sub : OpD X T (binaryOp .Sub) pSub := fun pins s G ρ st u v x y d E I r1 r2 e => by
  unfold pSub at e
  split at e
  · obtain ⟨t, rfl⟩ := r1
    obtain ⟨t', rfl⟩ := r2
    cases e
    exact sub_int (ok_int I (Nat.le_succ _))
  · cases e
theorem op_fdiv : OpD X T (binaryOp .FloorDiv) pFdiv := fun pins s G ρ st u v x y d E I r1 r2 e => by
  unfold pFdiv at e
  split at e
  · next i j =>
    obtain ⟨t, rfl⟩ := r1
    obtain ⟨t', rfl⟩ := r2
    split at e
    · next h =>
      cases e
      refine floordiv_int (by omega) ?_ (.inl (PyProof.noPylong_small (by omega)))
      rw [Int.fdiv_eq_ediv_of_nonneg i (by omega)]
      exact ok_int I (Nat.le_succ _)
    · cases e
  · cases e
theorem op_mod : OpD X T (binaryOp .Mod) pMod := fun pins s G ρ st u v x y d E I r1 r2 e => by
  unfold pMod at e
  split at e
  · next i j =>
    obtain ⟨t, rfl⟩ := r1
    obtain ⟨t', rfl⟩ := r2
    split at e
    · next h =>
      cases e
      refine mod_int' (by omega) ?_
      rw [Int.fmod_eq_emod_of_nonneg i (by omega)]
      exact ok_int I (Nat.le_succ _)
    · cases e
  · cases e
theorem op_pow : OpD X T (binaryOp .Pow) pPow := fun pins s G ρ st u v x y d E I r1 r2 e => by
  unfold pPow at e
  split at e
  · next i j =>
    obtain ⟨t, rfl⟩ := r1
    obtain ⟨t', rfl⟩ := r2
    split at e
    · next h =>
      cases e
      exact pow_int_small h.1 (by omega) (by omega) (ok_int I (Nat.le_succ _))
    · cases e
  · cases e
theorem op_cmp {op : CmpOp} {f : Int → Int → Bool} (rule : ∀ (i j : Int) (t u : Tok) (Q : Value → Shared → Prop) (E : Value → Shared → Prop) (s : Shared), Q (.bool (f i j)) s → wpAny (model X.prog X.w) X.A (compareOp op (.int i t) (.int j u)) Q E s) : OpD X T (compareOp op) (pCmp f) :=
  fun pins s G ρ st u v x y d E I r1 r2 e => by
  unfold pCmp at e
  split at e
  · obtain ⟨t, rfl⟩ := r1
    obtain ⟨t', rfl⟩ := r2
    cases e
    exact rule _ _ _ _ _ _ _ (ok_bl I rfl)
  · cases e
theorem op_lt : OpD X T (compareOp .Lt) (pCmp fun i j => decide (i < j)) := op_cmp fun _ _ _ _ _ _ _ h => lt_int h
theorem op_le : OpD X T (compareOp .LtE) (pCmp fun i j => decide (i ≤ j)) := op_cmp fun _ _ _ _ _ _ _ h => le_int h
theorem op_gt : OpD X T (compareOp .Gt) (pCmp fun i j => decide (j < i)) := op_cmp fun _ _ _ _ _ _ _ h => gt_int h
theorem op_ge : OpD X T (compareOp .GtE) (pCmp fun i j => decide (j ≤ i)) := op_cmp fun _ _ _ _ _ _ _ h => ge_int h
theorem isNon_ok {x : D} {u : Value} (r : Rep T.T G s.toks x u) : (u == Value.none) = isNon x := by
  cases x with
  | non => cases (show u = .none from r); rfl
  | bl b => cases (show u = .bool b from r); rfl
  | int i => obtain ⟨t, rfl⟩ := (show ∃ t, u = .int i t from r); rfl
  | str l => obtain ⟨t, rfl, _⟩ := r; rfl
  | cst l => obtain ⟨t, rfl, _⟩ := r; rfl
  | ust l => obtain ⟨t, rfl, _⟩ := r; rfl
  | tup l => obtain ⟨a, o, us, rfl, _⟩ := r; rfl
  | lst l => obtain ⟨a, o, us, rfl, _⟩ := r; rfl
  | new l => obtain ⟨a, o, us, rfl, _⟩ := r; rfl
  | own i l => obtain ⟨a, o, us, rfl, _⟩ := r; rfl
  | scr ns => obtain ⟨a, o, us, rfl, _⟩ := r; rfl
  | ref k => obtain ⟨a, rfl, _⟩ := r; rfl
  | fn x => obtain ⟨a, rfl, _⟩ := r; rfl
  | adr a => cases (show u = .ref a from r); rfl
  | dic l => obtain ⟨a, o, rfl, _⟩ := r; rfl
theorem op_is : OpD X T (compareOp .Is) pIs ∧ OpD X T (compareOp .IsNot) pIsNot := by
  have bb : ∀ (a b : Bool) (E : Value → Shared → Prop) (Q : Value → Shared → Prop) (s : Shared), Q (.bool (a == b)) s → wpAny (model X.prog X.w) X.A (compareOp .Is (.bool a) (.bool b)) Q E s := fun a b E Q s h => by
    cases a <;> cases b <;> exact fun _ _ _ => h
  have bn : ∀ (a b : Bool) (E : Value → Shared → Prop) (Q : Value → Shared → Prop) (s : Shared), Q (.bool (!(a == b))) s → wpAny (model X.prog X.w) X.A (compareOp .IsNot (.bool a) (.bool b)) Q E s := fun a b E Q s h => by
    cases a <;> cases b <;> exact fun _ _ _ => h
  have nb : ∀ (b : Bool) (E : Value → Shared → Prop) (Q : Value → Shared → Prop) (s : Shared), Q (.bool false) s → wpAny (model X.prog X.w) X.A (compareOp .Is .none (.bool b)) Q E s := fun b E Q s h => fun _ _ _ => h
  have nn : ∀ (b : Bool) (E : Value → Shared → Prop) (Q : Value → Shared → Prop) (s : Shared), Q (.bool true) s → wpAny (model X.prog X.w) X.A (compareOp .IsNot .none (.bool b)) Q E s := fun b E Q s h => fun _ _ _ => h
  refine ⟨fun pins s G ρ st u v x y d E I r1 r2 e => ?_, fun pins s G ρ st u v x y d E I r1 r2 e => ?_⟩
  · unfold pIs at e
    split at e
    · cases e
      cases (show v = .none from r2)
      exact is_none_gen (ok_bl I (isNon_ok r1).symm)
    · cases e
      cases (show u = _ from r1)
      cases (show v = _ from r2)
      exact bb _ _ _ _ _ (ok_bl I rfl)
    · cases e
      cases (show u = _ from r1)
      cases (show v = _ from r2)
      exact nb _ _ _ _ (ok_bl I rfl)
    · cases e
  · unfold pIsNot pIs at e
    split at e
    · cases e
      cases (show v = .none from r2)
      exact isnot_none_gen (ok_bl I (by rw [isNon_ok r1]))
    · cases e
      cases (show u = _ from r1)
      cases (show v = _ from r2)
      exact bn _ _ _ _ _ (ok_bl I rfl)
    · cases e
      cases (show u = _ from r1)
      cases (show v = _ from r2)
      exact nn _ _ _ _ (ok_bl I rfl)
    · cases e
end
end DL
namespace DL
open PySem PySem.Spec PyProof.Rows L2
section
variable {X : Cx} {T : Fx} {pins : List (Addr × Obj)} {G G1 : Gh} {ρ : Env_} {st st1 : Store} {s s1 : Shared}
theorem fold_S (l : List Nat) (k : Nat) : (⟨(List.replicate k (S l).cps).foldl (· ++ ·) #[]⟩ : Str) = S (repL k l) := by
  have h := foldl_cat l k []
  rw [List.nil_append] at h
  show (⟨_⟩ : Str) = ⟨_⟩
  exact congrArg Str.mk h
theorem op_mul : OpD X T (binaryOp .Mult) pMul := fun pins s G ρ st u v x y d E I r1 r2 e => by
  have z0 := sizeLine_eq
  unfold pMul at e
  split at e
  · next i j e1 =>
    have k1 := I.view r1 e1
    cases k1
    obtain ⟨t', rfl⟩ := r2
    split at e
    · next h =>
      cases e
      exact mul_int (ok_int I (Nat.le_succ _)) (show IntMulOk _ _ from by
        rcases h with ⟨h1, h2⟩ | ⟨h1, h2⟩
        · exact .of_left (intBits_le_64 h1 h2)
        · exact .of_right (intBits_le_64 h1 h2))
    · cases e
  · next l k e1 =>
    obtain ⟨t', rfl⟩ := r2
    have k1 := I.view r1 e1
    have ht : txt x = some l := by
      cases x with
      | str _ => cases e1; rfl
      | cst _ => cases e1; rfl
      | ust _ => cases e1; rfl
      | _ => cases e1
    cases k1 with
    | str l t z =>
    unfold mulT at e
    split at e
    · next h0 =>
      split at e
      · next h1 =>
        cases e
        exact PySem.P.mul_str_none (by omega) (by omega) (ok_str (l := []) I rfl (Nat.zero_le _) (Nat.lt_succ_self _))
      · cases e
    · next h0 =>
      have hr : (decide (k < -(2 ^ 63 : Int)) || decide (k ≥ 2 ^ 63)) = false ∨ ¬ k < 2 ^ 63 := by
        by_cases hk : k < 2 ^ 63
        · left; rw [decide_eq_false (by omega), decide_eq_false (by omega)]; rfl
        · exact .inr hk
      split at e
      · next h1 =>
        split at e
        · next h2 =>
          cases e
          have hr' : (decide (k < -(2 ^ 63 : Int)) || decide (k ≥ 2 ^ 63)) = false := by rcases hr with h | h; exact h; omega
          have hc : (k == 1 || (S l).length == 0) = true := by
            rw [S_empty]
            rcases h1 with h | h
            · rw [h]; rfl
            · rw [h]; simp
          refine PySem.P.mul_str hr' (fun _ q => ?_) (fun _ q => ?_) ?_
          · rw [hc] at q; cases q
          · rw [hc] at q; cases q
          · rw [if_neg (by omega), if_pos hc]
            exact ok_txt I r1 ht
        · cases e
      · next h1 =>
        split at e
        · next h2 =>
          cases e
          have hr' : (decide (k < -(2 ^ 63 : Int)) || decide (k ≥ 2 ^ 63)) = false := by rcases hr with h | h; exact h; omega
          have hc : (k == 1 || (S l).length == 0) = false := by
            rw [S_empty, beq_eq_false_iff_ne.mpr (fun q => h1 (.inl q)), decide_eq_false (fun q => h1 (.inr q))]; rfl
          have hlen : (repL k.toNat l).length ≤ sizeLine := by
            rw [len_repL, z0]
            have : k.toNat * l.length ≤ 16000 * 1000 := Nat.mul_le_mul (by omega) h2.1
            omega
          have hL : (S l).length = l.length := SX.S_len l
          refine PySem.P.mul_str hr' (fun _ _ => ?_) (fun _ _ => ?_) ?_
          · have h3 : (2 : Int) ^ 63 - 1 = 9223372036854775807 := by decide
            have h4 : ((S l).length : Int) ≤ 1000 := by omega
            have h5 : (576460752303423 : Int) ≤ (2 ^ 63 - 1) / k := by
              rw [h3, Int.le_ediv_iff_mul_le (by omega)]
              have : 576460752303423 * k ≤ 576460752303423 * 16000 := Int.mul_le_mul_of_nonneg_left h2.2 (by omega)
              omega
            omega
          · unfold Builtin.Str.tooLong
            rw [hL]
            have : l.length * k.toNat ≤ 1000 * 16000 := Nat.mul_le_mul h2.1 (by omega)
            exact decide_eq_false (by omega)
          · rw [if_neg (by omega), if_neg (by rw [hc]; exact Bool.false_ne_true), fold_S]
            exact ⟨by rw [SX.S_len]; exact hlen, ok_str I rfl hlen (Nat.lt_succ_self _)⟩
        · cases e
  · next l k e1 =>
    obtain ⟨t', rfl⟩ := r2
    have k1 := I.view r1 e1
    split at e
    · next h =>
      obtain ⟨hne, h1, h2, h3⟩ := h
      cases e
      cases k1 with
      | @tup _ a us n o ho hc hd z g =>
      obtain ⟨cls, dd, data, sl⟩ := o
      simp only at hc hd
      subst hc hd
      have hl := g.length
      have hi : us.toArray.isEmpty = false := by
        cases us with
        | nil => exact absurd (List.eq_nil_of_length_eq_zero hl) hne
        | cons _ _ => rfl
      have hz0 : us.toArray.size = l.length := by rw [List.size_toArray, hl]
      have hm : ((us.toArray.size : Nat) : Int) * k ≤ 1000000 := by
        rw [hz0]
        have a1 : ((l.length : Nat) : Int) * k ≤ 1000 * k := Int.mul_le_mul_of_nonneg_right (by omega) (by omega)
        omega
      have hf : (repL k.toNat us).length ≤ sizeLine := by
        rw [len_repL, ← hl, z0]
        have a1 : k.toNat * l.length ≤ 1000 * 1000 := Nat.mul_le_mul (by omega) h3
        omega
      have ef : List.foldl (fun x1 x2 => x1 ++ x2) #[] (List.replicate k.toNat us.toArray) = (repL k.toNat us).toArray := by
        have := foldl_cat us k.toNat []
        rwa [List.nil_append] at this
      have c0 : (decide (k < -(2 ^ 63)) || decide (k ≥ 2 ^ 63)) = false := by rw [decide_eq_false (by omega), decide_eq_false (by omega)]; rfl
      have c1 : (us.toArray.isEmpty || k == 1) = false := by rw [hi, Bool.false_or]; exact beq_eq_false_iff_ne.mpr (by omega)
      have c2 : (decide (k ≤ 0) || us.toArray.isEmpty) = false := by rw [hi, Bool.or_false]; exact decide_eq_false (by omega)
      have c4 : Builtin.Tuple.tupleTooMany (((us.toArray.size : Nat) : Int) * k) = false := by
        unfold Builtin.Tuple.tupleTooMany
        exact decide_eq_false (by omega)
      have tm := tuple_mulW a us.toArray n dd sl k t' c0 c1 c2 (by omega) c4 (by rw [ef, List.size_toArray]; exact hf)
      rw [ef] at tm
      have rm := int_rmul_tuple k t' a us.toArray n dd sl
      refine wpAny_binaryOp_repeat_ref (T := "tuple") (U := "int") (by decide) ⟨_, ho, rfl⟩ (fun s2 => typeIs_int s2 k t')
        noFill_tuple_mul F.fills_int_mul F.slot_int_rmul repeat_tuple F.slot_int_index.lookup ?_
      refine call_meets F.slot_int_rmul (typeIs_int s k t') F.entry_int_rmul (F.args_int_rmul_2 _ _) rm ⟨ho, rfl, ⟨_, ho, rfl⟩, ?_⟩
      refine call_meets F.slot_tuple_mul ⟨_, ho, rfl⟩ F.entry_tuple_mul (F.args_tuple_mul_2 _ _) tm ⟨ho, ?_⟩
      exact ok_tup (t' := s.toks) I (reps_rep g k.toNat) hf (Nat.le_refl _)
    · cases e
  · next l k e1 =>
    obtain ⟨t', rfl⟩ := r2
    have k1 := I.view r1 e1
    split at e
    · next h =>
      obtain ⟨h1, h2, h3⟩ := h
      cases e
      cases k1 with
      | @lst _ a us n ho z g =>
      have hl := g.length
      have hf : (repL k.toNat us).length ≤ sizeLine := by
        rw [len_repL, ← hl, z0]
        have a1 : k.toNat * l.length ≤ 1000 * 1000 := Nat.mul_le_mul (by omega) h3
        omega
      have hs : us.toArray.size * k.toNat ≤ 1000000 := by
        rw [List.size_toArray, ← hl]
        exact Nat.mul_le_mul h3 (show k.toNat ≤ 1000 by omega)
      have ef : List.foldl (fun x1 x2 => x1 ++ x2) #[] (List.replicate (if us.toArray.isEmpty = true then 0 else k.toNat) us.toArray) = (repL k.toNat us).toArray := by
        have := foldl_cat us (if us.toArray.isEmpty = true then 0 else k.toNat) []
        rw [List.nil_append] at this
        rw [this]
        cases us with
        | nil => simp [repL]
        | cons _ _ => rw [if_neg (by simp)]
      have lm := AutoListH.list___mul___list_int_3 a us.toArray n k t' (by rw [fitsIndex_both (by omega) (by omega)]; exact Bool.false_ne_true) (show ¬ us.toArray.size * k.toNat > (2 ^ 63 - 1) / 8 by omega)
        (by rw [notLongL (show us.toArray.size * k.toNat ≤ sizeLine by omega)]; exact Bool.false_ne_true)
      rw [ef] at lm
      have rm := int___rmul___int_list k t' a us.toArray n
      refine wpAny_binaryOp_repeat_ref (T := "list") (U := "int") (by decide) ⟨_, ho, rfl⟩ (fun s2 => typeIs_int s2 k t')
        noFill_list_mul F.fills_int_mul F.slot_int_rmul repeat_list F.slot_int_index.lookup ?_
      refine call_meets F.slot_int_rmul (typeIs_int s k t') F.entry_int_rmul (F.args_int_rmul_2 _ _) rm ⟨ho, rfl, ⟨_, ho, rfl⟩, ?_⟩
      refine call_meets F.slot_list_mul ⟨_, ho, rfl⟩ F.entry_list_mul (F.args_list_mul_2 _ _) lm ⟨ho, ?_⟩
      exact ok_new (t' := s.toks) I (reps_rep g k.toNat) hf (Nat.le_refl _)
    · cases e
  · cases e

/-! ### in -/
theorem eqF_cong (I : InvD X T pins G ρ st s) : ∀ (n : Nat) {x x' y : D} {u : Value} {p q : Bool}, Rep T.T G s.toks x u → Rep T.T G s.toks x' u → eqF n x y = some p → eqF n x' y = some q → p = q
  | 0, _, _, _, _, _, _, _, _, e, _ => by cases e
  | n + 1, x, x', y, u, p, q, r1, r2, e, e' => by
    unfold eqF at e e'
    split at e
    · next v w e1 e2 =>
      split at e'
      · next v' w' e3 e4 =>
        rw [e2] at e4
        cases e4
        have k1 := I.view r1 e1
        have k2 := I.view r2 e3
        have all : ∀ (a b c : List D) (us : List Value) (p q : Bool), Reps T.T G s.toks a us → Reps T.T G s.toks b us → eqL (eqF n) a c = some p → eqL (eqF n) b c = some q → p = q := by
          intro a
          induction a with
          | nil =>
            intro b c us p q h1 h2 h3 h4
            cases (show us = [] from h1)
            cases b with
            | nil => rw [h3] at h4; exact Option.some.inj h4
            | cons _ _ => obtain ⟨_, _, z, _⟩ := h2; cases z
          | cons a as ih =>
            intro b c us p q h1 h2 h3 h4
            obtain ⟨u1, us', z1, _, g1, g2⟩ := h1
            subst z1
            cases b with
            | nil => cases (show _ = [] from h2)
            | cons b bs =>
              obtain ⟨u2, us2, z2, _, g3, g4⟩ := h2
              injection z2 with z3 z4
              subst z3 z4
              cases c with
              | nil => exact (Option.some.inj h3).symm.trans (Option.some.inj h4)
              | cons c cs =>
                unfold eqL at h3 h4
                split at h3
                · next q1 q2 f1 f2 =>
                  split at h4
                  · next q3 q4 f3 f4 =>
                    have a1 := eqF_cong I n g1 g3 f1 f3
                    have a2 := ih _ _ _ _ _ g2 g4 f2 f4
                    subst a1 a2
                    exact (Option.some.inj h3).symm.trans (Option.some.inj h4)
                  · cases h4
                · cases h3
        cases k1 with
        | non => cases k2; rw [e] at e'; exact Option.some.inj e'
        | bl b => cases k2; rw [e] at e'; exact Option.some.inj e'
        | int i t => cases k2; rw [e] at e'; exact Option.some.inj e'
        | str l t zz =>
          generalize hz : S l = z at k2
          cases k2 with
          | str l2 t2 z2 =>
            have : l2 = l := (congrArg (fun x : Str => x.cps.toList) hz).symm
            subst this
            rw [e] at e'
            exact Option.some.inj e'
        | @lst ds a us k h1 z1 g1 =>
          cases k2 with
          | @lst ds2 _ us2 k2 h2 z2 g2 =>
            rw [h1] at h2
            have e4 := Option.some.inj h2
            injection e4 with _ _ e5
            injection e5 with e6
            have e7 : us = us2 := by simpa using e6
            subst e7
            cases w <;> first
              | exact (Option.some.inj e).symm.trans (Option.some.inj e')
              | exact all _ _ _ _ _ _ g1 g2 e e'
          | @tup ds2 _ us2 k2 o h2 c d z2 g2 =>
            rw [h1] at h2
            cases h2
            have c' : Value.type "list" = .type "tuple" := c
            injection c' with c'
            exact absurd c' (by decide)
        | @tup ds a us k o h1 c d z1 g1 =>
          cases k2 with
          | @lst ds2 _ us2 k2 h2 z2 g2 =>
            rw [h1] at h2
            cases h2
            have c' : Value.type "list" = .type "tuple" := c
            injection c' with c'
            exact absurd c' (by decide)
          | @tup ds2 _ us2 k2 o2 h2 c2 d2 z2 g2 =>
            rw [h1] at h2
            cases h2
            rw [d] at d2
            injection d2 with e6
            have e7 : us = us2 := by simpa using e6
            subst e7
            cases w <;> first
              | exact (Option.some.inj e).symm.trans (Option.some.inj e')
              | exact all _ _ _ _ _ _ g1 g2 e e'
      · cases e'
    · cases e
open Classical in
/-- the items' answers, by their values -/
noncomputable def eqAns (T : Tx) (G : Gh) (n : Nat) (x : D) (y : Value) : Bool := decide (∃ d, Rep T G n d y ∧ eqF 50 d x = some true)
open Classical in
theorem inL_any (I : InvD X T pins G ρ st s) {x : D} : ∀ {ds : List D} {us : List Value} {p : Bool}, Reps T.T G s.toks ds us → inL (eqF 50) ds x = some p → p = us.any (eqAns T.T G s.toks x) ∧ ∀ y ∈ us, ∃ d, Rep T.T G s.toks d y ∧ eqF 50 d x = some (eqAns T.T G s.toks x y)
  | [], us, p, r, e => by
    cases (show us = [] from r)
    exact ⟨(Option.some.inj e).symm, fun _ h => by simp at h⟩
  | d :: ds, _, p, ⟨u, us, h1, _, h2, h3⟩, e => by
    subst h1
    unfold inL at e
    split at e
    · next q1 q2 e1 e2 =>
      obtain ⟨i1, i2⟩ := inL_any I h3 e2
      have a1 : eqAns T.T G s.toks x u = q1 := by
        unfold eqAns
        cases q1 with
        | true => exact decide_eq_true ⟨d, h2, e1⟩
        | false => exact decide_eq_false fun ⟨d', g1, g2⟩ => absurd (eqF_cong I 50 h2 g1 e1 g2) Bool.false_ne_true
      refine ⟨?_, fun y hy => ?_⟩
      · rw [List.any_cons, a1, ← i1]
        exact (Option.some.inj e).symm
      · rcases List.mem_cons.mp hy with h | h
        · subst h
          exact ⟨d, h2, by rw [a1]; exact e1⟩
        · exact i2 y h
    · cases e
theorem in_run (I : InvD X T pins G ρ st s) {x y : D} {u v : Value} {b : Bool} {E : Value → Shared → Prop} (hu : X.A.units + 64 < cLine) (r1 : Rep T.T G s.toks x u) (r2 : Rep T.T G s.toks y v) (e : inV x y = some b) :
    (∀ Q : Value → Shared → Prop, Q (.bool b) s → wpAny (model X.prog X.w) X.A (compareOp .In u v) Q E s) ∧ ∀ Q : Value → Shared → Prop, Q (.bool (!b)) s → wpAny (model X.prog X.w) X.A (compareOp .NotIn u v) Q E s := by
  have at_ : ∀ {ds : List D} {us : List Value} {p : Bool}, Reps T.T G s.toks ds us → inL (eqF 50) ds x = some p → ∀ y, y ∈ us.toArray → SeqAt.EqAt X.A.in1 s y u (eqAns T.T G s.toks x y) := fun {ds us p} g e y hy => by
    obtain ⟨d, q1, q2⟩ := (inL_any I g e).2 y (by simpa using hy)
    obtain ⟨va, vb, ea, eb⟩ := eqF_vw q2
    refine eqAt_rc (I.view q1 ea) (I.view r1 eb) (rc_at I 50 (by show X.A.units + 1 + 50 < cLine; omega) q1 r1 q2).1 fun z => ?_
    subst z
    exact eqF_same I 50 q1 r1 q2
  unfold inV at e
  split at e
  · next l ey =>
    obtain ⟨a, ea, eb⟩ := Option.map_eq_some_iff.mp e
    obtain ⟨t, rfl, _⟩ := txt_view r1 ea
    have k := I.view r2 ey
    cases k with
    | str l t' z =>
      subst eb
      exact ⟨fun Q h => in_str h, fun Q h => notIn_str h⟩
  · next ds ey =>
    have k := I.view r2 ey
    cases k with
    | @lst _ a us n ho z g =>
      have hp := (inL_any I g e).1
      rw [show us.any (eqAns T.T G s.toks x) = us.toArray.any (eqAns T.T G s.toks x) by simp] at hp
      subst hp
      exact ⟨fun Q h => SeqAt.in_listAt _ (isList_of ho) (at_ g e) h, fun Q h => SeqAt.notIn_listAt _ (isList_of ho) (at_ g e) h⟩
  · next ds ey =>
    have k := I.view r2 ey
    cases k with
    | @tup _ a us n o ho hc hd z g =>
      have hp := (inL_any I g e).1
      rw [show us.any (eqAns T.T G s.toks x) = us.toArray.any (eqAns T.T G s.toks x) by simp] at hp
      subst hp
      exact ⟨fun Q h => SeqAt.in_tupleAt _ (isTuple_of ho hc hd) (at_ g e) h, fun Q h => SeqAt.notIn_tupleAt _ (isTuple_of ho hc hd) (at_ g e) h⟩
  · cases e
theorem op_in (hu : X.A.units + 64 < cLine) : OpD X T (compareOp .In) pIn ∧ OpD X T (compareOp .NotIn) pNotIn := by
  refine ⟨fun pins s G ρ st u v x y d E I r1 r2 e => ?_, fun pins s G ρ st u v x y d E I r1 r2 e => ?_⟩
  · obtain ⟨b, e1, e2⟩ := Option.map_eq_some_iff.mp e
    subst e2
    exact (in_run I hu r1 r2 e1).1 _ (ok_bl I rfl)
  · obtain ⟨b, e1, e2⟩ := Option.map_eq_some_iff.mp e
    subst e2
    exact (in_run I hu r1 r2 e1).2 _ (ok_bl I rfl)
end
end DL
namespace DL
open PySem PySem.Spec PyProof.Rows L2

/-! ### a new list becomes a known one -/
def frz : D → D
  | .new l => .lst l
  | d => d
theorem frz_notNew (d : D) : notNew (frz d) = true := by cases d <;> rfl
/-- the object at a becomes known -/
def kn (G : Gh) (a : Addr) (o : Obj) : Gh := ⟨upd G.H a (fz o), G.as, G.ow, G.oa⟩
mutual
theorem Rep.kn {T : Tx} {G : Gh} {n : Nat} {a : Addr} {o : Obj} (h : G.H a = some (mu a o)) : ∀ {d : D} {u : Value}, plain d = true → Rep T G n d u → Rep T (kn G a o) n d u
  | .non, _, _, r => r
  | .bl _, _, _, r => r
  | .int _, _, _, r => r
  | .str _, _, _, r => r
  | .cst _, _, _, r => r
  | .ust _, _, _, r => r
  | .tup _, _, _, ⟨b, o', us, h1, h2, h3, h4⟩ => ⟨b, o', us, h1, kn_fz h h2, h3, Reps.kn h h4⟩
  | .lst _, _, _, ⟨b, o', us, h1, h2, h3, h4⟩ => ⟨b, o', us, h1, kn_fz h h2, h3, Reps.kn h h4⟩
  | .new _, _, p, _ => by cases p
  | .own _ _, _, p, _ => by cases p
  | .scr _, _, _, ⟨b, o', us, h1, h2, h3, h4⟩ => ⟨b, o', us, h1, kn_fz h h2, h3, h4⟩
  | .ref _, _, _, r => r
  | .fn _, _, _, r => r
  | .adr _, _, _, r => r
  | .dic _, _, _, ⟨b, o', h1, h0, h2, h3⟩ => ⟨b, o', h1, h0, kn_fz h h2, h3⟩
theorem Reps.kn {T : Tx} {G : Gh} {n : Nat} {a : Addr} {o : Obj} (h : G.H a = some (mu a o)) : ∀ {ds : List D} {us : List Value}, Reps T G n ds us → Reps T (kn G a o) n ds us
  | [], _, r => r
  | _ :: _, _, ⟨u, r, h1, hp, h2, h3⟩ => ⟨u, r, h1, hp, Rep.kn h hp h2, Reps.kn h h3⟩
theorem kn_fz {G : Gh} {a b : Addr} {o o' : Obj} (h : G.H a = some (mu a o)) (h2 : G.H b = some (fz o')) : (kn G a o).H b = some (fz o') := by
  by_cases e : b = a
  · subst e
    rw [h] at h2
    have q := Option.some.inj h2
    unfold fz mu at q
    cases q
  · exact (upd_ne e).trans h2
end
section
variable {X : Cx} {T : Fx} {pins : List (Addr × Obj)} {G G0 G1 : Gh} {ρ : Env_} {st st1 : Store} {s s1 : Shared}
theorem freeze {a : Addr} {o : Obj} (I : InvD X T pins G ρ st s) (x : Ext G0 G) (h : G.H a = some (mu a o)) (n1 : a ∉ G.as) (n2 : a ∉ G.ow) (h0 : G0.H a = none) (ht : T.g.H a = none) : InvD X T pins (kn G a o) ρ st s ∧ Ext G0 (kn G a o) := by
  have ne : ∀ {b : Addr} {u : HO}, G0.H b = some u → b ≠ a := fun q => ne_of_none q h0
  have net : ∀ {b : Addr} {u : HO}, T.g.H b = some u → b ≠ a := fun q => ne_of_none q ht
  have dom : ∀ b, (kn G a o).H b = none → G.H b = none := fun b q => by
    by_cases hb : b = a
    · subst hb
      unfold kn at q
      simp only [upd_same] at q
      cases q
    · exact (upd_ne hb).symm.trans q
  obtain ⟨m, h1, h2⟩ := I.loc
  have J := I.inv.write (x := a) (e := a) (o := fz o) (h' := s.heap) (t' := s.toks) (by rw [h]; exact True.intro) (.inl rfl) (fun _ _ _ q => q) ⟨_, I.atM h⟩ (ok_fz (I.atM h))
  refine ⟨⟨J, ⟨m, h1, fun i y d a1 a2 a3 => ?_⟩, ?_, I.tok, I.pos, I.len, fun b hb q => I.owd b hb (dom b q), ?_, I.nn, I.oaT, I.oaw, I.oai, I.so, I.tb, I.tk0⟩, ?_⟩
  · obtain ⟨u, r, l⟩ := h2 i y d a1 a2 a3
    refine ⟨u, ?_, l⟩
    have hn := I.nn i d a2
    cases d with
    | new l => cases hn
    | own j l =>
      obtain ⟨b, o', us, q1, q2, q3, q4, q7, q5, q6⟩ := r
      have hb : b ≠ a := fun z => n2 (z ▸ q4)
      exact ⟨b, o', us, q1, (upd_ne hb).trans q2, q3, q4, q7, q5, Reps.kn h q6⟩
    | _ => exact Rep.kn h rfl r
  · refine ⟨I.sto.len, I.sto.nd, fun k b c q1 q2 => ?_⟩
    have q := I.sto.cell k b c q1 q2
    cases c with
    | lst ds =>
      obtain ⟨o', us, q3, q4, q5⟩ := q
      have hb : b ≠ a := fun z => n1 (z ▸ List.mem_of_getElem? q1)
      exact ⟨o', us, (upd_ne hb).trans q3, q4, Reps.kn h q5⟩
    | tbl q' =>
      obtain ⟨ps, q3, q4, q5⟩ := q
      have hb : b ≠ a := fun z => n1 (z ▸ List.mem_of_getElem? q1)
      refine ⟨ps, (upd_ne hb).trans q3, q4, fun pos cv hc => ?_⟩
      obtain ⟨c, e1, e2, e3⟩ := q5 pos cv hc
      have hca : c ≠ a := fun z => by
        rw [z, h] at e2
        exact codeO_mu (Option.some.inj e2).symm
      exact ⟨c, e1, (upd_ne hca).trans e2, e3⟩
  · exact ⟨fun b o' q => kn_fz h (I.ext.fr b o' q), fun b u q hb => (upd_ne (net q)).trans (I.ext.keep b u q hb), I.ext.pre, I.ext.new, fun b q => I.ext.dom b (dom b q), I.ext.ow⟩
  · exact ⟨fun b o' q => kn_fz h (x.fr b o' q), fun b u q hb => (upd_ne (ne q)).trans (x.keep b u q hb), x.pre, x.new, fun b q => x.dom b (dom b q), x.ow, x.oa⟩
/-- a value behind its expression, made known -/
theorem frz_ok {ρ0 : Env_} {st0 : Store} {s0 : Shared} {d : D} {u : Value} (I0 : InvD X T pins G0 ρ0 st0 s0) (x : Ext G0 G) (I : InvD X T pins G ρ st s) (r : Rep T.T G s.toks d u) (n : NewOk G0 d u) :
    ∃ G2, Ext G0 G2 ∧ InvD X T pins G2 ρ st s ∧ Rep T.T G2 s.toks (frz d) u := by
  cases d with
  | new l =>
    obtain ⟨a, o, us, rfl, h1, h2, h3, h4, h5⟩ := r
    have h0 := n l a rfl rfl
    obtain ⟨J, y⟩ := freeze I x h1 h2 h3 h0 (I0.ext.dom a h0)
    exact ⟨_, y, J, a, o, us, rfl, upd_same, h4, Reps.kn h1 h5⟩
  | _ => exact ⟨G, x, I, r⟩
end

/-! ### argument lists -/
def RepA (T : Tx) (G : Gh) (n : Nat) : List D → List Value → Prop
  | [], us => us = []
  | d :: ds, us => ∃ u r, us = u :: r ∧ notNew d = true ∧ Rep T G n d u ∧ RepA T G n ds r
theorem RepA.mono {T : Tx} {G G' : Gh} {n n' : Nat} (e : Ext G G') (h : n ≤ n') : ∀ {ds : List D} {us : List Value}, RepA T G n ds us → RepA T G' n' ds us
  | [], _, r => r
  | _ :: _, _, ⟨u, r, h1, h0, h2, h3⟩ => ⟨u, r, h1, h0, Rep.mono e h h2, RepA.mono e h h3⟩
theorem RepA.length {T : Tx} {G : Gh} {n : Nat} : ∀ {ds : List D} {us : List Value}, RepA T G n ds us → ds.length = us.length
  | [], us, r => by
    have e : us = [] := r
    rw [e]
    rfl
  | _ :: _, _, ⟨_, _, h1, _, _, h3⟩ => by rw [h1]; exact congrArg Nat.succ (RepA.length h3)
theorem RepA.reps {T : Tx} {G : Gh} {n : Nat} : ∀ {ds : List D} {us : List Value}, ds.all plain = true → RepA T G n ds us → Reps T G n ds us
  | [], _, _, r => r
  | _ :: _, _, p, ⟨u, r, h1, _, h2, h3⟩ => by
    rw [List.all_cons, Bool.and_eq_true] at p
    exact ⟨u, r, h1, p.1, h2, RepA.reps p.2 h3⟩
theorem RepA.one {T : Tx} {G : Gh} {n : Nat} {d : D} {us : List Value} (h : RepA T G n [d] us) : ∃ u, us = [u] ∧ Rep T G n d u := by
  obtain ⟨u, r, rfl, _, h2, h3⟩ := h
  cases (show r = [] from h3)
  exact ⟨u, rfl, h2⟩
theorem RepA.two {T : Tx} {G : Gh} {n : Nat} {d e : D} {us : List Value} (h : RepA T G n [d, e] us) : ∃ u v, us = [u, v] ∧ Rep T G n d u ∧ Rep T G n e v := by
  obtain ⟨u, r, rfl, _, h2, h3⟩ := h
  obtain ⟨v, rfl, h4⟩ := h3.one
  exact ⟨u, v, rfl, h2, h4⟩
def AkP (X : Cx) (T : Fx) (pins : List (Addr × Obj)) (G : Gh) (ρ : Env_) (r : R (List D)) (us : List Value) (s' : Shared) : Prop :=
  ∃ ds st' G', r = .ok ds st' ∧ Ext G G' ∧ InvD X T pins G' ρ st' s' ∧ RepA T.T G' s'.toks ds us
structure DA (X : Cx) (T : Fx) (es : List Expr) (m : EL) : Prop where
  ap : ∀ (pos : Pos) (pins : List (Addr × Obj)) (s : Shared) (G : Gh) (ρ : Env_) (st : Store), InvD X T pins G ρ st s → m ρ st ≠ .bad →
  wpAny (model X.prog X.w) X.A (spliced (backTo pos (starEach es X.env))) (AkP X T pins G ρ (m ρ st)) (ExP X T pins G ρ (m ρ st)) s
instance {X : Cx} {T : Fx} {es : List Expr} {m : EL} : CoeFun (DA X T es m) fun _ => ∀ (pos : Pos) (pins : List (Addr × Obj)) (s : Shared) (G : Gh) (ρ : Env_) (st : Store), InvD X T pins G ρ st s → m ρ st ≠ .bad →
  wpAny (model X.prog X.w) X.A (spliced (backTo pos (starEach es X.env))) (AkP X T pins G ρ (m ρ st)) (ExP X T pins G ρ (m ρ st)) s := ⟨DA.ap⟩
def eNil : EL := fun _ st => .ok [] st
def eCons (m : EM) (ml : EL) : EL := fun ρ st => (m ρ st).bind fun d st1 => (ml ρ st1).bind fun ds st2 => .ok (frz d :: ds) st2
section
variable {X : Cx} {T : Fx} {pins : List (Addr × Obj)} {G G1 : Gh} {ρ : Env_} {st st1 : Store} {s s1 : Shared} {e a b : Expr} {es : List Expr} {m ma mb : EM} {ml : EL} {pos p2 : Pos}
theorem DA.run {pos : Pos} (h : DA X T es ml) (I : InvD X T pins G ρ st s) (hb : ml ρ st ≠ .bad) {Q : List Value → Shared → Prop} {E : Value → Shared → Prop}
    (hk : ∀ us s1 ds st1 G1, ml ρ st = .ok ds st1 → Ext G G1 → InvD X T pins G1 ρ st1 s1 → RepA T.T G1 s1.toks ds us → s.toks ≤ s1.toks → Q us s1) (hx : ∀ x s1, ExP X T pins G ρ (ml ρ st) x s1 → E x s1) :
    wpAny (model X.prog X.w) X.A (spliced (backTo pos (starEach es X.env))) Q E s :=
  wpAny_mono (PySem.wpAny_toks (h pos pins s G ρ st I hb)) (fun u s1 ⟨hn, d, st1, G1, h1, h2, h3, h4⟩ => hk u s1 d st1 G1 h1 h2 h3 h4 hn) fun x s1 z => hx x s1 z.2
theorem da_nil : DA X T [] eNil := .mk fun pos pins s G ρ st I _ => Calls.spliced_nil ⟨[], st, G, rfl, Ext.refl G, I, rfl⟩
theorem da_cons (ha : DE X T e m) (hr : DA X T es ml) (hs : starEach (e :: es) X.env = (false, eval e X.env) :: starEach es X.env := by rfl) : DA X T (e :: es) (eCons m ml) := .mk fun pos pins s G ρ st I hb => by
  rw [hs]
  show wpAny _ _ (spliced ((false, eval e X.env) :: backTo pos (starEach es X.env))) _ _ s
  refine Calls.spliced_cons (ha.run I (bad_l hb) (fun u s1 d st1 G1 e1 x1 I1 r1 n1 _ => ?_) fun x s1 z => z.up (Ext.refl G) fun ex st' e1 => by unfold eCons; rw [e1]; rfl)
  have eq1 : eCons m ml ρ st = (ml ρ st1).bind fun ds st2 => .ok (frz d :: ds) st2 := by unfold eCons; rw [e1]; rfl
  rw [eq1] at hb ⊢
  obtain ⟨G2, x2, I2, r2⟩ := frz_ok I x1 I1 r1 n1
  refine hr.run I2 (bad_l hb) (fun us s2 ds st2 G3 e3 x3 I3 r3 hn => ?_) fun x s1 z => z.up x2 fun ex st' e1 => by rw [e1]; rfl
  rw [e3]
  exact ⟨_, st2, G3, rfl, x2.trans x3, I3, u, us, rfl, frz_notNew d, r2.mono x3 hn, r3⟩

/-! ### tuples, lists -/
def eTup (ml : EL) : EM := fun ρ st => (ml ρ st).bind fun ds st1 => if ds.all plain = true ∧ ds.length ≤ 1000000 then .ok (.tup ds) st1 else .bad
def eLst (ml : EL) : EM := fun ρ st => (ml ρ st).bind fun ds st1 => if ds.all plain = true ∧ ds.length ≤ 1000000 then .ok (.new ds) st1 else .bad
theorem de_tup {x1} (h : DA X T es ml) : DE X T (.Tuple es x1 pos) (eTup ml) := .mk fun pins s G ρ st I hb => by
  have hm : ml ρ st ≠ .bad := bad_l hb
  refine wpAny_Tuple_spliced (h.run I hm (fun us s1 ds st1 G1 e1 x1 I1 r1 _ => ?_) fun x s1 z => z.up (Ext.refl G) fun ex st' e1 => by unfold eTup; rw [e1]; rfl)
  have eq1 : eTup ml ρ st = if ds.all plain = true ∧ ds.length ≤ 1000000 then .ok (.tup ds) st1 else .bad := by unfold eTup; rw [e1]; rfl
  rw [eq1] at hb ⊢
  by_cases hc : ds.all plain = true ∧ ds.length ≤ 1000000
  · rw [if_pos hc]
    have hl := r1.length
    have z : us.length ≤ sizeLine := by rw [sizeLine_eq]; omega
    exact ⟨z, (ok_tup (t' := s1.toks) I1 (r1.reps hc.1) z (Nat.le_refl _)).up x1 fun _ _ q => q⟩
  · rw [if_neg hc] at hb
    exact absurd rfl hb
theorem de_lst (h : DA X T es ml) : DE X T (.List es pos) (eLst ml) := .mk fun pins s G ρ st I hb => by
  have hm : ml ρ st ≠ .bad := bad_l hb
  refine wpAny_List_spliced (h.run I hm (fun us s1 ds st1 G1 e1 x1 I1 r1 _ => ?_) fun x s1 z => z.up (Ext.refl G) fun ex st' e1 => by unfold eLst; rw [e1]; rfl)
  have eq1 : eLst ml ρ st = if ds.all plain = true ∧ ds.length ≤ 1000000 then .ok (.new ds) st1 else .bad := by unfold eLst; rw [e1]; rfl
  rw [eq1] at hb ⊢
  by_cases hc : ds.all plain = true ∧ ds.length ≤ 1000000
  · rw [if_pos hc]
    have hl := r1.length
    have z : us.length ≤ sizeLine := by rw [sizeLine_eq]; omega
    exact ⟨z, (ok_new (t' := s1.toks) I1 (r1.reps hc.1) z (Nat.le_refl _)).up x1 fun _ _ q => q⟩
  · rw [if_neg hc] at hb
    exact absurd rfl hb

/-! ### operators, as expressions -/
theorem de_op {op : Operator} {p : Store → D → D → Option D} (ho : OpD X T (binaryOp op) p) (ha : DE X T a ma) (hb : DE X T b mb) : DE X T (.BinOp a op b pos) (eBin p ma mb) := .mk fun pins s G ρ st I h => wpAny_BinOp (two ha hb ho I h)
theorem de_cmp {op : CmpOp} {p : Store → D → D → Option D} (ho : OpD X T (compareOp op) p) (ha : DE X T a ma) (hb : DE X T b mb) (hm : behindInMarks op b = false := by first | exact nobehind _ (by decide) (by decide) | rfl) : DE X T (.Compare a [op] [b] pos) (eBin p ma mb) :=
  .mk fun pins s G ρ st I h => wpAny_Compare1 (two ha hb ho I h) hm

/-! ### items -/
def itemV (x : D) (i : Int) : Option D := match x.vw with
  | some (.tup ds) => (seqIndex? i ds.length).bind fun j => ds[j]?
  | some (.lst ds) => (seqIndex? i ds.length).bind fun j => ds[j]?
  | some (.str l) => (seqIndex? i l.length).bind fun j => (l[j]?).map fun c => .str [c]
  | _ => none
def cellL (st : Store) : D → D
  | .ref k => match st[k]? with
    | some (.lst ds) => .lst ds
    | _ => .ref k
  | x => x
def pIdx : Store → D → D → Option D := fun st x y => match y with
  | .int i => itemV (cellL st x) i
  | _ => none
theorem seqIx {i : Int} {n j : Nat} (h : seqIndex? i n = some j) : j < n ∧ ((0 ≤ i ∧ j = i.toNat) ∨ (i < 0 ∧ -(n : Int) ≤ i ∧ j = (i + n).toNat)) := by
  unfold seqIndex? at h
  simp only at h
  by_cases h0 : i < 0
  · rw [if_pos h0] at h
    split at h
    · next hc =>
      cases h
      simp only [Bool.and_eq_true, decide_eq_true_eq] at hc
      exact ⟨by omega, .inr ⟨h0, by omega, rfl⟩⟩
    · cases h
  · rw [if_neg h0] at h
    split at h
    · next hc =>
      cases h
      simp only [Bool.and_eq_true, decide_eq_true_eq] at hc
      exact ⟨by omega, .inl ⟨by omega, rfl⟩⟩
    · cases h
theorem plain_notNew {d : D} (h : plain d = true) : notNew d = true := by cases d <;> first | rfl | cases h
theorem idx_list {sl : Expr} {o : Addr} {us : List Value} {k : Nat} {i : Int} {t : Tok} {j : Nat} {x : Value} {E : Value → Shared → Prop} {Q : Value → Shared → Prop} (hs : PlainIxT sl) (h : s.heap.get? o = some { cls := .type "list", data := .seq us.toArray k }) (z : us.length ≤ sizeLine) (hj : seqIndex? i us.length = some j) (hx : us[j]? = some x) (q : Q x s) :
    wpAny (model X.prog X.w) X.A (subscriptTail a sl (.ref o) (.int i t)) Q E s := by
  have z0 := sizeLine_eq
  obtain ⟨hl, h1⟩ := seqIx hj
  rcases h1 with ⟨h1, h2⟩ | ⟨h1, h2, h3⟩
  · exact item_listR (isList_of h) h1 (by omega) (by rw [← h2]; simpa using hx) q (hs _ _)
  · exact tail_any (isList_of h).typeIs slot_list_getitem.lookup (wpAny_getItem_list_neg (isList_of h) h1 (by rw [List.size_toArray]; omega) (by omega) (by rw [List.size_toArray, ← h3]; simpa using hx) q) (hs _ _)
theorem op_idx (hs : PlainIxT b) : OpD X T (subscriptTail a b) pIdx := fun pins s G ρ st u v x y d E I r1 r2 e => by
  have z0 := sizeLine_eq
  unfold pIdx at e
  split at e
  · next i =>
    obtain ⟨t, rfl⟩ := r2
    have viaL : ∀ (ds : List D) (us : List Value) (o : Addr) (k : Nat), s.heap.get? o = some { cls := .type "list", data := .seq us.toArray k } → us.length ≤ sizeLine → Reps T.T G s.toks ds us → ((seqIndex? i ds.length).bind fun j => ds[j]?) = some d →
        wpAny (model X.prog X.w) X.A (subscriptTail a b (.ref o) (.int i t)) (OkP X T pins G ρ (.ok d st)) E s := by
      intro ds us o k h z g e
      obtain ⟨j, e1, e2⟩ := Option.bind_eq_some_iff.mp e
      obtain ⟨w, g1, g2, g3⟩ := g.get e2
      exact idx_list hs h z (by rw [← g.length]; exact e1) g1 (ok_same I g2 (plain_notNew g3))
    cases x with
    | ref k =>
      unfold cellL at e
      simp only at e
      split at e
      · next ds hk =>
        have e' : ((seqIndex? i ds.length).bind fun j => ds[j]?) = some d := e
        obtain ⟨o, rfl, ho⟩ := r1
        obtain ⟨ob, us, q1, ⟨⟨n, hd⟩, z⟩, q3⟩ := I.sto.cell k o _ ho hk
        subst hd
        exact viaL ds us o n (I.atM q1) z q3 e'
      · cases e
    | _ =>
      unfold cellL itemV at e
      simp only at e
      split at e
      · next ds hv =>
        have k := I.view r1 hv
        cases k with
        | @tup _ o us n ob h1 c1 d1 z1 g1 =>
          obtain ⟨j, e1, e2⟩ := Option.bind_eq_some_iff.mp e
          obtain ⟨w, g2, g3, g4⟩ := g1.get e2
          have hl := g1.length
          obtain ⟨hj, hj2⟩ := seqIx e1
          have ht : IsTup s.heap o us.toArray := ⟨_, h1, c1, _, d1⟩
          exact tail_any ht.typeIs PyProof.Rows.slot_tuple_getitem.lookup (PyProof.Rows.getItem_tuple ht (by omega) (by omega) (by rw [List.size_toArray, ← hl]; exact e1) (by simpa using g2) (ok_same I g3 (plain_notNew g4))) (hs _ _)
      · next ds hv =>
        have k := I.view r1 hv
        cases k with
        | @lst _ o us n h1 z1 g1 => exact viaL ds us o n h1 z1 g1 e
      · next l hv =>
        have k := I.view r1 hv
        cases k with
        | str l t' z =>
          obtain ⟨j, e1, e2⟩ := Option.bind_eq_some_iff.mp e
          obtain ⟨c, e3, e4⟩ := Option.map_eq_some_iff.mp e2
          subst e4
          obtain ⟨hj, hj2⟩ := seqIx e1
          have hc : (seqIndex? i (S l).length).bind ((S l).cps[·]?) = some c := by
            rw [SX.S_len, e1]
            simpa using e3
          refine tail_any (typeIs_str s (S l) t') slot_str_getitem.lookup (PySem.P.getItem_str (c := c) ?_ hc (ok_str (l := [c]) I rfl (by rw [z0]; simp) (Nat.lt_succ_self _))) (hs _ _)
          rw [decide_eq_false (by omega), decide_eq_false (by omega)]
          rfl
      · cases e
  · cases e
def eIdx (ma mb : EM) : EM := eBin pIdx ma mb
theorem de_idx (hs : PlainIxT b) (ha : DE X T a ma) (hb : DE X T b mb) : DE X T (.Subscript a b pos) (eIdx ma mb) := .mk fun pins s G ρ st I h => Subscript_ (two ha hb (op_idx hs) I h)
end
end DL
namespace DL
open PySem PySem.Spec PyProof.Rows L2

/-! ### truth -/
def truth (x : D) : Option Bool := match x.vw with
  | some .non => some false
  | some (.bl b) => some b
  | some (.int i) => some (i != 0)
  | some (.str l) => some (!l.isEmpty)
  | some (.lst l) => some (!l.isEmpty)
  | some (.tup l) => some (!l.isEmpty)
  | none => none
/-- a value's truth, its test -/
def tV (m : EM) : EB := fun ρ st => (m ρ st).bind fun d st1 => R.of (truth d) st1
/-- a bool's test -/
def asB : D → Option Bool
  | .bl b => some b
  | _ => none
def eChain (p q : Store → D → D → Option D) (ma mb mc : EM) : EM := fun ρ st => (ma ρ st).bind fun x st1 => (mb ρ st1).bind fun y st2 => (R.of ((p st2 x y).bind asB) st2).bind fun c st2 => if c = true then (mc ρ st2).bind fun z st3 => R.of (q st3 y z) st3 else .ok (.bl false) st2
def tAnd (t u : EB) : EB := fun ρ st => (t ρ st).bind fun c st1 => if c = true then u ρ st1 else .ok false st1
def tOr (t u : EB) : EB := fun ρ st => (t ρ st).bind fun c st1 => if c = true then .ok true st1 else u ρ st1
def tNot (t : EB) : EB := fun ρ st => (t ρ st).bind fun c st1 => .ok (!c) st1
def eAnd (m : EM) (u : EM) : EM := fun ρ st => (m ρ st).bind fun d st1 => (R.of (truth d) st1).bind fun c st1 => if c = true then u ρ st1 else .ok d st1
def eOr (m : EM) (u : EM) : EM := fun ρ st => (m ρ st).bind fun d st1 => (R.of (truth d) st1).bind fun c st1 => if c = true then .ok d st1 else u ρ st1
def eNot (m : EM) : EM := fun ρ st => (m ρ st).bind fun d st1 => (R.of (truth d) st1).bind fun c st1 => .ok (.bl (!c)) st1
def eIf (t : EB) (ma mb : EM) : EM := fun ρ st => (t ρ st).bind fun c st1 => if c = true then ma ρ st1 else mb ρ st1
def negD : D → Option D
  | .int i => some (.int (-i))
  | _ => none
def eNeg (m : EM) : EM := fun ρ st => (m ρ st).bind fun d st1 => R.of (negD d) st1
section
variable {X : Cx} {T : Fx} {pins : List (Addr × Obj)} {G G1 : Gh} {ρ : Env_} {st st1 : Store} {s s1 : Shared} {e a b c : Expr} {es : List Expr} {m ma mb mc mu : EM} {ml : EL} {pos p2 : Pos} {ta tb : EB} {rest : List Expr}
/-- a test, then gone on -/
theorem test_run {M : Sem Bool} {r : R Bool} (h : wpAny (model X.prog X.w) X.A M (OkB X T pins G ρ r) (ExP X T pins G ρ r) s) {Q : Bool → Shared → Prop} {E : Value → Shared → Prop}
    (hk : ∀ c s1 st1 G1, r = .ok c st1 → Ext G G1 → InvD X T pins G1 ρ st1 s1 → Q c s1) (hx : ∀ x s1, ExP X T pins G ρ r x s1 → E x s1) : wpAny (model X.prog X.w) X.A M Q E s :=
  wpAny_mono h (fun c s1 ⟨st1, G1, h1, h2, h3⟩ => hk c s1 st1 G1 h1 h2 h3) fun x s1 z => hx x s1 z
theorem tru_ok {x : D} {u : Value} {k : Bool} {Q : Bool → Shared → Prop} {E : Value → Shared → Prop} (I : InvD X T pins G ρ st s) (r : Rep T.T G s.toks x u) (e : truth x = some k) (h : ∀ t', s.toks ≤ t' → Q k { s with toks := t' }) :
    wpAny (model X.prog X.w) X.A (truthy u) Q E s := by
  have z0 := sizeLine_eq
  have em : ∀ {l : List D} {us : List Value}, Reps T.T G s.toks l us → (!us.toArray.isEmpty) = !l.isEmpty := fun {l us} g => by
    have := g.length
    cases l <;> cases us <;> first | rfl | simp at this
  unfold truth at e
  split at e
  · next hv => cases I.view r hv; cases e; exact truthy_none (h s.toks (Nat.le_refl _))
  · next b hv => cases I.view r hv; cases e; exact wpAny_truthy_bool (h s.toks (Nat.le_refl _))
  · next i hv => cases I.view r hv; cases e; exact PySem.P.truthy_int (h s.toks (Nat.le_refl _))
  · next l hv =>
    have k := I.view r hv
    cases k with
    | str l t z =>
      have hL : (S l).length = l.length := SX.S_len l
      refine PySem.P.truthy_str (by omega) ?_
      rw [hL]
      have : ((l.length : Int) != 0) = k := by
        rw [← Option.some.inj e]
        cases l with
        | nil => rfl
        | cons _ _ =>
          rw [bne_iff_ne.mpr (by rw [List.length_cons]; omega)]
          rfl
      rw [this]
      exact h _ (by omega)
  · next l hv =>
    have k := I.view r hv
    cases k with
    | @lst _ o us n h1 z1 g1 =>
      refine wpAny_truthy_list (isList_of h1) (by simp only [List.size_toArray]; omega) ?_
      rw [em g1, Option.some.inj e]
      exact h _ (by omega)
  · next l hv =>
    have k := I.view r hv
    cases k with
    | @tup _ o us n ob h1 c1 d1 z1 g1 =>
      refine truthy_tuple (show IsTup s.heap o us.toArray from ⟨_, h1, c1, _, d1⟩) (by simp only [List.size_toArray]; omega) ?_
      rw [em g1, Option.some.inj e]
      exact h _ (by omega)
  · cases e
theorem dt_val (ha : DE X T a ma) (he : ∀ whole, isTrue a X.env whole = (do let v ← whole; standAt a.pos; holding [v] (truthy v))) : DT X T a (tV ma) := .mk fun pins s G ρ st I hb => by
  refine isTrue_plain (ha.run I (bad_l hb) (fun u s1 d st1 G1 e1 x1 I1 r1 _ _ => ?_) fun x s1 z => z.up (Ext.refl G) fun ex st' e1 => by unfold tV; rw [e1]; rfl) (he _)
  have eq1 : tV ma ρ st = R.of (truth d) st1 := by unfold tV; rw [e1]; rfl
  rw [eq1] at hb ⊢
  obtain ⟨k, hk⟩ := of_bad hb
  refine tru_ok I1 r1 hk fun t' ht => ⟨st1, G1, by rw [hk]; rfl, x1, I1.tk ht⟩
theorem dt_cmp {op : CmpOp} {p : Store → D → D → Option D} (ho : OpD X T (compareOp op) p) (ha : DE X T a ma) (hb : DE X T b mb) (hm : behindInMarks op b = false := by first | exact nobehind _ (by decide) (by decide) | rfl) : DT X T (.Compare a [op] [b] pos) (tV (eBin p ma mb)) :=
  .mk fun pins s G ρ st I h => by
  have h1 : eBin p ma mb ρ st ≠ .bad := bad_l h
  refine wpAny_isTrue_Compare1 (wpAny_mono (two ha hb (f := fun u v => compareOp op u v) ho I h1) (fun u s1 h2 => wpAny_mono h2 (fun v s2 h3 => wpAny_mono h3 (fun r s3 z => ?_) fun x s3 z => ?_) fun x s2 z => ?_) fun x s1 z => ?_) hm
  · obtain ⟨d, st3, G3, e1, x1, I3, r3, _⟩ := z
    have eq1 : tV (eBin p ma mb) ρ st = R.of (truth d) st3 := by unfold tV; rw [e1]; rfl
    rw [eq1] at h ⊢
    obtain ⟨k, hk⟩ := of_bad h
    exact tru_ok I3 r3 hk fun t' ht => ⟨st3, G3, by rw [hk]; rfl, x1, I3.tk ht⟩
  all_goals exact ExP.up (Ext.refl G) (fun ex st' e1 => by unfold tV; rw [e1]; rfl) z
/-- a op b op' c -/
theorem link {op : CmpOp} {p : Store → D → D → Option D} (ho : OpD X T (compareOp op) p) (ha : DE X T a ma) (hb : DE X T b mb) {q : Store → D → D → Option D} (I : InvD X T pins G ρ st s)
    (h : eChain p q ma mb mc ρ st ≠ .bad) {Q : Bool → Value → Value → Shared → Prop} {E : Value → Shared → Prop} (hx : ∀ x s1, ExP X T pins G ρ (eChain p q ma mb mc ρ st) x s1 → E x s1)
    (hk : ∀ c v s3 y st2 G2, Ext G G2 → InvD X T pins G2 ρ st2 s3 → Rep T.T G2 s3.toks y v → eChain p q ma mb mc ρ st = (if c = true then (mc ρ st2).bind fun z st3 => R.of (q st3 y z) st3 else .ok (.bl false) st2) → Q c v (.bool c) s3) :
    wpAny (model X.prog X.w) X.A (eval a X.env) (fun u s1 => wpAny (model X.prog X.w) X.A (eval b X.env) (fun v s2 => wpAny (model X.prog X.w) X.A (compareOp op u v) (fun r s3 => wpAny (model X.prog X.w) X.A (truthy r) (fun c s4 => Q c v r s4) E s3) E s2) E s1) E s := by
  refine ha.run I (bad_l h) (fun u s1 x st1 G1 e1 x1 I1 r1 _ _ => ?_) fun x s1 z => hx x s1 (z.up (Ext.refl G) fun ex st' e1 => by unfold eChain; rw [e1]; rfl)
  have eq1 : eChain p q ma mb mc ρ st = (mb ρ st1).bind fun y st2 => (R.of ((p st2 x y).bind asB) st2).bind fun c st2 => if c = true then (mc ρ st2).bind fun z st3 => R.of (q st3 y z) st3 else .ok (.bl false) st2 := by unfold eChain; rw [e1]; rfl
  rw [eq1] at h hx hk
  refine hb.run I1 (bad_l h) (fun v s2 y st2 G2 e2 x2 I2 r2 _ hn => ?_) fun x s1 z => hx x s1 (z.up x1 fun ex st' e1 => by rw [e1]; rfl)
  rw [e2] at h hk
  have h2 := bad_l (f := fun c st2 => if c = true then (mc ρ st2).bind fun z st3 => R.of (q st3 y z) st3 else .ok (.bl false) st2) h
  obtain ⟨c, ec⟩ := of_bad h2
  obtain ⟨d, ed, ec2⟩ := Option.bind_eq_some_iff.mp ec
  cases d with
  | bl b =>
    cases ec2
    have op := ho pins s2 G2 ρ st2 u v x y (.bl c) E I2 (r1.mono x2 hn) r2 ed
    refine wpAny_mono (PySem.wpAny_toks op) (fun r s3 z => ?_) fun _ _ z => z.2
    obtain ⟨hn3, d', st3, G3, e3, x3, I3, r3, _⟩ := z
    cases e3
    cases (show r = .bool c from r3)
    refine wpAny_truthy_bool ?_
    have e4 : R.of ((p st2 x y).bind asB) st2 = .ok c st2 := by rw [ed]; rfl
    exact hk c v s3 y st2 G3 ((x1.trans x2).trans x3) I3 (r2.mono x3 hn3) (by rw [bind_ok, e4, bind_ok])
  | _ => cases ec2
theorem de_chain {op op' : CmpOp} {p q : Store → D → D → Option D} (ho : OpD X T (compareOp op) p) (ho' : OpD X T (compareOp op') q) (ha : DE X T a ma) (hb : DE X T b mb) (hc : DE X T c mc) (hm : lastMarks [op, op'] [b, c] = false := by with_unfolding_all rfl) :
    DE X T (.Compare a [op, op'] [b, c] pos) (eChain p q ma mb mc) := .mk fun pins s G ρ st I h => by
  refine Compare_chain (wpAny_mono (link ho ha hb I h (mc := mc) (q := q) (Q := fun c' v r s3 => if c' = true then wpAny (model X.prog X.w) X.A (compareChain pos v [op'] [eval c X.env]) (OkP X T pins G ρ (eChain p q ma mb mc ρ st)) (ExP X T pins G ρ (eChain p q ma mb mc ρ st)) s3 else OkP X T pins G ρ (eChain p q ma mb mc ρ st) r s3) (fun x s1 z => z) fun c' v s3 y st2 G2 x2 I2 r2 eq => ?_) (fun u s1 h1 => chain_link h1) fun _ _ z => z) hm
  cases c' with
  | true =>
    rw [if_pos rfl] at eq ⊢
    rw [eq] at h ⊢
    refine chain_last (hc.run I2 (bad_l h) (fun z s4 d st3 G3 e3 x3 I3 r3 _ hn => ?_) fun x s1 z => z.up x2 fun ex st' e1 => by rw [e1]; rfl)
    rw [e3] at h ⊢
    obtain ⟨d', ed⟩ := of_bad h
    rw [bind_ok, ed]
    exact wpAny_mono (ho' pins s4 G3 ρ st3 v z y d d' _ I3 (r2.mono x3 hn) r3 ed) (fun _ _ z => z.up (x2.trans x3) fun _ _ q => q) fun _ _ z => z
  | false =>
    rw [if_neg Bool.false_ne_true] at eq ⊢
    rw [eq]
    exact ⟨_, st2, G2, rfl, x2, I2, rfl, NewOk.of rfl⟩
theorem dt_chain {op op' : CmpOp} {p q : Store → D → D → Option D} (ho : OpD X T (compareOp op) p) (ho' : OpD X T (compareOp op') q) (ha : DE X T a ma) (hb : DE X T b mb) (hc : DE X T c mc) (hm : lastMarks [op, op'] [b, c] = false := by with_unfolding_all rfl) :
    DT X T (.Compare a [op, op'] [b, c] pos) (tV (eChain p q ma mb mc)) := .mk fun pins s G ρ st I h => by
  have h1 : eChain p q ma mb mc ρ st ≠ .bad := bad_l h
  have up : ∀ x s1, ExP X T pins G ρ (eChain p q ma mb mc ρ st) x s1 → ExP X T pins G ρ (tV (eChain p q ma mb mc) ρ st) x s1 := fun x s1 z => z.up (Ext.refl G) fun ex st' e1 => by unfold tV; rw [e1]; rfl
  have eqV : tV (eChain p q ma mb mc) ρ st = (eChain p q ma mb mc ρ st).bind fun d st1 => R.of (truth d) st1 := rfl
  refine isTrue_chain (wpAny_mono (link ho ha hb I h1 (mc := mc) (q := q) (Q := fun c' v r s3 => if c' = true then wpAny (model X.prog X.w) X.A (testChain pos v [op'] [eval c X.env]) (OkB X T pins G ρ (tV (eChain p q ma mb mc) ρ st)) (ExP X T pins G ρ (tV (eChain p q ma mb mc) ρ st)) s3 else OkB X T pins G ρ (tV (eChain p q ma mb mc) ρ st) false s3) (fun x s1 z => up x s1 z) fun c' v s3 y st2 G2 x2 I2 r2 eq => ?_) (fun u s1 h1 => test_link h1) fun _ _ z => z) hm
  cases c' with
  | true =>
    rw [if_pos rfl] at eq ⊢
    rw [eqV, eq] at h ⊢
    have h3 : ((mc ρ st2).bind fun z st3 => R.of (q st3 y z) st3) ≠ .bad := bad_l h
    refine test_last (hc.run I2 (bad_l h3) (fun z s4 d st3 G3 e3 x3 I3 r3 _ hn => ?_) fun x s1 z => z.up x2 fun ex st' e1 => by rw [e1]; rfl)
    rw [e3, bind_ok] at h3 h ⊢
    obtain ⟨d', ed⟩ := of_bad h3
    rw [ed, of_some, bind_ok] at h ⊢
    obtain ⟨k, hk⟩ := of_bad h
    refine wpAny_mono (ho' pins s4 G3 ρ st3 v z y d d' _ I3 (r2.mono x3 hn) r3 ed) (fun r s5 ⟨d2, st5, G5, e5, x5, I5, r5, _⟩ => ?_) fun _ _ z => z
    cases e5
    exact DL.tru_ok I5 r5 hk fun t' ht => ⟨st3, G5, by rw [hk]; rfl, (x2.trans x3).trans x5, I5.tk ht⟩
  | false =>
    rw [if_neg Bool.false_ne_true] at eq ⊢
    rw [eqV, eq]
    exact ⟨st2, G2, rfl, x2, I2⟩
/-! ### and, or, not -/
theorem dw_and1 (ha : DT X T a ta) : DW X T (.BoolOp .And [a] pos) ta := .mk fun wh pins s G ρ st I h => by
  refine isTrue_and (wpAny_mono (ha pins s G ρ st I h) (fun c s1 z => ?_) fun _ _ z => z)
  cases c with
  | true => exact isTrue_and_nil z
  | false => exact z
theorem dw_or1 (ha : DT X T a ta) : DW X T (.BoolOp .Or [a] pos) ta := .mk fun wh pins s G ρ st I h => by
  refine isTrue_or (wpAny_mono (ha pins s G ρ st I h) (fun c s1 z => ?_) fun _ _ z => z)
  cases c with
  | false => exact isTrue_or_nil z
  | true => exact z
theorem dw_and (ha : DT X T a ta) (hb : DW X T (.BoolOp .And (b :: rest) pos) tb) : DW X T (.BoolOp .And (a :: b :: rest) pos) (tAnd ta tb) := .mk fun wh pins s G ρ st I h => by
  refine isTrue_and (test_run (ha pins s G ρ st I (bad_l h)) (fun c s1 st1 G1 e1 x1 I1 => ?_) fun x s1 z => z.up (Ext.refl G) fun ex st' e1 => by unfold tAnd; rw [e1]; rfl)
  have eq1 : tAnd ta tb ρ st = if c = true then tb ρ st1 else .ok false st1 := by unfold tAnd; rw [e1]; rfl
  rw [eq1] at h ⊢
  cases c with
  | true => exact test_run (hb wh pins s1 G1 ρ st1 I1 h) (fun c s2 st2 G2 e2 x2 I2 => ⟨st2, G2, e2, x1.trans x2, I2⟩) fun x s2 z => z.up x1 fun _ _ q => q
  | false => exact ⟨st1, G1, rfl, x1, I1⟩
theorem dw_or (ha : DT X T a ta) (hb : DW X T (.BoolOp .Or (b :: rest) pos) tb) : DW X T (.BoolOp .Or (a :: b :: rest) pos) (tOr ta tb) := .mk fun wh pins s G ρ st I h => by
  refine isTrue_or (test_run (ha pins s G ρ st I (bad_l h)) (fun c s1 st1 G1 e1 x1 I1 => ?_) fun x s1 z => z.up (Ext.refl G) fun ex st' e1 => by unfold tOr; rw [e1]; rfl)
  have eq1 : tOr ta tb ρ st = if c = true then .ok true st1 else tb ρ st1 := by unfold tOr; rw [e1]; rfl
  rw [eq1] at h ⊢
  cases c with
  | false => exact test_run (hb wh pins s1 G1 ρ st1 I1 h) (fun c s2 st2 G2 e2 x2 I2 => ⟨st2, G2, e2, x1.trans x2, I2⟩) fun x s2 z => z.up x1 fun _ _ q => q
  | true => exact ⟨st1, G1, rfl, x1, I1⟩
theorem dt_not (ha : DT X T a ta) : DT X T (.UnaryOp .Not a pos) (tNot ta) := .mk fun pins s G ρ st I h => by
  refine isTrue_not (test_run (ha pins s G ρ st I (bad_l h)) (fun c s1 st1 G1 e1 x1 I1 => ?_) fun x s1 z => z.up (Ext.refl G) fun ex st' e1 => by unfold tNot; rw [e1]; rfl)
  exact ⟨st1, G1, by unfold tNot; rw [e1]; rfl, x1, I1⟩
theorem de_one {op} (h : DE X T a ma) : DE X T (.BoolOp op [a] pos) ma := .mk fun pins s G ρ st I hb => BoolOp_one (h pins s G ρ st I hb)
theorem de_and (ha : DE X T a ma) (hb : DE X T (.BoolOp .And (b :: rest) pos) mb) : DE X T (.BoolOp .And (a :: b :: rest) pos) (eAnd ma mb) := .mk fun pins s G ρ st I h => by
  refine BoolOp_and (ha.run I (bad_l h) (fun u s1 d st1 G1 e1 x1 I1 r1 n1 _ => ?_) fun x s1 z => z.up (Ext.refl G) fun ex st' e1 => by unfold eAnd; rw [e1]; rfl)
  have eq1 : eAnd ma mb ρ st = (R.of (truth d) st1).bind fun c st1 => if c = true then mb ρ st1 else .ok d st1 := by unfold eAnd; rw [e1]; rfl
  rw [eq1] at h ⊢
  obtain ⟨k, hk⟩ := of_bad (bad_l h)
  rw [hk, of_some, bind_ok] at h ⊢
  refine DL.tru_ok I1 r1 hk fun t' ht => ?_
  cases k with
  | true =>
    rw [if_pos rfl] at h ⊢
    exact hb.run (I1.tk ht) h (fun v s2 y st2 G2 e2 x2 I2 r2 n2 _ => ⟨y, st2, G2, e2, x1.trans x2, I2, r2, n2.up x1⟩) fun x s2 z => z.up x1 fun _ _ q => q
  | false =>
    rw [if_neg Bool.false_ne_true] at h ⊢
    exact ⟨d, st1, G1, rfl, x1, I1.tk ht, r1.mono (Ext.refl G1) ht, n1⟩
theorem de_or (ha : DE X T a ma) (hb : DE X T (.BoolOp .Or (b :: rest) pos) mb) : DE X T (.BoolOp .Or (a :: b :: rest) pos) (eOr ma mb) := .mk fun pins s G ρ st I h => by
  refine BoolOp_or (ha.run I (bad_l h) (fun u s1 d st1 G1 e1 x1 I1 r1 n1 _ => ?_) fun x s1 z => z.up (Ext.refl G) fun ex st' e1 => by unfold eOr; rw [e1]; rfl)
  have eq1 : eOr ma mb ρ st = (R.of (truth d) st1).bind fun c st1 => if c = true then .ok d st1 else mb ρ st1 := by unfold eOr; rw [e1]; rfl
  rw [eq1] at h ⊢
  obtain ⟨k, hk⟩ := of_bad (bad_l h)
  rw [hk, of_some, bind_ok] at h ⊢
  refine DL.tru_ok I1 r1 hk fun t' ht => ?_
  cases k with
  | false =>
    rw [if_neg Bool.false_ne_true] at h ⊢
    exact hb.run (I1.tk ht) h (fun v s2 y st2 G2 e2 x2 I2 r2 n2 _ => ⟨y, st2, G2, e2, x1.trans x2, I2, r2, n2.up x1⟩) fun x s2 z => z.up x1 fun _ _ q => q
  | true =>
    rw [if_pos rfl] at h ⊢
    exact ⟨d, st1, G1, rfl, x1, I1.tk ht, r1.mono (Ext.refl G1) ht, n1⟩
theorem de_not (ha : DE X T a ma) : DE X T (.UnaryOp .Not a pos) (eNot ma) := .mk fun pins s G ρ st I h => by
  refine UnaryOp_ (ha.run I (bad_l h) (fun u s1 d st1 G1 e1 x1 I1 r1 n1 _ => ?_) fun x s1 z => z.up (Ext.refl G) fun ex st' e1 => by unfold eNot; rw [e1]; rfl)
  have eq1 : eNot ma ρ st = (R.of (truth d) st1).bind fun c st1 => .ok (.bl (!c)) st1 := by unfold eNot; rw [e1]; rfl
  rw [eq1] at h ⊢
  obtain ⟨k, hk⟩ := of_bad (bad_l h)
  rw [hk, of_some, bind_ok]
  exact not_of (DL.tru_ok I1 r1 hk fun t' ht => ⟨_, st1, G1, rfl, x1, I1.tk ht, rfl, NewOk.of rfl⟩)
theorem de_if (hc : DT X T c ta) (ha : DE X T a ma) (hb : DE X T b mb) : DE X T (.IfExp c a b pos) (eIf ta ma mb) := .mk fun pins s G ρ st I h => by
  refine wpAny_IfExp (test_run (hc pins s G ρ st I (bad_l h)) (fun k s1 st1 G1 e1 x1 I1 => ?_) fun x s1 z => z.up (Ext.refl G) fun ex st' e1 => by unfold eIf; rw [e1]; rfl)
  have eq1 : eIf ta ma mb ρ st = if k = true then ma ρ st1 else mb ρ st1 := by unfold eIf; rw [e1]; rfl
  rw [eq1] at h ⊢
  cases k with
  | true => exact ha.run I1 h (fun v s2 y st2 G2 e2 x2 I2 r2 n2 _ => ⟨y, st2, G2, e2, x1.trans x2, I2, r2, n2.up x1⟩) fun x s2 z => z.up x1 fun _ _ q => q
  | false => exact hb.run I1 h (fun v s2 y st2 G2 e2 x2 I2 r2 n2 _ => ⟨y, st2, G2, e2, x1.trans x2, I2, r2, n2.up x1⟩) fun x s2 z => z.up x1 fun _ _ q => q
theorem de_neg (ha : DE X T a ma) : DE X T (.UnaryOp .USub a pos) (eNeg ma) := .mk fun pins s G ρ st I h => by
  refine UnaryOp_ (ha.run I (bad_l h) (fun u s1 d st1 G1 e1 x1 I1 r1 n1 _ => ?_) fun x s1 z => z.up (Ext.refl G) fun ex st' e1 => by unfold eNeg; rw [e1]; rfl)
  have eq1 : eNeg ma ρ st = R.of (negD d) st1 := by unfold eNeg; rw [e1]; rfl
  rw [eq1] at h ⊢
  cases d with
  | int i =>
    obtain ⟨t, rfl⟩ := r1
    exact neg_int ⟨_, st1, G1, rfl, x1, I1.tk (Nat.le_succ _), ⟨_, rfl⟩, NewOk.of rfl⟩
  | _ => exact absurd rfl h
end
end DL
namespace DL
open PySem PySem.Spec PyProof.Rows L2

/-! ### calls of built-in things, by values -/
def CallD (X : Cx) (T : Fx) (f : Value) (p : Store → List D → Option D) : Prop := ∀ (pins : List (Addr × Obj)) (s : Shared) (G : Gh) (ρ : Env_) (st : Store) (us : List Value) (ds : List D) (d : D) (E : Value → Shared → Prop),
  InvD X T pins G ρ st s → RepA T.T G s.toks ds us → p st ds = some d → wpAny (model X.prog X.w) X.A (call f us) (OkP X T pins G ρ (.ok d st)) E s
def eCallP (p : Store → List D → Option D) (ml : EL) : EM := fun ρ st => (ml ρ st).bind fun ds st1 => R.of (p st1 ds) st1
section
variable {X : Cx} {T : Fx} {pins : List (Addr × Obj)} {G G1 : Gh} {ρ : Env_} {st st1 : Store} {s s1 : Shared} {e a b c : Expr} {es : List Expr} {m ma mb mc mu : EM} {ml : EL} {pos p2 p : Pos} {x : Str} {bid ty : String} {pp : Store → List D → Option D}
theorem args_then (ha : DA X T es ml) {f : Value} (hc : CallD X T f pp) (I : InvD X T pins G ρ st s) (hb : eCallP pp ml ρ st ≠ .bad) :
    wpAny (model X.prog X.w) X.A (spliced (backTo pos (starEach es X.env))) (fun us s1 => wpAny (model X.prog X.w) X.A (call f us) (OkP X T pins G ρ (eCallP pp ml ρ st)) (ExP X T pins G ρ (eCallP pp ml ρ st)) s1) (ExP X T pins G ρ (eCallP pp ml ρ st)) s := by
  refine ha.run I (bad_l hb) (fun us s1 ds st1 G1 e1 x1 I1 r1 _ => ?_) fun x s1 z => z.up (Ext.refl G) fun ex st' e1 => by unfold eCallP; rw [e1]; rfl
  have eq1 : eCallP pp ml ρ st = R.of (pp st1 ds) st1 := by unfold eCallP; rw [e1]; rfl
  rw [eq1] at hb ⊢
  obtain ⟨d, hd⟩ := of_bad hb
  rw [hd]
  exact wpAny_mono (hc pins s1 G1 ρ st1 us ds d _ I1 r1 hd) (fun _ _ z => z.up x1 fun _ _ q => q) fun _ _ z => z
theorem de_callB (hc : CallD X T (.builtin bid) pp) (hg : Gl X x) (hm : X.mg x = none) (hv : bootBuiltins x = some (.builtin bid)) (ha : DA X T (e :: es) ml) (hn : x ≠ "__name__" := by decide) (hdb : (x == ("__debug__" : Str)) = false := by decide)
    (he : starEach (e :: es) X.env = (false, eval e X.env) :: starEach es X.env := by rfl) (hpl : (backTo pos (starEach es X.env)).any (·.1) = false := by rfl) : DE X T (.Call (.Name x p) (e :: es) [] pos) (eCallP pp ml) := .mk fun pins s G ρ st I hb => by
  refine wpAny_Call_Name_kw (ld_blt I.inv hg hm hv ?_ hn hdb)
  exact PyProof.Rows.callWith_builtin1 (args_then ha hc I hb) he hpl
theorem de_callT (hc : CallD X T (.type ty) pp) (hg : Gl X x) (hm : X.mg x = none) (hv : bootBuiltins x = some (.type ty)) (ha : DA X T (e :: es) ml) (hn : x ≠ "__name__" := by decide) (hdb : (x == ("__debug__" : Str)) = false := by decide)
    (he : starEach (e :: es) X.env = (false, eval e X.env) :: starEach es X.env := by rfl) (hpl : (backTo pos (starEach es X.env)).any (·.1) = false := by rfl) : DE X T (.Call (.Name x p) (e :: es) [] pos) (eCallP pp ml) := .mk fun pins s G ρ st I hb => by
  refine wpAny_Call_Name_kw (ld_blt I.inv hg hm hv ?_ hn hdb)
  exact PyProof.Rows.callWith_type1 (args_then ha hc I hb) he hpl

/-! ### isinstance(e, T) -/
def tyOf : Vw → String
  | .non => "NoneType" | .bl _ => "bool" | .int _ => "int" | .str _ => "str" | .lst _ => "list" | .tup _ => "tuple"
def isTy (ty : String) (x : D) : Option Bool := x.vw.map fun v => tyOf v == ty || (ty == "int" && tyOf v == "bool")
def eIsI (ty : String) (m : EM) : EM := fun ρ st => (m ρ st).bind fun d st1 => R.of ((isTy ty d).map .bl) st1
def okTy (ty : String) : Bool := ["int", "bool", "str", "tuple", "list"].contains ty
theorem kit_all {K : PySem.W.Frag} {ty : String} (h : okTy ty = true) (v : Vw) : PySem.W.kitOne K (.type (tyOf v)) (.type ty) = some (tyOf v == ty || (ty == "int" && tyOf v == "bool")) := by
  have hm : ty = "int" ∨ ty = "bool" ∨ ty = "str" ∨ ty = "tuple" ∨ ty = "list" := by
    unfold okTy at h
    simpa using h
  rcases hm with rfl | rfl | rfl | rfl | rfl <;> cases v <;> rfl
theorem isinst_run {v : Vw} {u : Value} {Q : Value → Shared → Prop} {E : Value → Shared → Prop} (h : okTy ty = true) (I : InvD X T pins G ρ st s) (k : VwOk T.T G s.toks s.heap v u)
    (hq : ∀ tk, s.toks ≤ tk → Q (.bool (tyOf v == ty || (ty == "int" && tyOf v == "bool"))) { s with toks := tk }) : wpAny (model X.prog X.w) X.A (call (.builtin "isinstance") [u, .type ty]) Q E s := by
  have ki := kit_all (K := X.K) h v
  refine wpAny_mono (PySem.wpAny_toks (show wpAny (model X.prog X.w) X.A (call (.builtin "isinstance") [u, .type ty]) (fun r s' => ∃ tk, r = .bool (tyOf v == ty || (ty == "int" && tyOf v == "bool")) ∧ s' = { s with toks := tk }) E s from ?_)) (fun r s' ⟨hn, tk, h1, h2⟩ => ?_) fun _ _ z => z.2
  · cases k with
    | non => exact PySem.W.kia_one PySem.W.kitx_none I.inv.kIn True.intro ki (fun z => nomatch z) fun tk => ⟨tk, rfl, rfl⟩
    | bl b => exact PySem.W.kia_one PySem.W.kitx_bool I.inv.kIn True.intro ki (fun z => nomatch z) fun tk => ⟨tk, rfl, rfl⟩
    | int i t => exact PySem.W.kia_one PySem.W.kitx_int I.inv.kIn True.intro ki (fun z => nomatch z) fun tk => ⟨tk, rfl, rfl⟩
    | str l t _ => exact PySem.W.kia_one PySem.W.kitx_str I.inv.kIn True.intro ki (fun z => nomatch z) fun tk => ⟨tk, rfl, rfl⟩
    | lst e _ _ => exact PySem.W.kia_one PySem.W.kitx_list I.inv.kIn ⟨_, e, rfl⟩ ki (fun z => nomatch z) fun tk => ⟨tk, rfl, rfl⟩
    | tup e c _ _ _ => exact PySem.W.kia_one PySem.W.kitx_tuple I.inv.kIn ⟨_, e, c⟩ ki (fun z => nomatch z) fun tk => ⟨tk, rfl, rfl⟩
  · subst h1 h2
    exact hq tk hn
theorem de_isI {x1 : Str} {q1 : Pos} (h : okTy ty = true) (hg : Gl X "isinstance") (hm : X.mg "isinstance" = none) (hg1 : Gl X x1) (hm1 : X.mg x1 = none) (hv1 : bootBuiltins x1 = some (.type ty)) (ha : DE X T a ma) (hn1 : x1 ≠ "__name__" := by decide) (hdb1 : (x1 == ("__debug__" : Str)) = false := by decide)
    (he : starEach [a, .Name x1 q1] X.env = [(false, eval a X.env), (false, eval (.Name x1 q1) X.env)] := by rfl) (he2 : starEach [.Name x1 q1] X.env = [(false, eval (.Name x1 q1) X.env)] := by rfl) :
    DE X T (.Call (.Name "isinstance" p) [a, .Name x1 q1] [] pos) (eIsI ty ma) := .mk fun pins s G ρ st I hb => by
  refine wpAny_Call_Name_kw (ld_blt I.inv hg hm (u := .builtin "isinstance") rfl ?_ (by decide) (by decide))
  refine PyProof.Rows.callWith_builtin1 ?_ (by rw [he, he2]) (by rw [he2]; rfl)
  rw [he]
  refine Calls.spliced_cons (ha.run I (bad_l hb) (fun u s1 d st1 G1 e1 x1 I1 r1 _ _ => ?_) fun x s1 z => z.up (Ext.refl G) fun ex st' e1 => by unfold eIsI; rw [e1]; rfl)
  have eq1 : eIsI ty ma ρ st = R.of ((isTy ty d).map .bl) st1 := by unfold eIsI; rw [e1]; rfl
  rw [eq1] at hb ⊢
  obtain ⟨d', hd⟩ := of_bad hb
  obtain ⟨b, h1, h2⟩ := Option.map_eq_some_iff.mp hd
  obtain ⟨v, h3, h4⟩ := Option.map_eq_some_iff.mp h1
  subst h2 h4
  rw [hd]
  refine Calls.spliced_cons (ld_blt I1.inv hg1 hm1 hv1 (Calls.spliced_nil ?_) hn1 hdb1)
  exact isinst_run h I1 (I1.view r1 h3) fun tk ht => ⟨_, st1, G1, rfl, x1, I1.tk ht, rfl, NewOk.of rfl⟩

/-! ### abs, int, len, min, max, .. -/
def p1 (f : D → Option D) : Store → List D → Option D := fun _ ds => match ds with
  | [d] => f d
  | _ => none
def fAbs : D → Option D
  | .int i => some (.int (if i < 0 then -i else i))
  | _ => none
def fInt : D → Option D
  | .int i => some (.int i)
  | .bl b => some (.int (if b then 1 else 0))
  | _ => none
def lenV (x : D) : Option Nat := match x.vw with
  | some (.str l) => some l.length
  | some (.lst l) => some l.length
  | some (.tup l) => some l.length
  | _ => none
def pLen : Store → List D → Option D := fun st ds => match ds with
  | [d] => (lenV (cellL st d)).map fun n => .int n
  | _ => none
def pMin2 : Store → List D → Option D := fun _ ds => match ds with
  | [.int i, .int j] => some (.int (if j < i then j else i))
  | _ => none
def pMax2 : Store → List D → Option D := fun _ ds => match ds with
  | [.int i, .int j] => some (.int (if j > i then j else i))
  | _ => none
def fList (x : D) : Option D := match x.vw with
  | some (.str l) => some (.new (l.map fun c => .str [c]))
  | some (.lst l) => some (.new l)
  | some (.tup l) => some (.new l)
  | _ => none
def fTup (x : D) : Option D := match x.vw with
  | some (.lst l) => some (.tup l)
  | some (.tup l) => some x
  | _ => none
def fBool (x : D) : Option D := match x with
  | .int i => some (.bl (i != 0))
  | .bl b => some (.bl b)
  | _ => none
def blsOf : List D → Option (List Bool)
  | [] => some []
  | .bl b :: ds => (blsOf ds).map (b :: ·)
  | _ :: _ => none
def intsOf : List D → Option (List Int)
  | [] => some []
  | .int b :: ds => (intsOf ds).map (b :: ·)
  | _ :: _ => none
def onL (f : List D → Option D) (x : D) : Option D := match x.vw with
  | some (.lst l) => f l
  | _ => none
def fAll : D → Option D := onL fun l => (blsOf l).map fun bs => .bl (bs.all id)
def fAny : D → Option D := onL fun l => (blsOf l).map fun bs => .bl (bs.any id)
def fSum : D → Option D := onL fun l => (intsOf l).map fun ns => .int ns.sum
def maxOf : List Int → Option Int
  | [] => none
  | n :: ns => some (ns.foldl max n)
def minOf : List Int → Option Int
  | [] => none
  | n :: ns => some (ns.foldl min n)
def fMax : D → Option D := onL fun l => (intsOf l).bind fun ns => (maxOf ns).map .int
def fMin : D → Option D := onL fun l => (intsOf l).bind fun ns => (minOf ns).map .int
theorem c_abs : CallD X T (.builtin "abs") (p1 fAbs) := fun pins s G ρ st us ds d E I r h => by
  unfold p1 at h
  split at h
  · next x =>
    obtain ⟨u, rfl, r1⟩ := r.one
    cases x with
    | int i =>
      cases h
      obtain ⟨t, rfl⟩ := r1
      refine wpAny_mono (PySem.wpAny_toks (call_abs_int (Q := fun v s' => ∃ u tk, v = .int (if i < 0 then -i else i) u ∧ s' = { s with toks := tk }) fun u tk => ⟨u, tk, rfl, rfl⟩)) (fun v s' ⟨hn, u, tk, h1, h2⟩ => ?_) fun _ _ z => z.2
      subst h1 h2
      exact ok_int I hn
    | _ => cases h
  · cases h
theorem c_int : CallD X T (.type "int") (p1 fInt) := fun pins s G ρ st us ds d E I r h => by
  unfold p1 at h
  split at h
  · next x =>
    obtain ⟨u, rfl, r1⟩ := r.one
    cases x with
    | int i =>
      cases h
      obtain ⟨t, rfl⟩ := r1
      exact call_int_int (ok_same I ⟨t, rfl⟩ rfl)
    | bl b =>
      cases h
      cases (show u = .bool b from r1)
      exact call_int_bool (ok_int I (Nat.le_succ _))
    | _ => cases h
  · cases h
theorem c_bool : CallD X T (.type "bool") (p1 fBool) := fun pins s G ρ st us ds d E I r h => by
  unfold p1 at h
  split at h
  · next x =>
    obtain ⟨u, rfl, r1⟩ := r.one
    cases x with
    | int i =>
      cases h
      obtain ⟨t, rfl⟩ := r1
      exact call_bool_int (ok_bl I rfl)
    | bl b =>
      cases h
      cases (show u = .bool b from r1)
      exact call_bool_bool (ok_bl I rfl)
    | _ => cases h
  · cases h
theorem c_len : CallD X T (.builtin "len") pLen := fun pins s G ρ st us ds d E I r h => by
  have z0 := sizeLine_eq
  unfold pLen at h
  split at h
  · next x =>
    obtain ⟨u, rfl, r1⟩ := r.one
    obtain ⟨n, h1, h2⟩ := Option.map_eq_some_iff.mp h
    subst h2
    have viaL : ∀ (ds : List D) (us : List Value) (o : Addr) (k : Nat), s.heap.get? o = some { cls := .type "list", data := .seq us.toArray k } → us.length ≤ sizeLine → Reps T.T G s.toks ds us → ds.length = n →
        wpAny (model X.prog X.w) X.A (call (.builtin "len") [.ref o]) (OkP X T pins G ρ (.ok (.int n) st)) E s := by
      intro ds us o k h z g hn
      have hl := g.length
      refine Calls.call_len_list (isList_of h) (by rw [List.size_toArray]; omega) ?_
      rw [List.size_toArray, ← hl, hn]
      exact ok_int I (by omega)
    cases x with
    | ref k =>
      unfold cellL at h1
      simp only at h1
      split at h1
      · next ds hk =>
        cases h1
        obtain ⟨o, rfl, ho⟩ := r1
        obtain ⟨ob, us, q1, ⟨⟨n, hd⟩, z⟩, q3⟩ := I.sto.cell k o _ ho hk
        subst hd
        exact viaL ds us o n (I.atM q1) z q3 rfl
      · cases h1
    | _ =>
      unfold cellL lenV at h1
      simp only at h1
      split at h1
      · next l hv =>
        have k := I.view r1 hv
        cases h1
        cases k with
        | str l t z =>
          have hL : (S l).length = l.length := SX.S_len l
          refine PySem.P.len_str (by omega) ?_
          rw [hL]
          exact ok_int I (by omega)
      · next l hv =>
        have k := I.view r1 hv
        cases h1
        cases k with
        | @lst _ o us n h1 z1 g1 => exact viaL l us o n h1 z1 g1 rfl
      · next l hv =>
        have k := I.view r1 hv
        cases h1
        cases k with
        | @tup _ o us n ob h1 c1 d1 z1 g1 =>
          have hl := g1.length
          refine len_tuple (show IsTup s.heap o us.toArray from ⟨_, h1, c1, _, d1⟩) (by rw [List.size_toArray]; omega) ?_
          rw [List.size_toArray, ← hl]
          exact ok_int I (by omega)
      · cases h1
  · cases h
theorem InvD.hk {h' : Heap} {t' : Nat} {s' : Shared} (I : InvD X T pins G ρ st s) (e : s' = { s with heap := h', toks := t' }) (k : ∀ b u, s.heap.get? b = some u → h'.get? b = some u) (hn : s.toks ≤ s'.toks) : InvD X T pins G ρ st s' := by
  subst e
  exact I.kept k hn
theorem c_min2 (hc : X.calm = true) : CallD X T (.builtin "min") pMin2 := fun pins s G ρ st us ds d E I r h => by
  unfold pMin2 at h
  split at h
  · next i j =>
    obtain ⟨u, v, rfl, ⟨t, rfl⟩, ⟨t', rfl⟩⟩ := r.two
    cases h
    refine wpAny_mono (PySem.wpAny_toks (min_two_ints (I.inv.ok.hd hc) (Q := fun v s' => (∃ t0, v = .int (if j < i then j else i) t0) ∧ ∃ h' tk, s' = { s with heap := h', toks := tk } ∧ ∀ b u, s.heap.get? b = some u → h'.get? b = some u) fun h' tk k => ⟨?_, h', tk, rfl, k⟩)) (fun v s' ⟨hn, ⟨t0, h1⟩, h', tk, h2, k⟩ => ?_) fun _ _ z => z.2
    · by_cases hj : j < i
      · rw [if_pos hj, if_pos hj]; exact ⟨_, rfl⟩
      · rw [if_neg hj, if_neg hj]; exact ⟨_, rfl⟩
    · exact ⟨_, st, G, rfl, Ext.refl G, I.hk h2 k hn, ⟨t0, h1⟩, NewOk.of rfl⟩
  · cases h
theorem c_max2 (hc : X.calm = true) : CallD X T (.builtin "max") pMax2 := fun pins s G ρ st us ds d E I r h => by
  unfold pMax2 at h
  split at h
  · next i j =>
    obtain ⟨u, v, rfl, ⟨t, rfl⟩, ⟨t', rfl⟩⟩ := r.two
    cases h
    refine wpAny_mono (PySem.wpAny_toks (max_two_ints (I.inv.ok.hd hc) (Q := fun v s' => (∃ t0, v = .int (if j > i then j else i) t0) ∧ ∃ h' tk, s' = { s with heap := h', toks := tk } ∧ ∀ b u, s.heap.get? b = some u → h'.get? b = some u) fun h' tk k => ⟨?_, h', tk, rfl, k⟩)) (fun v s' ⟨hn, ⟨t0, h1⟩, h', tk, h2, k⟩ => ?_) fun _ _ z => z.2
    · by_cases hj : j > i
      · rw [if_pos hj, if_pos hj]; exact ⟨_, rfl⟩
      · rw [if_neg hj, if_neg hj]; exact ⟨_, rfl⟩
    · exact ⟨_, st, G, rfl, Ext.refl G, I.hk h2 k hn, ⟨t0, h1⟩, NewOk.of rfl⟩
  · cases h
theorem blsOf_eq : ∀ {ds : List D} {bs : List Bool} {T : Tx} {G : Gh} {n : Nat} {us : List Value}, blsOf ds = some bs → Reps T G n ds us → us = bs.map Value.bool
  | [], _, _, _, _, _, e, r => by
    cases e
    exact r
  | .bl b :: ds, bs, _, _, _, _, e, ⟨u, us, h1, _, h2, h3⟩ => by
    obtain ⟨bs', e1, e2⟩ := Option.map_eq_some_iff.mp (show (blsOf ds).map (b :: ·) = some bs from e)
    subst e2 h1
    cases (show u = .bool b from h2)
    rw [List.map_cons, blsOf_eq e1 h3]
theorem intsOf_eq : ∀ {ds : List D} {ns : List Int} {T : Tx} {G : Gh} {n : Nat} {us : List Value}, intsOf ds = some ns → Reps T G n ds us → IntsAre us ns
  | [], _, _, _, _, _, e, r => by
    cases e
    cases (show _ = [] from r)
    exact .nil
  | .int b :: ds, bs, _, _, _, _, e, ⟨u, us, h1, _, h2, h3⟩ => by
    obtain ⟨bs', e1, e2⟩ := Option.map_eq_some_iff.mp (show (intsOf ds).map (b :: ·) = some bs from e)
    subst e2 h1
    obtain ⟨t, rfl⟩ := (show ∃ t, u = .int b t from h2)
    exact .cons b t (intsOf_eq e1 h3)
theorem onL_some {f : List D → Option D} {x d : D} (h : onL f x = some d) : ∃ l, x.vw = some (.lst l) ∧ f l = some d := by
  unfold onL at h
  split at h
  · next l hv => exact ⟨l, hv, h⟩
  · cases h
/-- a list's items, for a call of one list -/
theorem one_list {f : List D → Option D} {us : List Value} {ds : List D} {d : D} (I : InvD X T pins G ρ st s) (r : RepA T.T G s.toks ds us) (h : p1 (onL f) st ds = some d) : ∃ l o vs k, us = [.ref o] ∧ s.heap.get? o = some { cls := .type "list", data := .seq vs.toArray k } ∧ Reps T.T G s.toks l vs ∧ f l = some d := by
  unfold p1 at h
  split at h
  · obtain ⟨u, rfl, r1⟩ := r.one
    obtain ⟨l, hv, hf⟩ := onL_some h
    have k := I.view r1 hv
    cases k with
    | @lst _ o vs n h1 z1 g1 => exact ⟨l, o, vs, n, rfl, h1, g1, hf⟩
  · cases h
theorem c_all (hc : X.calm = true) : CallD X T (.builtin "all") (p1 fAll) := fun pins s G ρ st us ds d E I r h => by
  obtain ⟨l, o, vs, k, rfl, h1, g1, hf⟩ := one_list I r h
  obtain ⟨bs, e1, e2⟩ := Option.map_eq_some_iff.mp hf
  subst e2
  have hb := blsOf_eq e1 g1
  refine wpAny_mono (PySem.wpAny_toks (call_all_walk (Q := fun v s' => v = .bool (bs.all id) ∧ ∃ h' tk, s' = { s with heap := h', toks := tk } ∧ ∀ b u, s.heap.get? b = some u → h'.get? b = some u) (iter_any (isList_of h1) fun s₂ e2 st' hne => ?_))) (fun v s' ⟨hn, h1, h', tk, h2, k⟩ => ?_) fun _ _ z => z.2
  · subst e2
    refine ⟨_, _, _, _, _, _, _, rfl, Walks.list (A := X.A.in1) (I.inv.ok.hd hc) _ o hne vs.toArray, st', truth_bools hb, fun h' tk hk => ⟨?_, h', tk, rfl, fun b u eo => hk b u (fun hmem => ?_) (Heap.get?_push_of_some _ eo)⟩⟩
    · show Value.bool _ = Value.bool _
      rw [← L2.all_range, hb, List.size_toArray, List.length_map]
    · rcases List.mem_cons.mp hmem with e1 | hmem
      · exact absurd (e1 ▸ Heap.lt_size eo) (Nat.lt_irrefl _)
      · cases hmem
  · subst h1
    exact ⟨_, st, G, rfl, Ext.refl G, I.hk h2 k hn, rfl, NewOk.of rfl⟩
theorem c_any (hc : X.calm = true) : CallD X T (.builtin "any") (p1 fAny) := fun pins s G ρ st us ds d E I r h => by
  obtain ⟨l, o, vs, k, rfl, h1, g1, hf⟩ := one_list I r h
  obtain ⟨bs, e1, e2⟩ := Option.map_eq_some_iff.mp hf
  subst e2
  have hb := blsOf_eq e1 g1
  refine wpAny_mono (PySem.wpAny_toks (call_any_walk (Q := fun v s' => v = .bool (bs.any id) ∧ ∃ h' tk, s' = { s with heap := h', toks := tk } ∧ ∀ b u, s.heap.get? b = some u → h'.get? b = some u) (iter_any (isList_of h1) fun s₂ e2 st' hne => ?_))) (fun v s' ⟨hn, h1, h', tk, h2, k⟩ => ?_) fun _ _ z => z.2
  · subst e2
    refine ⟨_, _, _, _, _, _, _, rfl, Walks.list (A := X.A.in1) (I.inv.ok.hd hc) _ o hne vs.toArray, st', truth_bools hb, fun h' tk hk => ⟨?_, h', tk, rfl, fun b u eo => hk b u (fun hmem => ?_) (Heap.get?_push_of_some _ eo)⟩⟩
    · show Value.bool _ = Value.bool _
      rw [← L2.any_range, hb, List.size_toArray, List.length_map]
    · rcases List.mem_cons.mp hmem with e1 | hmem
      · exact absurd (e1 ▸ Heap.lt_size eo) (Nat.lt_irrefl _)
      · cases hmem
  · subst h1
    exact ⟨_, st, G, rfl, Ext.refl G, I.hk h2 k hn, rfl, NewOk.of rfl⟩
theorem c_sum (hc : X.calm = true) : CallD X T (.builtin "sum") (p1 fSum) := fun pins s G ρ st us ds d E I r h => by
  obtain ⟨l, o, vs, k, rfl, h1, g1, hf⟩ := one_list I r h
  obtain ⟨ns, e1, e2⟩ := Option.map_eq_some_iff.mp hf
  subst e2
  refine wpAny_mono (PySem.wpAny_toks (sum_raw (I.inv.ok.hd hc) (isList_of h1) (intsOf_eq e1 g1) (Q := fun v s' => (∃ t0, v = .int ns.sum t0) ∧ ∃ h' tk, s' = { s with heap := h', toks := tk } ∧ ∀ b u, s.heap.get? b = some u → h'.get? b = some u) fun h' tk t' hk => ⟨⟨_, rfl⟩, h', tk, rfl, hk⟩)) (fun v s' ⟨hn, h1, h', tk, h2, k⟩ => ?_) fun _ _ z => z.2
  exact ⟨_, st, G, rfl, Ext.refl G, I.hk h2 k hn, h1, NewOk.of rfl⟩
theorem foldl_max_mem (n : Int) : ∀ (ns : List Int), (ns.foldl max n = n ∨ ns.foldl max n ∈ ns) ∧ n ≤ ns.foldl max n ∧ ∀ a ∈ ns, a ≤ ns.foldl max n := by
  intro ns
  induction ns generalizing n with
  | nil => exact ⟨.inl rfl, Int.le_refl _, fun _ h => by simp at h⟩
  | cons m ns ih =>
    obtain ⟨h1, h2, h3⟩ := ih (max n m)
    rw [List.foldl_cons]
    refine ⟨?_, by omega, fun a ha => ?_⟩
    · rcases h1 with h1 | h1
      · rw [h1]
        rcases Int.le_total n m with q | q
        · right; rw [Int.max_eq_right q]; exact List.mem_cons_self
        · left; exact Int.max_eq_left q
      · right; exact List.mem_cons_of_mem _ h1
    · rcases List.mem_cons.mp ha with e | e
      · subst e; omega
      · exact h3 a e
theorem foldl_min_mem (n : Int) : ∀ (ns : List Int), (ns.foldl min n = n ∨ ns.foldl min n ∈ ns) ∧ ns.foldl min n ≤ n ∧ ∀ a ∈ ns, ns.foldl min n ≤ a := by
  intro ns
  induction ns generalizing n with
  | nil => exact ⟨.inl rfl, Int.le_refl _, fun _ h => by simp at h⟩
  | cons m ns ih =>
    obtain ⟨h1, h2, h3⟩ := ih (min n m)
    rw [List.foldl_cons]
    refine ⟨?_, by omega, fun a ha => ?_⟩
    · rcases h1 with h1 | h1
      · rw [h1]
        rcases Int.le_total n m with q | q
        · left; exact Int.min_eq_left q
        · right; rw [Int.min_eq_right q]; exact List.mem_cons_self
      · right; exact List.mem_cons_of_mem _ h1
    · rcases List.mem_cons.mp ha with e | e
      · subst e; omega
      · exact h3 a e
theorem maxOf_eq {ns : List Int} {k m : Int} (h : maxOf ns = some k) (h1 : m ∈ ns) (h2 : ∀ a ∈ ns, a ≤ m) : m = k ∧ 0 < ns.length := by
  cases ns with
  | nil => cases h
  | cons n ns =>
    cases h
    obtain ⟨g1, g2, g3⟩ := foldl_max_mem n ns
    refine ⟨Int.le_antisymm ?_ ?_, Nat.succ_pos _⟩
    · rcases List.mem_cons.mp h1 with e | e
      · subst e; exact g2
      · exact g3 m e
    · rcases g1 with e | e
      · rw [e]; exact h2 n List.mem_cons_self
      · exact h2 _ (List.mem_cons_of_mem _ e)
theorem minOf_eq {ns : List Int} {k m : Int} (h : minOf ns = some k) (h1 : m ∈ ns) (h2 : ∀ a ∈ ns, m ≤ a) : m = k := by
  cases ns with
  | nil => cases h
  | cons n ns =>
    cases h
    obtain ⟨g1, g2, g3⟩ := foldl_min_mem n ns
    refine Int.le_antisymm ?_ ?_
    · rcases g1 with e | e
      · rw [e]; exact h2 n List.mem_cons_self
      · exact h2 _ (List.mem_cons_of_mem _ e)
    · rcases List.mem_cons.mp h1 with e | e
      · subst e; exact g2
      · exact g3 m e
theorem c_max (hc : X.calm = true) : CallD X T (.builtin "max") (p1 fMax) := fun pins s G ρ st us ds d E I r h => by
  obtain ⟨l, o, vs, k, rfl, h1, g1, hf⟩ := one_list I r h
  obtain ⟨ns, e1, e2⟩ := Option.bind_eq_some_iff.mp hf
  obtain ⟨k, e3, e4⟩ := Option.map_eq_some_iff.mp e2
  subst e4
  have hne : 0 < ns.length := by
    cases ns with
    | nil => cases e3
    | cons _ _ => exact Nat.succ_pos _
  refine wpAny_mono (PySem.wpAny_toks (max_raw (I.inv.ok.hd hc) (isList_of h1) (intsOf_eq e1 g1) hne (Q := fun v s' => (∃ t0, v = .int k t0) ∧ ∃ h' tk, s' = { s with heap := h', toks := tk } ∧ ∀ b u, s.heap.get? b = some u → h'.get? b = some u) fun h' tk M t' hk m1 m2 => ⟨⟨t', by rw [(maxOf_eq e3 m1 m2).1]⟩, h', tk, rfl, hk⟩)) (fun v s' ⟨hn, h1, h', tk, h2, k⟩ => ?_) fun _ _ z => z.2
  exact ⟨_, st, G, rfl, Ext.refl G, I.hk h2 k hn, h1, NewOk.of rfl⟩
theorem c_min (hc : X.calm = true) : CallD X T (.builtin "min") (p1 fMin) := fun pins s G ρ st us ds d E I r h => by
  obtain ⟨l, o, vs, k, rfl, h1, g1, hf⟩ := one_list I r h
  obtain ⟨ns, e1, e2⟩ := Option.bind_eq_some_iff.mp hf
  obtain ⟨k, e3, e4⟩ := Option.map_eq_some_iff.mp e2
  subst e4
  have hne : 0 < ns.length := by
    cases ns with
    | nil => cases e3
    | cons _ _ => exact Nat.succ_pos _
  refine wpAny_mono (PySem.wpAny_toks (min_raw (I.inv.ok.hd hc) (isList_of h1) (intsOf_eq e1 g1) hne (Q := fun v s' => (∃ t0, v = .int k t0) ∧ ∃ h' tk, s' = { s with heap := h', toks := tk } ∧ ∀ b u, s.heap.get? b = some u → h'.get? b = some u) fun h' tk M t' hk m1 m2 => ⟨⟨t', by rw [minOf_eq e3 m1 m2]⟩, h', tk, rfl, hk⟩)) (fun v s' ⟨hn, h1, h', tk, h2, k⟩ => ?_) fun _ _ z => z.2
  exact ⟨_, st, G, rfl, Ext.refl G, I.hk h2 k hn, h1, NewOk.of rfl⟩
/-- min or max of two ints, or of a list -/
def orP (p q : Store → List D → Option D) : Store → List D → Option D := fun st ds => match p st ds with
  | some d => some d
  | none => q st ds
theorem CallD.or {f : Value} {p q : Store → List D → Option D} (h1 : CallD X T f p) (h2 : CallD X T f q) : CallD X T f (orP p q) := fun pins s G ρ st us ds d E I r h => by
  unfold orP at h
  split at h
  · next d' e =>
    cases h
    exact h1 pins s G ρ st us ds _ E I r e
  · exact h2 pins s G ρ st us ds d E I r h
end
end DL
namespace DL
open PySem PySem.Spec PyProof.Rows L2
section
variable {X : Cx} {T : Fx} {pins : List (Addr × Obj)} {G G1 : Gh} {ρ : Env_} {st st1 : Store} {s s1 : Shared} {e a b c o : Expr} {es : List Expr} {m ma mb mc mu mo : EM} {ml : EL} {pos p2 p apos : Pos} {x : Str} {bid ty : String}
/-- a new list, laid anywhere new -/
theorem ok_newG {ds : List D} {us : List Value} {k t' : Nat} {h' : Heap} {l : Addr} (I : InvD X T pins G ρ st s) (kp : ∀ b u, s.heap.get? b = some u → h'.get? b = some u) (hl : s.heap.objs.size ≤ l) (e : h'.get? l = some { cls := .type "list", data := .seq us.toArray k }) (h : s.toks ≤ t')
    (r : Reps T.T G t' ds us) (z : us.length ≤ sizeLine) : OkP X T pins G ρ (.ok (.new ds) st) (.ref l) { s with heap := h', toks := t' } := by
  have hn := I.free hl
  refine ⟨_, st, _, rfl, Ext.laid (u := mu l { cls := .type "list", data := .seq us.toArray k }) hn, I.laid kp hl (ok_mu e) h, ?_, ?_⟩
  · exact ⟨_, _, us, rfl, upd_same, notin_as I hn, notin_ow I hn, ⟨⟨k, rfl⟩, z⟩, Reps.mono (Ext.laid hn) (Nat.le_refl _) r⟩
  · rintro es b _ e2
    injection e2 with e3
    rw [← e3]
    exact hn
theorem ok_tupG {ds : List D} {us : List Value} {k t' : Nat} {h' : Heap} {l : Addr} (I : InvD X T pins G ρ st s) (kp : ∀ b u, s.heap.get? b = some u → h'.get? b = some u) (hl : s.heap.objs.size ≤ l) (e : h'.get? l = some { cls := .type "tuple", data := .seq us.toArray k }) (h : s.toks ≤ t')
    (r : Reps T.T G t' ds us) (z : us.length ≤ sizeLine) : OkP X T pins G ρ (.ok (.tup ds) st) (.ref l) { s with heap := h', toks := t' } := by
  have hn := I.free hl
  refine ⟨_, st, _, rfl, Ext.laid (u := fz { cls := .type "tuple", data := .seq us.toArray k }) hn, I.laid kp hl (ok_fz e) h, ?_, NewOk.of rfl⟩
  exact ⟨_, _, us, rfl, upd_same, ⟨rfl, ⟨k, rfl⟩, z⟩, Reps.mono (Ext.laid hn) (Nat.le_refl _) r⟩
/-! ### list(..), tuple(..), str(..) -/
def fListU (x : D) : Option D := match x.vw with
  | some (.str l) => some (.new (l.map fun c => .ust [c]))
  | some (.lst l) => some (.new l)
  | some (.tup l) => some (.new l)
  | _ => none
theorem c_list (hc : X.calm = true) : CallD X T (.type "list") (p1 fListU) := fun pins s G ρ st us ds d E I r h => by
  have z0 := sizeLine_eq
  unfold p1 at h
  split at h
  · next x =>
    obtain ⟨u, rfl, r1⟩ := r.one
    unfold fListU at h
    split at h
    · next l hv =>
      cases h
      have k := I.view r1 hv
      cases k with
      | str l t z =>
        refine wpAny_mono (PySem.wpAny_toks (call_list_str (I.inv.ok.hd hc) (S l) t (Q := fun v s' => ∃ h' tk us c', v = .ref s.heap.objs.size ∧ s' = { s with heap := h', toks := tk } ∧ (∀ b u, s.heap.get? b = some u → h'.get? b = some u) ∧ h'.get? s.heap.objs.size = some { cls := .type "list", data := .seq (us : List Value).toArray c' } ∧
          us.length = l.length ∧ Reps T.T G s.toks (l.map fun c => D.ust [c]) us) (fun h' tk acc' c' kp e ha => ⟨h', tk, acc'.toList, c', rfl, rfl, kp, by simpa using e, ?_, ?_⟩) (by rw [z0] at z ⊢; exact z))) (fun v s' ⟨hn, h', tk, us, c', h1, h2, kp, e, hl, g⟩ => ?_) fun _ _ z => z.2
        · have := ha.1
          simpa using this
        · have h1 : acc'.toList.length = l.length := by have := ha.1; simpa using this
          have h2 : ∀ j v, acc'.toList[j]? = some v → ∃ c u, l[j]? = some c ∧ v = Value.str ⟨#[c]⟩ u := fun j v hj => by
            obtain ⟨c, u, hc, e⟩ := ha.2 j v (by rw [← Array.getElem?_toList]; exact hj)
            exact ⟨c, u, by simpa using hc, e⟩
          generalize acc'.toList = us at h1 h2
          clear ha e kp hv r1 I r
          induction l generalizing us with
          | nil =>
            cases us with
            | nil => exact rfl
            | cons _ _ => simp at h1
          | cons c l ih =>
            cases us with
            | nil => simp at h1
            | cons u us =>
              obtain ⟨c0, t0, e1, e2⟩ := h2 0 u rfl
              simp at e1
              subst e1
              subst e2
              exact ⟨_, us, rfl, rfl, ⟨t0, rfl, by rw [z0]; simp⟩, ih (by rw [List.length_cons] at z; omega) us (by simpa using h1) fun j v hj => by
                obtain ⟨c, u, g1, g2⟩ := h2 (j + 1) v (by simpa using hj)
                exact ⟨c, u, by simpa using g1, g2⟩⟩
        · subst h1 h2
          exact ok_newG I kp (Nat.le_refl _) e hn (Reps.mono (Ext.refl G) hn g) (by omega)
    · next l hv =>
      cases h
      have k := I.view r1 hv
      cases k with
      | @lst _ o us n h1 z1 g1 =>
        refine call_list_seq o (.inl rfl) h1 rfl rfl (fun h' c' kp e => ?_) (by rw [List.size_toArray]; exact z1)
        exact ok_newG (t' := s.toks) I kp (Nat.le_refl _) e (Nat.le_refl _) g1 z1
    · next l hv =>
      cases h
      have k := I.view r1 hv
      cases k with
      | @tup _ o us n ob h1 c1 d1 z1 g1 =>
        refine call_list_seq o (.inr rfl) h1 c1 d1 (fun h' c' kp e => ?_) (by rw [List.size_toArray]; exact z1)
        exact ok_newG (t' := s.toks) I kp (Nat.le_refl _) e (Nat.le_refl _) g1 z1
    · cases h
  · cases h
theorem c_tuple : CallD X T (.type "tuple") (p1 fTup) := fun pins s G ρ st us ds d E I r h => by
  unfold p1 at h
  split at h
  · next x =>
    obtain ⟨u, rfl, r1⟩ := r.one
    unfold fTup at h
    split at h
    · next l hv =>
      cases h
      have k := I.view r1 hv
      cases k with
      | @lst _ o us n h1 z1 g1 =>
        refine call_tuple_list (isList_of h1) (fun h' kp => ?_) (by rw [List.size_toArray]; exact z1)
        have J := I.kept (h' := h') (t' := s.toks) kp (Nat.le_refl _)
        exact ok_tup (s := { s with heap := h' }) (t' := s.toks) J g1 z1 (Nat.le_refl _)
    · next l hv =>
      cases h
      have k := I.view r1 hv
      cases k with
      | @tup _ o us n ob h1 c1 d1 z1 g1 =>
        refine call_tuple_same (items := us.toArray) ⟨_, h1, c1, _, d1⟩ (ok_same I r1 ?_)
        cases d <;> first | rfl | cases hv
    · cases h
  · cases h
def fStr : D → Option D
  | .int i => if i.natAbs < 2 ^ 1000 then some (.str (Str.ofString (toString i)).cps.toList) else none
  | .str l => some (.str l)
  | .cst l => some (.cst l)
  | .ust l => some (.ust l)
  | _ => none
theorem log2_lt {n k : Nat} (h : n < 2 ^ k) : n.log2 < k ∨ k = 0 := by
  by_cases hk : k = 0
  · exact .inr hk
  · left
    by_cases hn : n = 0
    · subst hn
      show Nat.log2 0 < k
      rw [show Nat.log2 0 = 0 by decide]
      omega
    · exact (Nat.log2_lt hn).mpr h

/-! ### methods of texts -/
def MetD (X : Cx) (T : Fx) (bid : String) (p : Store → D → List D → Option D) : Prop := ∀ (pins : List (Addr × Obj)) (s : Shared) (G : Gh) (ρ : Env_) (st : Store) (u : Value) (us : List Value) (x : D) (ds : List D) (d : D) (E : Value → Shared → Prop),
  InvD X T pins G ρ st s → Rep T.T G s.toks x u → RepA T.T G s.toks ds us → p st x ds = some d → wpAny (model X.prog X.w) X.A (call (.builtin bid) (u :: us)) (OkP X T pins G ρ (.ok d st)) E s
def eMet (p : Store → D → List D → Option D) (mo : EM) (ml : EL) : EM := fun ρ st => (mo ρ st).bind fun x st1 => if (txt x).isSome = true then (ml ρ st1).bind fun ds st2 => R.of (p st2 x ds) st2 else .bad
theorem met_run {pp : Store → D → List D → Option D} {name : Str} (slot : Slot "str" name bid) (hty : typeOf (.builtin bid) = pure (.type "method_descriptor")) (hp : MetD X T bid pp) (ho : DE X T o mo) (ha : DA X T (e :: es) ml) (I : InvD X T pins G ρ st s) (hb : eMet pp mo ml ρ st ≠ .bad)
    (hs : starEach (e :: es) X.env = (false, eval e X.env) :: starEach es X.env) (hpl : (backTo pos (starEach es X.env)).any (·.1) = false) :
    wpAny (model X.prog X.w) X.A (eval o X.env) (fun ov s₁ => MethodOnS X.prog X.w X.A (ExP X T pins G ρ (eMet pp mo ml ρ st)) name ov pos ((false, eval e X.env) :: backTo pos (starEach es X.env)) (OkP X T pins G ρ (eMet pp mo ml ρ st)) s₁) (ExP X T pins G ρ (eMet pp mo ml ρ st)) s := by
  refine ho.run I (bad_l hb) (fun u s1 x st1 G1 e1 x1 I1 r1 _ _ => ?_) fun x s1 z => z.up (Ext.refl G) fun ex st' e1 => by unfold eMet; rw [e1]; rfl
  have eq1 : eMet pp mo ml ρ st = if (txt x).isSome = true then (ml ρ st1).bind fun ds st2 => R.of (pp st2 x ds) st2 else .bad := by unfold eMet; rw [e1]; rfl
  rw [eq1] at hb ⊢
  by_cases hx : (txt x).isSome = true
  · rw [if_pos hx] at hb ⊢
    obtain ⟨l, hl⟩ := Option.isSome_iff_exists.mp hx
    obtain ⟨t, hu, _⟩ := txt_view r1 hl
    have hT : s1.TypeIs u "str" := by rw [hu]; exact typeIs_str _ _ _
    have go := ha.run (pos := pos) (Q := fun us s2 => wpAny (model X.prog X.w) X.A (call (.builtin bid) (u :: us)) (OkP X T pins G ρ ((ml ρ st1).bind fun ds st2 => R.of (pp st2 x ds) st2)) (ExP X T pins G ρ ((ml ρ st1).bind fun ds st2 => R.of (pp st2 x ds) st2)) s2) (E := ExP X T pins G ρ ((ml ρ st1).bind fun ds st2 => R.of (pp st2 x ds) st2)) I1 (bad_l hb) (fun us s2 ds st2 G2 e2 x2 I2 r2 hn => by
        rw [e2, bind_ok] at hb ⊢
        obtain ⟨d, hd⟩ := of_bad hb
        rw [hd]
        exact wpAny_mono (hp pins s2 G2 ρ st2 u us x ds d _ I2 (r1.mono x2 hn) r2 hd) (fun _ _ z => z.up (x1.trans x2) fun _ _ q => q) fun _ _ z => z) fun x s1 z => z.up x1 fun ex st' e1 => by rw [e1]; rfl
    rw [hs] at go
    exact ⟨"str", _, F.plainAttrs_str, slot, hty, hT, (by rw [hu]; exact fun _ e => nomatch e), Calls.callWith_builtin (by rw [List.any_cons, hpl]; rfl) (Calls.evalArgs_plain go)⟩
  · rw [if_neg hx] at hb
    exact absurd rfl hb
theorem de_m1 {pp : Store → D → List D → Option D} {name : Str} (slot : Slot "str" name bid) (hty : typeOf (.builtin bid) = pure (.type "method_descriptor")) (hp : MetD X T bid pp) (ho : DE X T o mo) (ha : DA X T [e] ml)
    (hs : starEach [e] X.env = [(false, eval e X.env)] := by rfl) (hbase : attributeBase o name X.env (eval o X.env) = eval o X.env := by rfl) (hline : (apos.endLine == pos.line) = true := by rfl) : DE X T (.Call (.Attribute o name apos) [e] [] pos) (eMet pp mo ml) := .mk fun pins s G ρ st I hb =>
  PySem.Call_method1 hbase hs hline (met_run (es := []) (pos := pos) slot hty hp ho ha I hb hs rfl)
/-! join -/
def txtsOf : List D → Option (List (List Nat))
  | [] => some []
  | d :: ds => match txt d, txtsOf ds with
    | some l, some ls => some (l :: ls)
    | _, _ => none
def joinR (a : List Nat) (ds : List D) (ls : List (List Nat)) : D := match ds with
  | [d] => d
  | _ => .str (TL.joinL a ls)
def joinD (a : List Nat) (ds : List D) : Option D := (txtsOf ds).bind fun ls => if (ls.map List.length).sum + ls.length * a.length ≤ 16777216 then some (joinR a ds ls) else none
def pJoin : Store → D → List D → Option D := fun _ x ds => match txt x, ds with
  | some a, [y] => match y.vw with
    | some (.lst ds) => joinD a ds
    | some (.tup ds) => joinD a ds
    | _ => none
  | _, _ => none
theorem txts_vals {T : Tx} {G : Gh} {n : Nat} : ∀ {ds : List D} {us : List Value} {ls : List (List Nat)}, txtsOf ds = some ls → Reps T G n ds us → ∃ l : List (Str × Tok), us = strValues l ∧ l.map (·.1) = ls.map S
  | [], us, ls, e, r => by
    cases e
    cases (show us = [] from r)
    exact ⟨[], rfl, rfl⟩
  | d :: ds, _, ls, e, ⟨u, us, h1, _, h2, h3⟩ => by
    unfold txtsOf at e
    split at e
    · next l ls' e1 e2 =>
      cases e
      obtain ⟨lv, g1, g2⟩ := txts_vals e2 h3
      have : ∃ t, u = .str (S l) t := by
        cases d with
        | str l' => cases e1; obtain ⟨t, h, _⟩ := h2; exact ⟨t, h⟩
        | cst l' => cases e1; obtain ⟨t, h, _⟩ := h2; exact ⟨t, h⟩
        | ust l' => cases e1; obtain ⟨t, h, _⟩ := h2; exact ⟨t, h⟩
        | _ => cases e1
      obtain ⟨t, rfl⟩ := this
      subst h1 g1
      exact ⟨(S l, t) :: lv, rfl, by rw [List.map_cons, List.map_cons, g2]⟩
    · cases e
theorem joined {a : List Nat} {ds : List D} {us : List Value} {d : D} (I : InvD X T pins G ρ st s) (r : Reps T.T G s.toks ds us) (e : joinD a ds = some d) :
    ∃ l, us = strValues l ∧ Builtin.Str.tooLong ((l.map (·.1)).toArray.foldl (· + ·.length + (S a).length) 0) = false ∧ (joinMade (S a) l).post (OkP X T pins G ρ (.ok d st)) s := by
  obtain ⟨ls, h1, h2⟩ := Option.bind_eq_some_iff.mp e
  split at h2
  · next hz =>
    cases h2
    obtain ⟨l, g1, g2⟩ := txts_vals h1 r
    have hok := joinOk_of (sep := S a) (ys := l.map (·.1)) (by
      rw [g2, SX.lens, SX.S_len, List.length_map]
      exact hz)
    unfold JoinOk at hok
    rw [Bool.not_eq_true'] at hok
    refine ⟨l, g1, hok, ?_⟩
    have hz2 : (TL.joinL a ls).length ≤ sizeLine := by
      have := joinFit_length hok
      rw [g2, SX.join_S, SX.S_len] at this
      exact this
    have many : joinMade (S a) l = .str (Txt.join (S a) (l.map (·.1))) → joinR a ds ls = .str (TL.joinL a ls) → (joinMade (S a) l).post (OkP X T pins G ρ (.ok (joinR a ds ls) st)) s := fun ej er => by
      rw [ej, er, g2, SX.join_S]
      exact ⟨by rw [SX.S_len]; exact hz2, ok_str I rfl hz2 (Nat.lt_succ_self _)⟩
    have hlen := r.length
    rw [g1] at hlen
    cases l with
    | nil =>
      cases ds with
      | nil => exact many rfl rfl
      | cons _ _ => simp [strValues] at hlen
    | cons p l =>
      cases l with
      | nil =>
        cases ds with
        | nil => simp [strValues] at hlen
        | cons d0 ds =>
          cases ds with
          | cons _ _ => simp [strValues] at hlen
          | nil =>
            obtain ⟨u, r0, e0, hp, g, g3⟩ := r
            cases (show r0 = [] from g3)
            rw [g1] at e0
            have eu : Value.str p.1 p.2 = u := by simpa [strValues] using e0
            show OkP X T pins G ρ (.ok d0 st) (.str p.1 p.2) s
            rw [eu]
            exact ok_same I g (plain_notNew hp)
      | cons q l =>
        cases ds with
        | nil => simp [strValues] at hlen
        | cons d0 ds =>
          cases ds with
          | nil => simp [strValues] at hlen
          | cons d1 ds => exact many rfl rfl
  · cases h2
theorem m_join : MetD X T "str.join" pJoin := fun pins s G ρ st u us x ds d E I rx r h => by
  unfold pJoin at h
  split at h
  · next a y ea =>
    obtain ⟨t, rfl, _⟩ := txt_view rx ea
    obtain ⟨v, rfl, r1⟩ := r.one
    split at h
    · next l hv =>
      have k := I.view r1 hv
      cases k with
      | @lst _ o us n h1 z1 g1 =>
        obtain ⟨l, g2, g3, g4⟩ := joined I g1 h
        rw [g2] at h1
        exact call_meets F.slot_str_join (typeIs_str _ _ _) F.entry_str_join (F.args_str_join_2 _ _) (meets_str_join_list (S a) t o l g3) ⟨isList_of h1, g4⟩
    · next l hv =>
      have k := I.view r1 hv
      cases k with
      | @tup _ o us n ob h1 c1 d1 z1 g1 =>
        obtain ⟨l, g2, g3, g4⟩ := joined I g1 h
        rw [g2] at d1
        exact call_meets F.slot_str_join (typeIs_str _ _ _) F.entry_str_join (F.args_str_join_2 _ _) (meets_str_join_tuple (S a) t o l g3) ⟨⟨ob, _, h1, c1, d1⟩, g4⟩
    · cases h
  · cases h
end
end DL
namespace DL
open PySem PySem.Spec PyProof.Rows L2
section
variable {X : Cx} {T : Fx} {pins : List (Addr × Obj)} {G G1 : Gh} {ρ : Env_} {st st1 : Store} {s s1 : Shared} {e a b c o : Expr} {es : List Expr} {m ma mb mc mu mo : EM} {ml : EL} {pos p2 p apos : Pos} {x : Str} {bid ty : String}

/-! ### replace -/
/-- a name, read in a later state of the same heap: the value stands since the earlier one -/
theorem name_ok2 {i : Nat} {x : Str} {d : D} {t' : Nat} {Q : Value → Shared → Prop} {E : Value → Shared → Prop} (I : InvD X T pins G ρ st s) (hN : X.N[i]? = some x) (hv : Vis X.env.scope x) (hd : (x == ("__debug__" : Str)) = false) (hcd : (x == ("__classdict__" : Str)) = false)
    (e : ρ[i]? = some (some d)) (h : ∀ u, Rep T.T G s.toks d u → Q u { s with toks := t' }) : wpAny (model X.prog X.w) X.A (eval (.Name x pos) X.env) Q E { s with toks := t' } := by
  obtain ⟨m, hn, hl⟩ := I.loc
  obtain ⟨u, r, l⟩ := hl i x d hN e hv
  have hn' : (show Shared from { s with toks := t' }).heap.Ns X.env.locals m := hn
  rcases l with ⟨hk, hm⟩ | ⟨hk, c, hc, hcell⟩
  · exact wpAny_Name (wpAny_loadName_local I.inv.ok.kind hk hn' hm (h u r)) hd
  · have hcell' : (show Shared from { s with toks := t' }).heap.IsCell c (some u) := hcell
    rcases hk with hk | hk
    · exact wpAny_Name (wpAny_loadName_cell I.inv.ok.kind hk hc hcell' (h u r)) hd
    · exact wpAny_Name (wpAny_loadName_free I.inv.ok.kind hk hc hcell' (h u r) hcd) hd
def noHit (a y z : List Nat) : Bool := (Builtin.Str.occurrences (S a) (S y) 0 (S a).length ((S a).length + 1)).isEmpty || ((S y).length == 0 && (S z).length == 0)
def replD (x : D) (a y z : List Nat) : Option D := if z ≠ y ∧ y ≠ [] ∧ a.length + (a.length + 1) * z.length ≤ 16777216 then some (if noHit a y z = true then x else .str (StrLaws.replL y z a)) else none
theorem replD_str {a y z : List Nat} (h1 : z ≠ y) (h2 : y ≠ []) (h3 : a.length + (a.length + 1) * z.length ≤ 16777216) : replD (.str a) a y z = some (.str (StrLaws.replL y z a)) := by
  unfold replD
  rw [if_pos ⟨h1, h2, h3⟩]
  split
  · next h =>
    have e : Txt.replace (S a) (S y) (S z) = S a := by
      unfold Txt.replace
      unfold noHit at h
      rw [if_pos h]
    have e2 := StrLaws.replace_list (x := S a) (y := S y) (z := S z) (by rw [SX.S_len]; cases y with
      | nil => exact absurd rfl h2
      | cons _ _ => simp)
    rw [e] at e2
    rw [show StrLaws.replL y z a = a from e2.symm]
  · rfl
theorem repl_run {x d : D} {l y z : List Nat} {t u v : Tok} {E : Value → Shared → Prop} (I : InvD X T pins G ρ st s) (rx : Rep T.T G s.toks x (.str (S l) t)) (ex : txt x = some l) (hu : u ≠ 0) (hv : v ≠ 0) (huv : u ≠ v) (h : replD x l y z = some d) :
    wpAny (model X.prog X.w) X.A (call (.builtin "str.replace") [.str (S l) t, .str (S y) u, .str (S z) v]) (OkP X T pins G ρ (.ok d st)) E s := by
  unfold replD at h
  split at h
  · next hc =>
    obtain ⟨h1, h2, h3⟩ := hc
    cases h
    have hyz : (S y == S z) = false := by
      rw [SX.S_beq]
      exact beq_eq_false_iff_ne.mpr fun q => h1 q.symm
    have hl : Builtin.Str.tooLong ((S l).length + (Builtin.Str.occurrences (S l) (S y) 0 (S l).length ((S l).length + 1)).length * (S z).length) = false := by
      have q1 := StrLaws.occ_length_le (S l) (S y) 0 (S l).length ((S l).length + 1)
      have q2 : (Builtin.Str.occurrences (S l) (S y) 0 (S l).length ((S l).length + 1)).length * (S z).length ≤ ((S l).length + 1) * (S z).length := Nat.mul_le_mul_right _ q1
      rw [SX.S_len, SX.S_len] at q2
      unfold Builtin.Str.tooLong
      rw [SX.S_len, SX.S_len, sizeLine_eq]
      exact decide_eq_false (by omega)
    have hr : (Txt.replace (S l) (S y) (S z)) = S (StrLaws.replL y z l) := by
      have e2 := StrLaws.replace_list (x := S l) (y := S y) (z := S z) (by rw [SX.S_len]; cases y with
        | nil => exact absurd rfl h2
        | cons _ _ => simp)
      have e3 := SX.S_tl (Txt.replace (S l) (S y) (S z))
      rw [e2] at e3
      exact e3.symm
    have hz : (StrLaws.replL y z l).length ≤ sizeLine := by
      have q := TK.replace_len (S l) (S y) (S z)
      rw [hr, SX.S_len, SX.S_len, SX.S_len] at q
      rw [sizeLine_eq]
      omega
    refine call_gives F.slot_str_replace (typeIs_str _ _ _) F.entry_str_replace (F.args_str_replace_3 _ _ _) (gives_str_replace (S l) (S y) (S z) t u v fun _ => ⟨by simp [hu, hv], by simp [huv], hyz, hl⟩) ?_
    unfold Txt.replace at hr
    by_cases hn : noHit l y z = true
    · have hn' := hn
      unfold noHit at hn'
      rw [if_pos hn', if_pos hn]
      exact ok_txt I rx ex
    · have hn' := hn
      unfold noHit at hn'
      rw [if_neg hn'] at hr
      rw [if_neg hn', if_neg hn, hr]
      exact ⟨by rw [SX.S_len]; exact hz, ok_str I rfl hz (Nat.lt_succ_self _)⟩
  · cases h
/-- x.replace(y, name) -/
def eRepl (mo : EM) (y : List Nat) (i : Nat) : EM := fun ρ st => (mo ρ st).bind fun x st1 => match txt x, ρ[i]? with
  | some a, some (some (.str z)) => R.of (replD x a y z) st1
  | _, _ => .bad
theorem eRepl_some {x : D} {y : List Nat} {i : Nat} (e1 : mo ρ st = .ok x st1) (h : eRepl mo y i ρ st ≠ .bad) : ∃ a z d, txt x = some a ∧ ρ[i]? = some (some (.str z)) ∧ replD x a y z = some d ∧ eRepl mo y i ρ st = .ok d st1 := by
  have eq1 : eRepl mo y i ρ st = match txt x, ρ[i]? with | some a, some (some (.str z)) => R.of (replD x a y z) st1 | _, _ => .bad := by unfold eRepl; rw [e1]; rfl
  rw [eq1] at h ⊢
  split at h
  · next a z h1 h2 =>
    obtain ⟨d, hd⟩ := of_bad h
    exact ⟨a, z, d, h1, h2, hd, by rw [hd]; rfl⟩
  · exact absurd rfl h
theorem de_replG {i : Nat} {mk y : Str} {l : List Nat} {q1 q2 : Pos} (ho : DE X T o mo) (hg : Gl X mk) (hm : ∃ t, X.mg mk = some (.str (S l) t) ∧ 0 < t ∧ t < T.T) (hN : X.N[i]? = some y) (hv : Vis X.env.scope y) (hdm : (mk == ("__debug__" : Str)) = false := by decide) (hd : (y == ("__debug__" : Str)) = false := by decide) (hcd : (y == ("__classdict__" : Str)) = false := by decide)
    (hst : starEach [.Name mk q1, .Name y q2] X.env = [(false, eval (.Name mk q1) X.env), (false, eval (.Name y q2) X.env)] := by rfl) (hbase : attributeBase o "replace" X.env (eval o X.env) = eval o X.env := by rfl) (hline : (apos.endLine == pos.line) = true := by rfl) :
    DE X T (.Call (.Attribute o "replace" apos) [.Name mk q1, .Name y q2] [] pos) (eRepl mo l i) := .mk fun pins s G ρ st I hb => by
  obtain ⟨tm, hm, h0, h1⟩ := hm
  refine PySem.Call_method2 hbase hst hline (ho.run I (fun z => hb (by unfold eRepl; rw [z]; rfl)) (fun u s1 x st1 G1 e1 x1 I1 r1 _ _ => ?_) fun x s1 z => z.up (Ext.refl G) fun ex st' e1 => by unfold eRepl; rw [e1]; rfl)
  obtain ⟨a, z, d, ex, ey, er, eq⟩ := eRepl_some e1 hb
  rw [eq]
  obtain ⟨t, rfl, _⟩ := txt_view r1 ex
  refine ⟨"str", _, F.plainAttrs_str, F.slot_str_replace, F.type_str_replace, typeIs_str _ _ _, (fun _ e => nomatch e), Calls.callWith_builtin rfl (Calls.evalArgs_plain (Calls.spliced_cons ?_))⟩
  refine ld_glob I1.inv hg hm (Calls.spliced_cons (name_ok I1 hN hv hd hcd ey fun w rw' => Calls.spliced_nil ?_)) hdm
  obtain ⟨tz, rfl, h2, h3, _⟩ := rw'
  exact wpAny_mono (repl_run (u := tm) (v := tz) (E := ExP X T pins G ρ (.ok d st1)) I1 r1 ex (Nat.ne_of_gt h0) (Nat.ne_of_gt (Nat.lt_of_lt_of_le I1.pos h2)) (Nat.ne_of_lt (Nat.lt_of_lt_of_le h1 h2)) er) (fun _ _ z => z.up x1 fun _ _ q => q) fun _ _ z => z
theorem de_replL {i j : Nat} {lit y : Str} {l : List Nat} {q1 q2 : Pos} (ho : DE X T o mo) (hl : lit = S l) (hN : X.N[i]? = some y) (hv : Vis X.env.scope y) (hd : (y == ("__debug__" : Str)) = false := by decide) (hcd : (y == ("__classdict__" : Str)) = false := by decide)
    (hst : starEach [.Constant (.str lit) j q1, .Name y q2] X.env = [(false, eval (.Constant (.str lit) j q1) X.env), (false, eval (.Name y q2) X.env)] := by rfl) (hbase : attributeBase o "replace" X.env (eval o X.env) = eval o X.env := by rfl) (hline : (apos.endLine == pos.line) = true := by rfl) :
    DE X T (.Call (.Attribute o "replace" apos) [.Constant (.str lit) j q1, .Name y q2] [] pos) (eRepl mo l i) := .mk fun pins s G ρ st I hb => by
  subst hl
  refine PySem.Call_method2 hbase hst hline (ho.run I (fun z => hb (by unfold eRepl; rw [z]; rfl)) (fun u s1 x st1 G1 e1 x1 I1 r1 _ _ => ?_) fun x s1 z => z.up (Ext.refl G) fun ex st' e1 => by unfold eRepl; rw [e1]; rfl)
  obtain ⟨a, z, d, ex, ey, er, eq⟩ := eRepl_some e1 hb
  rw [eq]
  obtain ⟨t, rfl, _⟩ := txt_view r1 ex
  refine ⟨"str", _, F.plainAttrs_str, F.slot_str_replace, F.type_str_replace, typeIs_str _ _ _, (fun _ e => nomatch e), Calls.callWith_builtin rfl (Calls.evalArgs_plain (Calls.spliced_cons ?_))⟩
  refine Calls.Constant_str (Calls.spliced_cons (name_ok2 I1 hN hv hd hcd ey fun w rw' => Calls.spliced_nil ?_))
  obtain ⟨tz, rfl, h2, h3, _⟩ := rw'
  have hp := I1.pos
  have ht := I1.tok
  exact wpAny_mono (repl_run (u := s1.toks) (v := tz) (E := ExP X T pins G ρ (.ok d st1)) (I1.tk (Nat.le_succ _)) (r1.mono (Ext.refl G1) (Nat.le_succ _)) ex (Nat.ne_of_gt (Nat.lt_of_lt_of_le hp ht)) (Nat.ne_of_gt (Nat.lt_of_lt_of_le hp h2)) (Nat.ne_of_gt h3) er) (fun _ _ z => z.up x1 fun _ _ q => q) fun _ _ z => z

/-! ### slices -/
def cutD {α : Type} (xs : List α) (lo hi : Option Int) : List α := (xs.drop (HT.sIx xs.length 0 lo)).take (HT.sIx xs.length xs.length hi - HT.sIx xs.length 0 lo)
theorem cutD_len {α : Type} (xs : List α) (lo hi : Option Int) : (cutD xs lo hi).length ≤ xs.length := by
  unfold cutD
  rw [List.length_take, List.length_drop]
  omega
/-- it is the whole -/
def whole {α : Type} (xs : List α) (lo hi : Option Int) : Bool := decide (HT.sIx xs.length xs.length hi - HT.sIx xs.length 0 lo = xs.length)
theorem cutD_all {α : Type} {xs : List α} {lo hi : Option Int} (h1 : HT.sIx xs.length 0 lo = 0) (h2 : HT.sIx xs.length xs.length hi = xs.length) : cutD xs lo hi = xs := by
  unfold cutD
  rw [h1, h2, List.drop_zero, Nat.sub_zero, List.take_length]
theorem cutD_whole {α : Type} {xs : List α} {lo hi : Option Int} (h : whole xs lo hi = true) : cutD xs lo hi = xs := by
  have h' := of_decide_eq_true h
  have h1 := HT.sIx_le xs.length 0 (Nat.zero_le _) lo
  have h2 := HT.sIx_le xs.length xs.length (Nat.le_refl _) hi
  exact cutD_all (by omega) (by omega)
def sliceV (x : D) (lo hi : Option Int) : Option D := match x.vw with
  | some (.tup ds) => some (.tup (cutD ds lo hi))
  | some (.lst ds) => some (.new (cutD ds lo hi))
  | some (.str l) => some (if whole l lo hi = true then x else .str (cutD l lo hi))
  | _ => none
theorem sliceV_str (l : List Nat) (lo hi : Option Int) : sliceV (.str l) lo hi = some (.str (cutD l lo hi)) := by
  show some (if whole l lo hi = true then D.str l else .str (cutD l lo hi)) = _
  split
  · next h => rw [cutD_whole h]
  · rfl
/-- a part that may be left out -/
abbrev EO := Env_ → Store → R (Option Int)
def oNone : EO := fun _ st => .ok none st
def oSome (m : EM) : EO := fun ρ st => (m ρ st).bind fun d st1 => match d with
  | .int i => .ok (some i) st1
  | _ => .bad
def OkO (X : Cx) (T : Fx) (pins : List (Addr × Obj)) (G : Gh) (ρ : Env_) (r : R (Option Int)) (u : Value) (s' : Shared) : Prop := ∃ o st' G', r = .ok o st' ∧ Ext G G' ∧ InvD X T pins G' ρ st' s' ∧ IsPart u o
structure DO (X : Cx) (T : Fx) (e : Option Expr) (m : EO) : Prop where
  ap : ∀ (pins : List (Addr × Obj)) (s : Shared) (G : Gh) (ρ : Env_) (st : Store), InvD X T pins G ρ st s → m ρ st ≠ .bad →
  wpAny (model X.prog X.w) X.A (evalPart e X.env) (OkO X T pins G ρ (m ρ st)) (ExP X T pins G ρ (m ρ st)) s
instance {X : Cx} {T : Fx} {e : Option Expr} {m : EO} : CoeFun (DO X T e m) fun _ => ∀ (pins : List (Addr × Obj)) (s : Shared) (G : Gh) (ρ : Env_) (st : Store), InvD X T pins G ρ st s → m ρ st ≠ .bad →
  wpAny (model X.prog X.w) X.A (evalPart e X.env) (OkO X T pins G ρ (m ρ st)) (ExP X T pins G ρ (m ρ st)) s := ⟨DO.ap⟩
theorem do_none : DO X T none oNone := .mk fun pins s G ρ st I _ => by
  rw [evalPart_none]
  exact wpAny_pure ⟨none, st, G, rfl, Ext.refl G, I, .none⟩
theorem oSome_eq {d : D} (e1 : m ρ st = .ok d st1) (h : oSome m ρ st ≠ .bad) : ∃ i, d = .int i ∧ oSome m ρ st = .ok (some i) st1 := by
  cases d with
  | int i => exact ⟨i, rfl, by unfold oSome; rw [e1]; rfl⟩
  | _ => exact absurd (by unfold oSome; rw [e1]; rfl) h
theorem do_some (ha : DE X T e m) : DO X T (some e) (oSome m) := .mk fun pins s G ρ st I h => by
  rw [evalPart_some]
  refine ha.run I (fun z => h (by unfold oSome; rw [z]; rfl)) (fun u s1 d st1 G1 e1 x1 I1 r1 _ _ => ?_) fun x s1 z => z.up (Ext.refl G) fun ex st' e1 => by unfold oSome; rw [e1]; rfl
  obtain ⟨i, rfl, eq⟩ := oSome_eq e1 h
  obtain ⟨t, rfl⟩ := r1
  rw [eq]
  exact ⟨some i, st1, G1, rfl, x1, I1, .int i t⟩
theorem DO.run {eo : Option Expr} {m : EO} (h : DO X T eo m) (I : InvD X T pins G ρ st s) (hb : m ρ st ≠ .bad) {Q : Value → Shared → Prop} {E : Value → Shared → Prop}
    (hk : ∀ u s1 o st1 G1, m ρ st = .ok o st1 → Ext G G1 → InvD X T pins G1 ρ st1 s1 → IsPart u o → s.toks ≤ s1.toks → Q u s1) (hx : ∀ x s1, ExP X T pins G ρ (m ρ st) x s1 → E x s1) : wpAny (model X.prog X.w) X.A (evalPart eo X.env) Q E s :=
  wpAny_mono (PySem.wpAny_toks (h pins s G ρ st I hb)) (fun u s1 ⟨hn, d, st1, G1, h1, h2, h3, h4⟩ => hk u s1 d st1 G1 h1 h2 h3 h4 hn) fun x s1 z => hx x s1 z.2
/-- what a slice of a value is -/
theorem slice_run {x d : D} {u vl vu : Value} {lo hi : Option Int} {sl : Addr} {E : Value → Shared → Prop} (I : InvD X T pins G ρ st s) (rx : Rep T.T G s.toks x u) (hs : s.heap.IsSliceOf sl vl vu .none) (pl : IsPart vl lo) (pu : IsPart vu hi) (h : sliceV x lo hi = some d) :
    ∃ Ty id, typeLookup (.type Ty) "__getitem__" = pure (some (.builtin id)) ∧ s.TypeIs u Ty ∧ wpAny (model X.prog X.w) X.A (getItem u (.ref sl)) (OkP X T pins G ρ (.ok d st)) E s := by
  unfold sliceV at h
  split at h
  · next ds hv =>
    cases h
    have k := I.view rx hv
    cases k with
    | @tup _ o us n ob h1 c1 d1 z1 g1 =>
      have ht : IsTup s.heap o us.toArray := ⟨_, h1, c1, _, d1⟩
      have hl := g1.length
      have hlen : us.toArray.size = ds.length := by rw [List.size_toArray, hl]
      refine ⟨"tuple", _, PyProof.Rows.slot_tuple_getitem.lookup, ht.typeIs, ?_⟩
      by_cases hw : HT.sIx ds.length 0 lo = 0 ∧ HT.sIx ds.length ds.length hi = ds.length
      · refine getItem_tuple_whole ht hs pl pu (by rw [hlen]; exact hw) ?_
        rw [cutD_all hw.1 hw.2]
        cases x with
        | tup l => cases hv; exact ok_same I rx rfl
        | _ => cases hv
      · refine HT.getItem_tuple_cut ht hs pl pu (by rw [hlen]; exact hw) ?_ (by rw [List.size_toArray]; exact z1)
        rw [hlen]
        exact ok_tup (t' := s.toks) I ((g1.drop _).take _) (by
          rw [List.length_take, List.length_drop, List.toList_toArray]
          omega) (Nat.le_refl _)
  · next ds hv =>
    cases h
    have k := I.view rx hv
    cases k with
    | @lst _ o us n h1 z1 g1 =>
      have hl := g1.length
      refine ⟨"list", _, slot_list_getitem.lookup, (isList_of h1).typeIs, ?_⟩
      refine wpAny_getItem_list_slice (isList_of h1) hs pl pu .none (by simp) ?_ (by rw [List.size_toArray]; exact z1)
      rw [slicePick_cut, ← hl]
      exact ok_new (t' := s.toks) I ((g1.drop _).take _) (by
        rw [List.length_take, List.length_drop]
        omega) (Nat.le_refl _)
  · next l hv =>
    have k := I.view rx hv
    cases k with
    | str l t z =>
      obtain ⟨os, hos, hcs, hds⟩ := hs
      obtain ⟨pl', rfl, rfl⟩ := IsPart.raw pl
      obtain ⟨pu', rfl, rfl⟩ := IsPart.raw pu
      refine ⟨"str", _, F.slot_str_getitem.lookup, typeIs_str _ _ _, ?_⟩
      refine wpAny_getItem_str_slice (l := pl') (u := pu') (st := none) ⟨os, hos, hcs, hds⟩ rfl ?_
      have hx : txt x = some l := by cases x <;> cases hv <;> rfl
      have hi := sidx (pl'.map (·.1)) (pu'.map (·.1)) (S l).length
      have hlen : (Builtin.Str.strSliceIndices (pl'.map (·.1)) (pu'.map (·.1)) 1 (S l).length).length = HT.sIx l.length l.length (pu'.map (·.1)) - HT.sIx l.length 0 (pl'.map (·.1)) := by
        rw [hi, List.length_map, List.length_range, SX.S_len]
      show Made.post (if ((1 : Int) == 1 && (Builtin.Str.strSliceIndices (pl'.map (·.1)) (pu'.map (·.1)) 1 (S l).length).length == (S l).length) = true then Made.val (.str (S l) t) else
        Made.str ⟨((Builtin.Str.strSliceIndices (pl'.map (·.1)) (pu'.map (·.1)) 1 (S l).length).filterMap ((S l).cps[·]?)).toArray⟩) (OkP X T pins G ρ (.ok d st)) s
      rw [hlen]
      by_cases hw : whole l (pl'.map (·.1)) (pu'.map (·.1)) = true
      · rw [if_pos hw] at h
        cases h
        rw [if_pos (by rw [of_decide_eq_true hw, SX.S_len]; simp)]
        exact ok_txt I rx hx
      · rw [if_neg hw] at h
        cases h
        have hne : ¬ HT.sIx l.length l.length (pu'.map (·.1)) - HT.sIx l.length 0 (pl'.map (·.1)) = l.length := fun q => hw (decide_eq_true q)
        rw [if_neg (by rw [SX.S_len]; simpa using hne)]
        have e1 : (⟨((Builtin.Str.strSliceIndices (pl'.map (·.1)) (pu'.map (·.1)) 1 (S l).length).filterMap ((S l).cps[·]?)).toArray⟩ : Str) = S (cutD l (pl'.map (·.1)) (pu'.map (·.1))) := by
          have q := sliceText_cut (S l) (pl'.map (·.1)) (pu'.map (·.1))
          unfold PySem.StrLaws.sliceText at q
          have hne2 : ¬ ((Builtin.Str.strSliceIndices (pl'.map (·.1)) (pu'.map (·.1)) 1 (S l).length).length == (S l).length) = true := by
            rw [hlen, SX.S_len]
            simpa using hne
          have q2 : (⟨((Builtin.Str.strSliceIndices (pl'.map (·.1)) (pu'.map (·.1)) 1 (S l).length).filterMap ((S l).cps[·]?)).toArray⟩ : Str) = cutS (S l) (pl'.map (·.1)) (pu'.map (·.1)) := by
            rw [← q]
            simp only [hne2, if_neg] <;> rfl
          rw [q2]
          unfold cutS cutD
          rw [SX.S_len]
        rw [e1]
        have hz2 : (cutD l (pl'.map (·.1)) (pu'.map (·.1))).length ≤ sizeLine := Nat.le_trans (cutD_len _ _ _) z
        exact ⟨by rw [SX.S_len]; exact hz2, ok_str I rfl hz2 (Nat.lt_succ_self _)⟩
  · cases h
/-- x[lo:hi] -/
def eSl (m : EM) (lo hi : EO) : EM := fun ρ st => (m ρ st).bind fun x st1 => (lo ρ st1).bind fun l st2 => (hi ρ st2).bind fun u st3 => R.of (sliceV x l u) st3
theorem de_slice {lo hi : Option Expr} {ml mh : EO} {p3 : Pos} (ha : DE X T a m) (hl : DO X T lo ml) (hh : DO X T hi mh) : DE X T (.Subscript a (.Slice lo hi none p3) pos) (eSl m ml mh) := .mk fun pins s G ρ st I h => by
  refine Subscript_ (ha.run I (bad_l h) (fun v s1 x st1 G1 e1 x1 I1 r1 _ _ => ?_) fun x s1 z => z.up (Ext.refl G) fun ex st' e1 => by unfold eSl; rw [e1]; rfl)
  have eq1 : eSl m ml mh ρ st = (ml ρ st1).bind fun l st2 => (mh ρ st2).bind fun u st3 => R.of (sliceV x l u) st3 := by unfold eSl; rw [e1]; rfl
  rw [eq1] at h ⊢
  refine wpAny_Slice (hl.run I1 (bad_l h) (fun vl s2 l st2 G2 e2 x2 I2 pl hn2 => ?_) fun x s1 z => z.up x1 fun ex st' e1 => by rw [e1]; rfl)
  rw [e2, bind_ok] at h ⊢
  refine hh.run I2 (bad_l h) (fun vu s3 u st3 G3 e3 x3 I3 pu hn3 => ?_) fun x s1 z => z.up (x1.trans x2) fun ex st' e1 => by rw [e1]; rfl
  rw [e3, bind_ok] at h ⊢
  obtain ⟨d, hd⟩ := of_bad h
  rw [hd]
  rw [evalPart_none]
  refine wpAny_pure ?_
  have I4 := I3.kept (h' := s3.heap.push { cls := .type "slice", data := .fields #[vl, vu, .none] }) (t' := s3.toks) (fun b ob q => Heap.get?_push_of_some _ q) (Nat.le_refl _)
  obtain ⟨Ty, id, hT, ht, hg⟩ := slice_run (E := ExP X T pins G ρ (.ok d st3)) I4 (r1.mono (x2.trans x3) (Nat.le_trans hn2 hn3)) (Heap.IsSliceOf.new ..) pl pu hd
  show wpAny (model X.prog X.w) X.A (subscriptTail a (.Slice lo hi none p3) v (.ref s3.heap.objs.size)) (OkP X T pins G ρ (.ok d st3)) (ExP X T pins G ρ (.ok d st3)) { s3 with heap := s3.heap.push { cls := .type "slice", data := .fields #[vl, vu, .none] } }
  exact tail_any (ops := [.ref s3.heap.objs.size, v]) ht hT (wpAny_mono hg (fun _ _ z => z.up ((x1.trans x2).trans x3) fun _ _ q => q) fun _ _ z => z) (by with_unfolding_all rfl)
/-- x[::-1] -/
def revV (x : D) : Option D := match x.vw with
  | some (.lst ds) => some (.new ds.reverse)
  | some (.str l) => some (.str l.reverse)
  | _ => none
def eRev (m : EM) : EM := fun ρ st => (m ρ st).bind fun x st1 => R.of (revV x) st1
theorem Reps.snoc {T : Tx} {G : Gh} {n : Nat} {ds : List D} {us : List Value} (h : Reps T G n ds us) {d : D} {u : Value} (p : plain d = true) (r : Rep T G n d u) : Reps T G n (ds ++ [d]) (us ++ [u]) := h.append (Reps.one r p)
theorem Reps.reverse {T : Tx} {G : Gh} {n : Nat} : ∀ {ds : List D} {us : List Value}, Reps T G n ds us → Reps T G n ds.reverse us.reverse
  | [], _, h => by
    cases (show _ = [] from h)
    exact rfl
  | _ :: _, _, ⟨u, r, h1, hp, h2, h3⟩ => by
    subst h1
    rw [List.reverse_cons, List.reverse_cons]
    exact (Reps.reverse h3).snoc hp h2
theorem rev_sig (l : List Nat) : ((List.range l.length).map fun k => l.length - 1 - k).filterMap ((S l).cps[·]?) = l.reverse := by
  rw [PyProof.Rows.filterMap_get (S l).cps _ (fun i hi => by
    obtain ⟨k, hk, rfl⟩ := List.mem_map.mp hi
    have := List.mem_range.mp hk
    show _ < (S l).cps.size
    simp
    omega), List.map_map]
  apply List.ext_getElem
  · simp
  · intro i h1 h2
    have h3 : i < l.length := by simpa using h2
    simp [List.getElem_reverse, Array.getD, show l.length - 1 - i < l.length by omega]
theorem de_rev {k : Nat} {p1 p3 p4 : Pos} (ha : DE X T a m) : DE X T (.Subscript a (.Slice none none (some (.UnaryOp .USub (.Constant (.int 1) k p1) p3)) p4) pos) (eRev m) := .mk fun pins s G ρ st I h => by
  refine Subscript_ (ha.run I (bad_l h) (fun v s1 x st1 G1 e1 x1 I1 r1 _ _ => ?_) fun x s1 z => z.up (Ext.refl G) fun ex st' e1 => by unfold eRev; rw [e1]; rfl)
  have eq1 : eRev m ρ st = R.of (revV x) st1 := by unfold eRev; rw [e1]; rfl
  rw [eq1] at h ⊢
  obtain ⟨d, hd⟩ := of_bad h
  rw [hd]
  refine wpAny_Slice ?_
  rw [evalPart_none, evalPart_some]
  refine wpAny_pure (wpAny_pure ?_)
  refine UnaryOp_ (wpAny_Constant_int (neg_int ?_))
  have I4 := I1.kept (h' := s1.heap.push { cls := .type "slice", data := .fields #[.none, .none, .int (-1) (s1.toks + 1)] }) (t' := s1.toks + 1 + 1) (fun b ob q => Heap.get?_push_of_some _ q) (by omega)
  have r4 := r1.mono (Ext.refl G1) (show s1.toks ≤ s1.toks + 1 + 1 by omega)
  have hs := Heap.IsSliceOf.new (s1.heap) .none .none (.int (-1) (s1.toks + 1))
  show wpAny (model X.prog X.w) X.A (subscriptTail a (.Slice none none (some (.UnaryOp .USub (.Constant (.int 1) k p1) p3)) p4) v (.ref s1.heap.objs.size)) (OkP X T pins G ρ (.ok d st1)) (ExP X T pins G ρ (.ok d st1)) { s1 with heap := s1.heap.push { cls := .type "slice", data := .fields #[.none, .none, .int (-1) (s1.toks + 1)] }, toks := s1.toks + 1 + 1 }
  unfold revV at hd
  split at hd
  · next ds hv =>
    cases hd
    have kk := I4.view r4 hv
    cases kk with
    | @lst _ o us n h1 z1 g1 =>
      refine tail_any (ops := [.ref o, .ref s1.heap.objs.size]) (isList_of h1).typeIs slot_list_getitem.lookup ?_ (by with_unfolding_all rfl)
      refine wpAny_getItem_list_slice (isList_of h1) hs .none .none (.int (-1) _) (by decide) ?_ (by rw [List.size_toArray]; exact z1)
      rw [PySem.W.krv_pick]
      exact (ok_new (t' := s1.toks + 1 + 1) I4 g1.reverse (by rw [List.length_reverse]; exact z1) (Nat.le_refl _)).up x1 fun _ _ q => q
  · next l hv =>
    cases hd
    have kk := I4.view r4 hv
    cases kk with
    | str l t z =>
      obtain ⟨os, hos, hcs, hds⟩ := hs
      refine tail_any (ops := [.str (S l) t, .ref s1.heap.objs.size]) (typeIs_str _ _ _) F.slot_str_getitem.lookup ?_ (by with_unfolding_all rfl)
      refine wpAny_getItem_str_slice (l := none) (u := none) (st := some (-1, s1.toks + 1)) ⟨os, hos, hcs, hds⟩ rfl ?_
      show Made.post (if (((some ((-1 : Int), s1.toks + 1)).map (·.1)).getD 1 == 1 && (Builtin.Str.strSliceIndices none none (-1) (S l).length).length == (S l).length) = true then Made.val (.str (S l) t) else
        Made.str ⟨((Builtin.Str.strSliceIndices none none (-1) (S l).length).filterMap ((S l).cps[·]?)).toArray⟩) _ _
      rw [if_neg (by
        have : (((some ((-1 : Int), s1.toks + 1)).map (·.1)).getD 1 == 1) = false := rfl
        rw [this]
        simp), picked_rev, SX.S_len, rev_sig]
      have hz2 : l.reverse.length ≤ sizeLine := by rw [List.length_reverse]; exact z
      exact ⟨by rw [SX.S_len]; exact hz2, (ok_str I4 rfl hz2 (Nat.lt_succ_self _)).up x1 fun _ _ q => q⟩
  · cases hd
end
end DL
namespace DL
open PySem PySem.Spec PyProof.Rows L2

/-! ### statements -/
inductive Fl where
  | nx | bk | ct | rt (d : D)
inductive RS where
  | go (f : Fl) (ρ : Env_) (st : Store) | exn (e : Ex) (ρ : Env_) (st : Store) | bad
abbrev SM := Env_ → Store → RS
/-- on, with an expression's value -/
def RS.ofE {α : Type} (ρ : Env_) (r : R α) (f : α → Store → RS) : RS := match r with
  | .ok a st => f a st
  | .exn e st => .exn e ρ st
  | .bad => .bad
@[simp] theorem ofE_ok {α : Type} (ρ : Env_) (a : α) (s : Store) (f : α → Store → RS) : RS.ofE ρ (R.ok a s) f = f a s := rfl
@[simp] theorem ofE_exn {α : Type} (ρ : Env_) (e : Ex) (s : Store) (f : α → Store → RS) : RS.ofE ρ (R.exn e s : R α) f = .exn e ρ s := rfl
@[simp] theorem ofE_bad {α : Type} (ρ : Env_) (f : α → Store → RS) : RS.ofE ρ (R.bad : R α) f = .bad := rfl
def RS.then (r : RS) (f : SM) : RS := match r with
  | .go .nx ρ st => f ρ st
  | r => r
@[simp] theorem then_nx (ρ : Env_) (st : Store) (f : SM) : (RS.go .nx ρ st).then f = f ρ st := rfl
@[simp] theorem then_rt (d : D) (ρ : Env_) (st : Store) (f : SM) : (RS.go (.rt d) ρ st).then f = .go (.rt d) ρ st := rfl
@[simp] theorem then_bk (ρ : Env_) (st : Store) (f : SM) : (RS.go .bk ρ st).then f = .go .bk ρ st := rfl
@[simp] theorem then_ct (ρ : Env_) (st : Store) (f : SM) : (RS.go .ct ρ st).then f = .go .ct ρ st := rfl
@[simp] theorem then_exn (e : Ex) (ρ : Env_) (st : Store) (f : SM) : (RS.exn e ρ st).then f = .exn e ρ st := rfl
@[simp] theorem then_bad (f : SM) : RS.bad.then f = .bad := rfl
/-- what stays through statements -/
structure SExt (G G' : Gh) : Prop where
  fr : ∀ b o, G.H b = some (fz o) → G'.H b = some (fz o)
  pre : ∀ (k : Nat) a, G.as[k]? = some a → G'.as[k]? = some a
theorem SExt.refl (G : Gh) : SExt G G := ⟨fun _ _ h => h, fun _ _ h => h⟩
theorem SExt.trans {G G1 G2 : Gh} (a : SExt G G1) (b : SExt G1 G2) : SExt G G2 := ⟨fun c o h => b.fr c o (a.fr c o h), fun k c h => b.pre k c (a.pre k c h)⟩
theorem Ext.sx {G G' : Gh} (e : Ext G G') : SExt G G' := ⟨e.fr, e.pre⟩
mutual
/-- known values stay -/
theorem Rep.smono {T : Tx} {G G' : Gh} {n n' : Nat} (e : SExt G G') (h : n ≤ n') : ∀ {d : D} {u : Value}, plain d = true → Rep T G n d u → Rep T G' n' d u
  | .non, _, _, r => r
  | .bl _, _, _, r => r
  | .int _, _, _, r => r
  | .str _, _, _, ⟨t, a, b, c, d⟩ => ⟨t, a, b, Nat.lt_of_lt_of_le c h, d⟩
  | .cst _, _, _, r => r
  | .ust _, _, _, r => r
  | .tup _, _, _, ⟨a, o, us, h1, h2, h3, h4⟩ => ⟨a, o, us, h1, e.fr _ _ h2, h3, Reps.smono e h h4⟩
  | .lst _, _, _, ⟨a, o, us, h1, h2, h3, h4⟩ => ⟨a, o, us, h1, e.fr _ _ h2, h3, Reps.smono e h h4⟩
  | .new _, _, p, _ => by cases p
  | .own _ _, _, p, _ => by cases p
  | .scr _, _, _, ⟨a, o, us, h1, h2, h3, h4⟩ => ⟨a, o, us, h1, e.fr _ _ h2, h3, h4⟩
  | .ref _, _, _, ⟨a, h1, h2⟩ => ⟨a, h1, e.pre _ _ h2⟩
  | .fn _, _, _, r => r
  | .adr _, _, _, r => r
  | .dic _, _, _, ⟨a, o, h1, h0, h2, h3⟩ => ⟨a, o, h1, h0, e.fr _ _ h2, h3⟩
theorem Reps.smono {T : Tx} {G G' : Gh} {n n' : Nat} (e : SExt G G') (h : n ≤ n') : ∀ {ds : List D} {us : List Value}, Reps T G n ds us → Reps T G' n' ds us
  | [], _, r => r
  | _ :: _, _, ⟨u, r, h1, hp, h2, h3⟩ => ⟨u, r, h1, hp, Rep.smono e h hp h2, Reps.smono e h h3⟩
end
/-- what a statement's end hands on -/
def FlR (T : Fx) (G : Gh) (n : Nat) : Fl → Flow → Prop
  | .nx, f => f = .next
  | .bk, f => f = .brk
  | .ct, f => f = .cont
  | .rt d, f => ∃ u, f = .ret u ∧ Rep T.T G n d u ∧ ∀ ds a, d = .new ds → u = .ref a → T.g.H a = none
def SkP (X : Cx) (T : Fx) (pins : List (Addr × Obj)) (G : Gh) (r : RS) (f : Flow) (s' : Shared) : Prop := ∃ fl ρ' st' G', r = .go fl ρ' st' ∧ SExt G G' ∧ InvD X T pins G' ρ' st' s' ∧ FlR T G' s'.toks fl f
def SxP (X : Cx) (T : Fx) (pins : List (Addr × Obj)) (G : Gh) (r : RS) (x : Value) (s' : Shared) : Prop := ∃ ex ρ' st' G', r = .exn ex ρ' st' ∧ SExt G G' ∧ Air X T pins G' ρ' st' ex x s'
structure DS (X : Cx) (T : Fx) (sm : Stmt) (m : SM) : Prop where
  ap : ∀ (pins : List (Addr × Obj)) (s : Shared) (G : Gh) (ρ : Env_) (st : Store), InvD X T pins G ρ st s → m ρ st ≠ .bad →
  wpAny (model X.prog X.w) X.A (exec sm X.env) (SkP X T pins G (m ρ st)) (SxP X T pins G (m ρ st)) s
instance {X : Cx} {T : Fx} {sm : Stmt} {m : SM} : CoeFun (DS X T sm m) fun _ => ∀ (pins : List (Addr × Obj)) (s : Shared) (G : Gh) (ρ : Env_) (st : Store), InvD X T pins G ρ st s → m ρ st ≠ .bad →
  wpAny (model X.prog X.w) X.A (exec sm X.env) (SkP X T pins G (m ρ st)) (SxP X T pins G (m ρ st)) s := ⟨DS.ap⟩
structure DSs (X : Cx) (T : Fx) (sms : List Stmt) (m : SM) : Prop where
  ap : ∀ (pins : List (Addr × Obj)) (s : Shared) (G : Gh) (ρ : Env_) (st : Store), InvD X T pins G ρ st s → m ρ st ≠ .bad →
  wpAny (model X.prog X.w) X.A (execs sms X.env) (SkP X T pins G (m ρ st)) (SxP X T pins G (m ρ st)) s
instance {X : Cx} {T : Fx} {sms : List Stmt} {m : SM} : CoeFun (DSs X T sms m) fun _ => ∀ (pins : List (Addr × Obj)) (s : Shared) (G : Gh) (ρ : Env_) (st : Store), InvD X T pins G ρ st s → m ρ st ≠ .bad →
  wpAny (model X.prog X.w) X.A (execs sms X.env) (SkP X T pins G (m ρ st)) (SxP X T pins G (m ρ st)) s := ⟨DSs.ap⟩
def sNext : SM := fun ρ st => .go .nx ρ st
def sSeq (m k : SM) : SM := fun ρ st => (m ρ st).then k
def sBrk : SM := fun ρ st => .go .bk ρ st
def sCnt : SM := fun ρ st => .go .ct ρ st
def sDrop (m : EM) : SM := fun ρ st => RS.ofE ρ (m ρ st) fun _ st1 => .go .nx ρ st1
def sRet (m : EM) : SM := fun ρ st => RS.ofE ρ (m ρ st) fun d st1 => .go (.rt d) ρ st1
def sRetN : SM := fun ρ st => .go (.rt .non) ρ st
def sIf (c : EB) (t u : SM) : SM := fun ρ st => RS.ofE ρ (c ρ st) fun b st1 => if b = true then t ρ st1 else u ρ st1
section
variable {X : Cx} {T : Fx} {pins : List (Addr × Obj)} {G G1 : Gh} {ρ ρ1 : Env_} {st st1 : Store} {s s1 : Shared} {e a b c o : Expr} {es : List Expr} {m ma mb mc mu mo : EM} {ml : EL} {pos p2 p apos : Pos} {x : Str} {sm : Stmt} {sms : List Stmt} {k k1 k2 : SM} {tc : EB}
theorem SkP.up {r q : RS} (x1 : SExt G G1) (h : ∀ f ρ' st', r = .go f ρ' st' → q = .go f ρ' st') {f : Flow} (z : SkP X T pins G1 r f s1) : SkP X T pins G q f s1 :=
  let ⟨fl, ρ', st', G', e1, e2, e3, e4⟩ := z
  ⟨fl, ρ', st', G', h _ _ _ e1, x1.trans e2, e3, e4⟩
theorem SxP.up {r q : RS} (x1 : SExt G G1) (h : ∀ f ρ' st', r = .exn f ρ' st' → q = .exn f ρ' st') {f : Value} (z : SxP X T pins G1 r f s1) : SxP X T pins G q f s1 :=
  let ⟨ex, ρ', st', G', e1, e2, e3⟩ := z
  ⟨ex, ρ', st', G', h _ _ _ e1, x1.trans e2, e3⟩
theorem ExP.sx {α : Type} {r : R α} {q : RS} (h : ∀ ex st', r = .exn ex st' → q = .exn ex ρ st') {x : Value} (z : ExP X T pins G ρ r x s1) : SxP X T pins G q x s1 :=
  let ⟨ex, st', G', e1, e2, e3⟩ := z
  ⟨ex, ρ, st', G', h _ _ e1, e2.sx, e3⟩
theorem ofE_l {α : Type} {r : R α} {f : α → Store → RS} (h : RS.ofE ρ r f ≠ .bad) : r ≠ .bad := fun e => h (by rw [e]; rfl)
theorem then_l {r : RS} {f : SM} (h : r.then f ≠ .bad) : r ≠ .bad := fun e => h (by rw [e]; rfl)
theorem dss_nil : DSs X T [] sNext := .mk fun pins s G ρ st I _ => wpAny_execs_nil ⟨.nx, ρ, st, G, rfl, SExt.refl G, I, rfl⟩
/-- a statement, then the rest -/
theorem dss_cons (h1 : DS X T sm k1) (h2 : DSs X T sms k2) : DSs X T (sm :: sms) (sSeq k1 k2) := .mk fun pins s G ρ st I h => by
  refine wpAny_execs_cons (wpAny_mono (h1 pins s G ρ st I (then_l h)) (fun f s1 z => ?_) fun x s1 z => z.up (SExt.refl G) fun ex ρ' st' e => by unfold sSeq; rw [e]; rfl)
  obtain ⟨fl, ρ1, st1, G1, e1, x1, I1, hf⟩ := z
  have eq1 : sSeq k1 k2 ρ st = (RS.go fl ρ1 st1).then k2 := by unfold sSeq; rw [e1]
  rw [eq1] at h ⊢
  cases fl with
  | nx =>
    cases (show f = .next from hf)
    exact wpAny_mono (h2 pins s1 G1 ρ1 st1 I1 h) (fun _ _ z => z.up x1 fun _ _ _ q => q) fun _ _ z => z.up x1 fun _ _ _ q => q
  | bk => cases (show f = .brk from hf); exact ⟨_, _, _, G1, rfl, x1, I1, rfl⟩
  | ct => cases (show f = .cont from hf); exact ⟨_, _, _, G1, rfl, x1, I1, rfl⟩
  | rt d =>
    obtain ⟨u, rfl, h3⟩ := hf
    exact ⟨_, _, _, G1, rfl, x1, I1, u, rfl, h3⟩
theorem ds_pass : DS X T (.Pass pos) sNext := .mk fun pins s G ρ st I _ => wpAny_Pass ⟨.nx, ρ, st, G, rfl, SExt.refl G, I, rfl⟩
theorem ds_brk : DS X T (.Break pos) sBrk := .mk fun pins s G ρ st I _ => wpAny_Break ⟨.bk, ρ, st, G, rfl, SExt.refl G, I, rfl⟩
theorem ds_cnt : DS X T (.Continue pos) sCnt := .mk fun pins s G ρ st I _ => wpAny_Continue ⟨.ct, ρ, st, G, rfl, SExt.refl G, I, rfl⟩
theorem ds_expr (he : DE X T e m) (hs : swapsWith e none pos.line X.env = pure false := by rfl) : DS X T (.Expr e pos) (sDrop m) := .mk fun pins s G ρ st I h => by
  refine wpAny_Expr_any (he.run I (ofE_l h) (fun u s1 d st1 G1 e1 x1 I1 _ _ _ => ?_) fun x s1 z => z.sx fun ex st' e1 => by unfold sDrop; rw [e1]; rfl) I.inv.quiet hs
  exact ⟨.nx, ρ, st1, G1, by unfold sDrop; rw [e1]; rfl, x1.sx, I1, rfl⟩
theorem ds_doc {j pos'} {x : Str} : DS X T (.Expr (.Constant (.str x) j pos) pos') sNext := .mk fun pins s G ρ st I _ => wpAny_Expr (Calls.Constant_str ⟨.nx, ρ, st, G, rfl, SExt.refl G, I.tk (Nat.le_succ _), rfl⟩) I.inv.quiet
theorem ds_ret (he : DE X T e m) : DS X T (.Return (some e) pos) (sRet m) := .mk fun pins s G ρ st I h => by
  refine wpAny_Return_some (he.run I (ofE_l h) (fun u s1 d st1 G1 e1 x1 I1 r1 n1 _ => ?_) fun x s1 z => z.sx fun ex st' e1 => by unfold sRet; rw [e1]; rfl)
  exact ⟨.rt d, ρ, st1, G1, by unfold sRet; rw [e1]; rfl, x1.sx, I1, u, rfl, r1, fun ds a e2 e3 => I.ext.dom a (n1 ds a e2 e3)⟩
theorem ds_retN : DS X T (.Return none pos) sRetN := .mk fun pins s G ρ st I _ => wpAny_Return_none ⟨.rt .non, ρ, st, G, rfl, SExt.refl G, I, .none, rfl, rfl, fun ds a e2 _ => by cases e2⟩
theorem ds_if {ba bb : List Stmt} (hc : DT X T c tc) (ha : DSs X T ba k1) (hb : DSs X T bb k2) : DS X T (.If c ba bb pos) (sIf tc k1 k2) := .mk fun pins s G ρ st I h => by
  refine wpAny_If (test_run (hc pins s G ρ st I (ofE_l h)) (fun d s1 st1 G1 e1 x1 I1 => ?_) fun x s1 z => z.sx fun ex st' e1 => by unfold sIf; rw [e1]; rfl)
  have eq1 : sIf tc k1 k2 ρ st = if d = true then k1 ρ st1 else k2 ρ st1 := by unfold sIf; rw [e1]; rfl
  rw [eq1] at h ⊢
  cases d with
  | true => exact wpAny_mono (ha pins s1 G1 ρ st1 I1 h) (fun _ _ z => z.up x1.sx fun _ _ _ q => q) fun _ _ z => z.up x1.sx fun _ _ _ q => q
  | false => exact wpAny_mono (hb pins s1 G1 ρ st1 I1 h) (fun _ _ z => z.up x1.sx fun _ _ _ q => q) fun _ _ z => z.up x1.sx fun _ _ _ q => q
theorem DS.same {m' : SM} (h : DS X T sm k) (q : ∀ ρ st, m' ρ st ≠ .bad → k ρ st = m' ρ st) : DS X T sm m' := .mk fun pins s G ρ st I hb => by
  have e1 := q ρ st hb
  rw [← e1] at hb ⊢
  exact h pins s G ρ st I hb

/-! ### a name is stored -/
theorem ns_inj {h : Heap} {a : Addr} {m m' : Str → Option Value} (h1 : h.Ns a m) (h2 : h.Ns a m') : m = m' := by
  obtain ⟨o, es, ep, e1, e2, _, e3⟩ := h1
  obtain ⟨o', es', ep', g1, g2, _, g3⟩ := h2
  rw [e1] at g1
  cases g1
  rw [e2] at g2
  cases g2
  funext n
  exact (e3 n).symm.trans (g3 n)
theorem look_fn {env : Env} {h : Heap} {m : Str → Option Value} {x : Str} {u v : Value} (a : Look env h m x u) (b : Look env h m x v) : u = v := by
  rcases a with ⟨k, e⟩ | ⟨k, c, hc, o, e1, e2⟩
  · rcases b with ⟨_, e'⟩ | ⟨k', _⟩
    · exact Option.some.inj (e.symm.trans e')
    · rcases k' with k' | k' <;> rw [k] at k' <;> cases k'
  · rcases b with ⟨k', _⟩ | ⟨_, c', hc', o', g1, g2⟩
    · rcases k with k | k <;> rw [k'] at k <;> cases k
    · rw [hc] at hc'
      cases hc'
      rw [e1] at g1
      cases g1
      rw [e2] at g2
      cases g2
      rfl
/-- an untracked object of ours, changed -/
theorem inv_set {a : Addr} {h' : Heap} {t' : Nat} (I : Inv X pins (blank X.N) G.H s) (hs : Heap.SameBut a s.heap h') (hold : ∃ ob, s.heap.get? a = some ob) (hn : G.H a = none) (hap : X.s_0.heap.objs.size ≤ a) (ns : ∃ m, h'.Ns X.env.locals m)
    (cells : ∀ y c, X.env.cells.lookup y = some c → ∃ v, h'.IsCell c v) (hp : ∀ q ∈ X.pn ++ pins, q.1 ≠ a) : Inv X pins (blank X.N) G.H { s with heap := h', toks := t' } := by
  have old : ∀ b ob, X.s_0.heap.get? b = some ob → b ≠ a := fun b ob e z => by
    subst z
    exact absurd (Nat.lt_of_lt_of_le (Heap.lt_size e) hap) (Nat.lt_irrefl _)
  have trk : ∀ b u, G.H b = some u → b ≠ a := fun b u e z => by
    subst z
    rw [hn] at e
    cases e
  obtain ⟨m, hm⟩ := ns
  refine ⟨I.ok, I.os, I.bare, ⟨fun b ob e n hb hx => (hs.2 b (old b ob e)).trans (I.base.keep b ob e n hb hx), fun b ob e n hb hx => ?_, I.base.free, fun b ob e hx => ?_, I.base.tups, I.base.frzs, I.base.tbls⟩,
    ⟨m, hm, fun j y v _ e2 _ => (blank_get e2).elim⟩, cells, I.free, I.freeC, fun q hq => ?_, fun b u e => ?_, I.len⟩
  · obtain ⟨sl, q⟩ := I.base.slot b ob e n hb hx
    exact ⟨sl, (hs.2 b (old b ob e)).trans q⟩
  · obtain ⟨ob', q⟩ := I.base.there b ob e hx
    exact ⟨ob', (hs.2 b (old b ob e)).trans q⟩
  · obtain ⟨e, n, r⟩ := I.pin q hq
    exact ⟨(hs.2 q.1 (hp q hq)).trans e, n, r⟩
  · refine (I.hok b u e).stay (fun c v hc q => (hs.2 c ?_).trans q) (fun _ q => q) fun _ _ q => q
    rcases hc with z | hc
    · rw [z]; exact trk b u e
    · exact trk c _ hc
theorem sto_mono {h' : Heap} {t' : Nat} (I : InvD X T pins G ρ st s) (hn : s.toks ≤ t') : StoOk T.T G t' st := I.sto.mono (Ext.refl G) hn rfl fun _ _ _ h => h
theorem set_run2 {i : Nat} {d : D} {u : Value} {Q : Unit → Shared → Prop} {E : Value → Shared → Prop} (I : InvD X T pins G ρ st s) (hN : X.N.Nodup) (hi : X.N[i]? = some x) (hx : Loc X.env.scope x) (r : Rep T.T G s.toks d u) (hn : notNew d = true) (ho : T.fn = true → ∀ j c, d = .own j c → j = i)
    (h : ∀ s', InvD X T pins G (ρ.set i (some d)) st s' → s.toks ≤ s'.toks → (∃ a, Heap.SameBut a s.heap s'.heap ∧ (a = X.env.locals ∨ X.env.cells.lookup x = some a)) → Q () s') (hf : X.fn x = true ∨ X.env.scope.names.lookup x = some .local) : wpAny (model X.prog X.w) X.A (storeName X.env x u) Q E s := by
  obtain ⟨m, hm, h2⟩ := I.loc
  have hiρ : i < ρ.length := by rw [I.len]; exact (List.getElem?_eq_some_iff.mp hi).1
  have cne := I.inv.cne
  -- the rest, from how the other names and this one look
  have fin : ∀ (h' : Heap) (t' : Nat) (m' : Str → Option Value) (hn' : s.toks ≤ t'), h'.Ns X.env.locals m' → Inv X pins (blank X.N) G.H { s with heap := h', toks := t' } → Look X.env h' m' x u →
      (∀ j y v, j ≠ i → X.N[j]? = some y → Look X.env s.heap m y v → Look X.env h' m' y v) → InvD X T pins G (ρ.set i (some d)) st { s with heap := h', toks := t' } := by
    intro h' t' m' hn' ns J me fwd
    have get : ∀ (j : Nat) (d' : D), (ρ.set i (some d))[j]? = some (some d') → (j = i ∧ d' = d) ∨ (j ≠ i ∧ ρ[j]? = some (some d')) := fun j d' e => by
      by_cases hj : j = i
      · subst hj
        rw [List.getElem?_set_self hiρ] at e
        cases e
        exact .inl ⟨rfl, rfl⟩
      · rw [List.getElem?_set_ne (Ne.symm hj)] at e
        exact .inr ⟨hj, e⟩
    refine ⟨J, ⟨m', ns, fun j y d' a1 a2 a3 => ?_⟩, sto_mono (h' := h') I hn', Nat.le_trans I.tok hn', I.pos, by rw [List.length_set]; exact I.len, I.owd, I.ext, fun j d' e => ?_, I.oaT, I.oaw, I.oai, fun hf j k c e => ?_, I.tb, Nat.le_trans I.tk0 hn'⟩
    · rcases get j d' a2 with ⟨rfl, rfl⟩ | ⟨hj, a2⟩
      · rw [hi] at a1
        cases a1
        exact ⟨u, r.mono (Ext.refl G) hn', me⟩
      · obtain ⟨v, q, l⟩ := h2 j y d' a1 a2 a3
        exact ⟨v, q.mono (Ext.refl G) hn', fwd j y v hj a1 l⟩
    · rcases get j d' e with ⟨rfl, rfl⟩ | ⟨hj, e⟩
      · exact hn
      · exact I.nn j d' e
    · rcases get j _ e with ⟨rfl, e2⟩ | ⟨hj, e2⟩
      · exact ho hf k c e2.symm
      · exact I.so hf j k c e2
  have other : ∀ {j : Nat} {y : Str}, j ≠ i → X.N[j]? = some y → y ≠ x := fun {j y} hj a1 e => hj (nodup_ix hN a1 (e ▸ hi))
  rcases hx with hk | hk
  · have hcls : (X.env.scope.kind == .class || (X.env.scope.kind == .module && X.env.locals != X.env.globals)) = false := by rw [I.inv.ok.kind]; rfl
    refine wpAny_storeName_local hk hm (fun h' hn' hs => ?_) hcls
    have cell : ∀ y c v, X.env.cells.lookup y = some c → s.heap.IsCell c v → h'.IsCell c v := fun y c v e z => z.sameBut hs (cne y c e)
    obtain ⟨oL, _, _, hoL, _⟩ := id hm
    refine h _ (fin h' _ _ (Nat.le_succ _) hn' (inv_set I.inv hs ⟨oL, hoL⟩ I.inv.free I.inv.ok.above ⟨_, hn'⟩ (fun y c e => ?_) fun q hq => (I.inv.pin q hq).2.2.1) (.inl ⟨hk, by simp⟩) (fun j y v hj a1 l => ?_)) (Nat.le_succ _) ?_
    · obtain ⟨v, z⟩ := I.inv.cell y c e
      exact ⟨v, cell y c v e z⟩
    · rcases l with ⟨k1, e⟩ | ⟨k1, c, e, z⟩
      · exact .inl ⟨k1, by simp [other hj a1, e]⟩
      · exact .inr ⟨k1, c, e, cell y c _ e z⟩
    · exact ⟨_, hs, .inl rfl⟩
  · have hfn : X.fn x = true := by
      rcases hf with z | z
      · exact z
      · rw [z] at hk; cases hk
    obtain ⟨c, hc⟩ := I.inv.ok.has x (.inl hk)
    obtain ⟨w', z⟩ := I.inv.cell x c hc
    refine wpAny_storeName_cell I.inv.ok.kind hk hc z (fun h' hc' hs => ?_)
    obtain ⟨oc, hoc, hocd⟩ := id z
    have hm' : h'.Ns X.env.locals m := hm.sameBut hs (Ne.symm (cne x c hc))
    have inj : ∀ {j : Nat} {y : Str} {c' : Addr}, j ≠ i → X.N[j]? = some y → X.env.cells.lookup y = some c' → c' ≠ c := fun {j y c'} hj a1 e q => other hj a1 (I.inv.ok.inj _ _ _ e (q ▸ hc))
    refine h { s with heap := h' } (fin h' s.toks m (Nat.le_refl _) hm' (inv_set I.inv hs ⟨oc, hoc⟩ (I.inv.freeC x c hc) (I.inv.ok.cab x c hfn hc) ⟨m, hm'⟩ (fun y c' e => ?_) fun q hq e => ?_) (.inr ⟨.inl hk, c, hc, hc'⟩) (fun j y v hj a1 l => ?_)) (Nat.le_refl _) ?_
    · by_cases hcc : c' = c
      · subst hcc; exact ⟨_, hc'⟩
      · obtain ⟨w2, z2⟩ := I.inv.cell y c' e
        exact ⟨w2, z2.sameBut hs hcc⟩
    · obtain ⟨e1, _, _, _, dd⟩ := I.inv.pin q hq
      rw [e, hoc] at e1
      have q' : oc = q.2 := Option.some.inj e1
      exact dd w' (by rw [← q']; exact hocd)
    · rcases l with l | ⟨k1, c', e, z'⟩
      · exact .inl l
      · exact .inr ⟨k1, c', e, z'.sameBut hs (inj hj a1 e)⟩
    · exact ⟨c, hs, .inr hc⟩
theorem set_run {i : Nat} {d : D} {u : Value} {Q : Unit → Shared → Prop} {E : Value → Shared → Prop} (I : InvD X T pins G ρ st s) (hN : X.N.Nodup) (hi : X.N[i]? = some x) (hx : Loc X.env.scope x) (r : Rep T.T G s.toks d u) (hn : notNew d = true) (ho : T.fn = true → ∀ j c, d = .own j c → j = i)
    (h : ∀ s', InvD X T pins G (ρ.set i (some d)) st s' → s.toks ≤ s'.toks → Q () s') (hf : X.fn x = true ∨ X.env.scope.names.lookup x = some .local) : wpAny (model X.prog X.w) X.A (storeName X.env x u) Q E s := set_run2 I hN hi hx r hn ho (fun s' J q _ => h s' J q) hf
end
end DL
namespace DL
open PySem PySem.Spec PyProof.Rows L2

/-! ### assignments: known, own, shared -/
def sAsg (i : Nat) (m : EM) : SM := fun ρ st => RS.ofE ρ (m ρ st) fun d st1 => if plain (frz d) = true then .go .nx (ρ.set i (some (frz d))) st1 else .bad
def newL : D → Option (List D)
  | .new l => some l
  | _ => none
def sAsgO (i : Nat) (m : EM) : SM := fun ρ st => RS.ofE ρ (m ρ st) fun d st1 => match newL d with
  | some l => .go .nx (ρ.set i (some (.own i l))) st1
  | none => .bad
def sAsgC (i : Nat) (m : EM) : SM := fun ρ st => RS.ofE ρ (m ρ st) fun d st1 => match newL d with
  | some l => .go .nx (ρ.set i (some (.ref st1.length))) (st1 ++ [.lst l])
  | none => .bad
theorem newL_some {d : D} {l : List D} (h : newL d = some l) : d = .new l := by
  cases d <;> first | (cases h; rfl) | cases h
section
variable {X : Cx} {T : Fx} {pins : List (Addr × Obj)} {G G1 : Gh} {ρ ρ1 : Env_} {st st1 : Store} {s s1 : Shared} {e a b c o : Expr} {es : List Expr} {m ma mb mc mu' mo : EM} {ml : EL} {pos p2 p apos pos' : Pos} {x : Str} {sm : Stmt} {sms : List Stmt} {k k1 k2 : SM} {tc : EB}
theorem plain_ho {d : D} {i : Nat} (h : plain d = true) : T.fn = true → ∀ j c, d = .own j c → j = i := fun _ j c e => by
  rw [e] at h
  cases h
theorem ds_set {i : Nat} (hN : X.N.Nodup) (hi : X.N[i]? = some x) (hx : Loc X.env.scope x) (he : DE X T e m) (hs : swapsWith e (some (.Name x pos')) pos.line X.env = pure false := by rfl) (hf : X.fn x = true ∨ X.env.scope.names.lookup x = some .local := by first | exact .inl rfl | exact .inr rfl | assumption) :
    DS X T (.Assign [.Name x pos'] e pos) (sAsg i m) := .mk fun pins s G ρ st I h => by
  refine wpAny_Assign_Name (he.run I (ofE_l h) (fun u s1 d st1 G1 e1 x1 I1 r1 n1 _ => ?_) fun x s1 z => z.sx fun ex st' e1 => by unfold sAsg; rw [e1]; rfl) hs
  have eq1 : sAsg i m ρ st = if plain (frz d) = true then .go .nx (ρ.set i (some (frz d))) st1 else .bad := by unfold sAsg; rw [e1]; rfl
  rw [eq1] at h ⊢
  by_cases hp : plain (frz d) = true
  · rw [if_pos hp]
    obtain ⟨G2, x2, I2, r2⟩ := frz_ok I x1 I1 r1 n1
    exact set_run I2 hN hi hx r2 (frz_notNew d) (plain_ho hp) (fun s' J _ => ⟨.nx, _, st1, G2, rfl, x2.sx, J, rfl⟩) hf
  · rw [if_neg hp] at h
    exact absurd rfl h
/-- slot i's own list, from now on -/
def setOa (f : Nat → Option Addr) (i : Nat) (a : Addr) : Nat → Option Addr := fun j => if j = i then some a else f j
/-- the new list at a becomes a name's own; what the slot i held before is forgotten -/
theorem to_own {a : Addr} {ob : Obj} {i : Nat} (I : InvD X T pins G ρ st s) (h : G.H a = some (mu a ob)) (n2 : a ∉ G.ow) (ht : T.g.H a = none) (hf : T.fn = true) : InvD X T pins ⟨G.H, G.as, a :: G.ow, setOa G.oa i a⟩ (ρ.set i none) st s := by
  have sx : SExt G ⟨G.H, G.as, a :: G.ow, setOa G.oa i a⟩ := ⟨fun _ _ q => q, fun _ _ q => q⟩
  obtain ⟨m, h1, h2⟩ := I.loc
  have get : ∀ (j : Nat) (d' : D), (ρ.set i none)[j]? = some (some d') → j ≠ i ∧ ρ[j]? = some (some d') := fun j d' e => by
    by_cases hj : j = i
    · subst hj
      rw [List.getElem?_set] at e
      simp at e
    · rw [List.getElem?_set_ne (Ne.symm hj)] at e
      exact ⟨hj, e⟩
  refine ⟨I.inv, ⟨m, h1, fun j y d a1 a2 a3 => ?_⟩, ⟨I.sto.len, I.sto.nd, fun k b c q1 q2 => ?_⟩, I.tok, I.pos, by rw [List.length_set]; exact I.len, fun b hb q => ?_, ⟨I.ext.fr, I.ext.keep, I.ext.pre, I.ext.new, I.ext.dom, fun b hb => List.mem_cons_of_mem _ (I.ext.ow b hb)⟩, fun j d e => I.nn j d (get j d e).2, fun j b e => ?_, fun j b e => ?_, fun j k b e e' => ?_, fun hf j k c e => I.so hf j k c (get j _ e).2, I.tb, I.tk0⟩
  · obtain ⟨hj, a2⟩ := get j d a2
    obtain ⟨u, r, l⟩ := h2 j y d a1 a2 a3
    refine ⟨u, ?_, l⟩
    have hn := I.nn j d a2
    cases d with
    | new l => cases hn
    | own k l =>
      have hk := I.so hf j k l a2
      subst hk
      obtain ⟨b, o', us, q1, q2, q3, q4, q7, q5, q6⟩ := r
      refine ⟨b, o', us, q1, q2, q3, List.mem_cons_of_mem _ q4, ?_, q5, Reps.smono sx (Nat.le_refl _) q6⟩
      show (if k = i then some a else G.oa k) = some b
      rw [if_neg hj]
      exact q7
    | _ => exact Rep.smono sx (Nat.le_refl _) rfl r
  · have q := I.sto.cell k b c q1 q2
    cases c with
    | lst ds =>
      obtain ⟨o', us, q3, q4, q5⟩ := q
      exact ⟨o', us, q3, q4, Reps.smono sx (Nat.le_refl _) q5⟩
    | tbl q' => exact q
  · rcases List.mem_cons.mp hb with e | e
    · subst e
      have q' : G.H b = none := q
      rw [h] at q'
      cases q'
    · exact I.owd b e q
  · have e' : (if j = i then some a else G.oa j) = some b := e
    split at e'
    · cases e'
      exact ht
    · exact I.oaT j b e'
  · have e' : (if j = i then some a else G.oa j) = some b := e
    split at e'
    · cases e'
      exact List.mem_cons_self
    · exact List.mem_cons_of_mem _ (I.oaw j b e')
  · have f1 : (if j = i then some a else G.oa j) = some b := e
    have f2 : (if k = i then some a else G.oa k) = some b := e'
    split at f1
    · next h1 =>
      split at f2
      · next h2 => exact h1.trans h2.symm
      · cases f1
        exact absurd (I.oaw k a f2) n2
    · split at f2
      · cases f2
        exact absurd (I.oaw j a f1) n2
      · exact I.oai j k b f1 f2
theorem to_cell {a : Addr} {ob : Obj} {us : List Value} {ds : List D} (I : InvD X T pins G ρ st s) (h : G.H a = some (mu a ob)) (n1 : a ∉ G.as) (n2 : a ∉ G.ow) (ht : T.g.H a = none) (hl : LstO ob us) (r : Reps T.T G s.toks ds us) :
    InvD X T pins ⟨G.H, G.as ++ [a], G.ow, G.oa⟩ ρ (st ++ [.lst ds]) s ∧ SExt G ⟨G.H, G.as ++ [a], G.ow, G.oa⟩ := by
  have sx : SExt G ⟨G.H, G.as ++ [a], G.ow, G.oa⟩ := ⟨fun _ _ q => q, fun k b q => by
    show (G.as ++ [a])[k]? = some b
    rw [List.getElem?_append_left (List.getElem?_eq_some_iff.mp q).1]
    exact q⟩
  obtain ⟨m, h1, h2⟩ := I.loc
  refine ⟨⟨I.inv, ⟨m, h1, fun i y d a1 a2 a3 => ?_⟩, ⟨?_, ?_, fun k b c q1 q2 => ?_⟩, I.tok, I.pos, I.len, I.owd, ⟨I.ext.fr, I.ext.keep, fun k b q => sx.pre k b (I.ext.pre k b q), fun b hb => ?_, I.ext.dom, I.ext.ow⟩, I.nn, I.oaT, I.oaw, I.oai, I.so, fun j P h => sx.pre j P (I.tb j P h), I.tk0⟩, sx⟩
  · obtain ⟨u, r, l⟩ := h2 i y d a1 a2 a3
    refine ⟨u, ?_, l⟩
    have hn := I.nn i d a2
    cases d with
    | new l => cases hn
    | own j l =>
      obtain ⟨b, o', us, q1, q2, q3, q4, q7, q5, q6⟩ := r
      refine ⟨b, o', us, q1, q2, fun hb => ?_, q4, q7, q5, Reps.smono sx (Nat.le_refl _) q6⟩
      rcases List.mem_append.mp hb with e | e
      · exact q3 e
      · have e' : b = a := by simpa using e
        exact n2 (e' ▸ q4)
    | _ => exact Rep.smono sx (Nat.le_refl _) rfl r
  · show (G.as ++ [a]).length = (st ++ [Cell.lst ds]).length
    rw [List.length_append, List.length_append, I.sto.len]
    rfl
  · show (G.as ++ [a]).Nodup
    rw [List.nodup_append]
    refine ⟨I.sto.nd, by simp, fun b hb c hc e => ?_⟩
    have e' : c = a := by simpa using hc
    exact n1 (by rw [← e', ← e]; exact hb)
  · have q1' : (G.as ++ [a])[k]? = some b := q1
    by_cases hk : k < G.as.length
    · rw [List.getElem?_append_left hk] at q1'
      rw [List.getElem?_append_left (by rw [← I.sto.len]; exact hk)] at q2
      have q := I.sto.cell k b c q1' q2
      cases c with
      | lst ds' =>
        obtain ⟨o', us', q3, q4, q5⟩ := q
        exact ⟨o', us', q3, q4, Reps.smono sx (Nat.le_refl _) q5⟩
      | tbl q' => exact TabD.put q h (fun b hb => rfl) fun b m => (List.mem_append.mp m).imp_right fun z => by simpa using z
    · have hk2 : k = G.as.length := by
        have := (List.getElem?_eq_some_iff.mp q1').1
        rw [List.length_append, List.length_singleton] at this
        omega
      subst hk2
      rw [List.getElem?_append_right (Nat.le_refl _)] at q1'
      rw [List.getElem?_append_right (by rw [I.sto.len]; exact Nat.le_refl _)] at q2
      rw [I.sto.len] at q2
      simp at q1' q2
      subst q1' q2
      exact ⟨ob, us, h, hl, Reps.smono sx (Nat.le_refl _) r⟩
  · rcases List.mem_append.mp hb with e | e
    · exact I.ext.new b e
    · have e' : b = a := by simpa using e
      rw [e']
      exact .inr ht
theorem ds_setO {i : Nat} (hfn : T.fn = true) (hN : X.N.Nodup) (hi : X.N[i]? = some x) (hx : Loc X.env.scope x) (he : DE X T e m) (hs : swapsWith e (some (.Name x pos')) pos.line X.env = pure false := by rfl) (hf : X.fn x = true ∨ X.env.scope.names.lookup x = some .local := by first | exact .inl rfl | exact .inr rfl | assumption) :
    DS X T (.Assign [.Name x pos'] e pos) (sAsgO i m) := .mk fun pins s G ρ st I h => by
  refine wpAny_Assign_Name (he.run I (ofE_l h) (fun u s1 d st1 G1 e1 x1 I1 r1 n1 _ => ?_) fun x s1 z => z.sx fun ex st' e1 => by unfold sAsgO; rw [e1]; rfl) hs
  have eq1 : sAsgO i m ρ st = match newL d with | some l => .go .nx (ρ.set i (some (.own i l))) st1 | none => .bad := by unfold sAsgO; rw [e1]; rfl
  rw [eq1] at h ⊢
  cases hd : newL d with
  | none => rw [hd] at h; exact absurd rfl h
  | some l =>
    have ed := newL_some hd
    subst ed
    obtain ⟨a, ob, us, rfl, h1, h2, h3, h4, h5⟩ := r1
    have ht := I.ext.dom a (n1 l a rfl rfl)
    have sx : SExt G1 ⟨G1.H, G1.as, a :: G1.ow, setOa G1.oa i a⟩ := ⟨fun _ _ q => q, fun _ _ q => q⟩
    refine set_run (d := .own i l) (to_own (i := i) I1 h1 h3 ht hfn) hN hi hx ⟨a, ob, us, rfl, h1, h2, List.mem_cons_self, ?_, h4, Reps.smono sx (Nat.le_refl _) h5⟩ rfl (fun _ j c e => by cases e; rfl) (fun s' J _ => ⟨.nx, _, st1, _, rfl, x1.sx.trans sx, ?_, rfl⟩) hf
    · show (if i = i then some a else G1.oa i) = some a
      rw [if_pos rfl]
    · rw [List.set_set] at J
      exact J
theorem ds_setC {i : Nat} (hN : X.N.Nodup) (hi : X.N[i]? = some x) (hx : Loc X.env.scope x) (he : DE X T e m) (hs : swapsWith e (some (.Name x pos')) pos.line X.env = pure false := by rfl) (hf : X.fn x = true ∨ X.env.scope.names.lookup x = some .local := by first | exact .inl rfl | exact .inr rfl | assumption) :
    DS X T (.Assign [.Name x pos'] e pos) (sAsgC i m) := .mk fun pins s G ρ st I h => by
  refine wpAny_Assign_Name (he.run I (ofE_l h) (fun u s1 d st1 G1 e1 x1 I1 r1 n1 _ => ?_) fun x s1 z => z.sx fun ex st' e1 => by unfold sAsgC; rw [e1]; rfl) hs
  have eq1 : sAsgC i m ρ st = match newL d with | some l => .go .nx (ρ.set i (some (.ref st1.length))) (st1 ++ [.lst l]) | none => .bad := by unfold sAsgC; rw [e1]; rfl
  rw [eq1] at h ⊢
  cases hd : newL d with
  | none => rw [hd] at h; exact absurd rfl h
  | some l =>
    have ed := newL_some hd
    subst ed
    obtain ⟨a, ob, us, rfl, h1, h2, h3, h4, h5⟩ := r1
    have ht := I.ext.dom a (n1 l a rfl rfl)
    obtain ⟨J, sx⟩ := to_cell I1 h1 h2 h3 ht h4 h5
    refine set_run (d := .ref st1.length) J hN hi hx ⟨a, rfl, ?_⟩ rfl (plain_ho rfl) (fun s' J _ => ⟨.nx, _, _, _, rfl, x1.sx.trans sx, J, rfl⟩) hf
    show (G1.as ++ [a])[st1.length]? = some a
    rw [← I1.sto.len, List.getElem?_append_right (Nat.le_refl _)]
    simp

/-! ### lists written -/
/-- the list at a, of this frame or shared, changed -/
theorem put_list {a : Addr} {ob : Obj} {us : List Value} {n : Nat} {h' : Heap} {t' : Nat} (I : InvD X T pins G ρ st s) (h : G.H a = some (mu a ob)) (k : ∀ b u, b ≠ a → s.heap.get? b = some u → h'.get? b = some u) (e : h'.get? a = some { cls := .type "list", data := .seq us.toArray n }) :
    Inv X pins (blank X.N) (upd G.H a (mu a { cls := .type "list", data := .seq us.toArray n })) { s with heap := h', toks := t' } :=
  I.inv.write (x := a) (e := a) (by rw [h]; exact True.intro) (.inl rfl) k ⟨_, e⟩ (ok_mu e)
theorem rep_put {G : Gh} {a : Addr} {ob ob' : Obj} (h : G.H a = some (mu a ob)) : SExt G ⟨upd G.H a (mu a ob'), G.as, G.ow, G.oa⟩ := ⟨fun b o q => by
    have hb : b ≠ a := fun z => by
      subst z
      rw [h] at q
      have q' := Option.some.inj q
      unfold fz mu at q'
      cases q'
    exact (upd_ne hb).trans q, fun _ _ q => q⟩
end
end DL
namespace DL
open PySem PySem.Spec PyProof.Rows L2
theorem ne_comm {α : Sort _} {a b : α} : a ≠ b ↔ b ≠ a := ⟨Ne.symm, Ne.symm⟩
theorem nodup_addr {l : List Addr} (h : l.Nodup) {i j : Nat} {x : Addr} (a : l[i]? = some x) (b : l[j]? = some x) : i = j := by
  obtain ⟨h1, e1⟩ := List.getElem?_eq_some_iff.mp a
  obtain ⟨h2, e2⟩ := List.getElem?_eq_some_iff.mp b
  exact (List.getElem_inj h).mp (e1.trans e2.symm)
section
variable {X : Cx} {T : Fx} {pins : List (Addr × Obj)} {G G1 : Gh} {ρ ρ1 : Env_} {st st1 : Store} {s s1 : Shared} {e a b c o : Expr} {es : List Expr} {m ma mb mc mo : EM} {ml : EL} {pos p2 p apos pos' : Pos} {x : Str} {sm : Stmt} {sms : List Stmt} {k k1 k2 : SM} {tc : EB}
/-! ### lists written -/
theorem own_inv {i : Nat} {l l' : List D} {a : Addr} {ob : Obj} {us : List Value} {n : Nat} {h' : Heap} {t' : Nat} (I : InvD X T pins G ρ st s) (hfn : T.fn = true) (hρ : ρ[i]? = some (some (.own i l))) (hoa : G.oa i = some a) (hna : a ∉ G.as) (hnw : a ∈ G.ow) (h : G.H a = some (mu a ob))
    (k : ∀ b u, b ≠ a → s.heap.get? b = some u → h'.get? b = some u) (e : h'.get? a = some { cls := .type "list", data := .seq us.toArray n }) (hn : s.toks ≤ t') (z : us.length ≤ sizeLine) (r : Reps T.T G s.toks l' us)
    (look : ∀ m, s.heap.Ns X.env.locals m → Look X.env s.heap m x (.ref a)) (hi : X.N[i]? = some x) :
    ∃ G', SExt G G' ∧ InvD X T pins G' (ρ.set i (some (.own i l'))) st { s with heap := h', toks := t' } := by
  have sx := rep_put (ob' := { cls := .type "list", data := .seq us.toArray n }) h
  have hiρ : i < ρ.length := (List.getElem?_eq_some_iff.mp hρ).1
  have na : ∀ {b : Addr}, G.H b = none → b ≠ a := fun q => ne_comm.mp (ne_of_none h q)
  obtain ⟨m, h1, h2⟩ := I.loc
  have hm : h'.Ns X.env.locals m := by
    obtain ⟨oL, es, ep, q1, q2⟩ := h1
    exact ⟨oL, es, ep, k _ _ (na I.inv.free) q1, q2⟩
  have lk : ∀ {y : Str} {v : Value}, Look X.env s.heap m y v → Look X.env h' m y v := fun {y v} l => by
    rcases l with l | ⟨k1, c, e1, oc, q1, q2⟩
    · exact .inl l
    · exact .inr ⟨k1, c, e1, oc, k c oc (na (I.inv.freeC y c e1)) q1, q2⟩
  refine ⟨_, sx, put_list I h k e, ⟨m, hm, fun j y d a1 a2 a3 => ?_⟩, ⟨I.sto.len, I.sto.nd, fun j b c q1 q2 => ?_⟩, Nat.le_trans I.tok hn, I.pos, by rw [List.length_set]; exact I.len, fun b hb q => ?_, ⟨fun b o' q => sx.fr b o' (I.ext.fr b o' q), fun b u q hb => ?_, I.ext.pre, I.ext.new, fun b q => ?_, I.ext.ow⟩, fun j d' e' => ?_, I.oaT, I.oaw, I.oai, fun _ j i' c e' => ?_, I.tb, Nat.le_trans I.tk0 hn⟩
  · by_cases hj : j = i
    · subst hj
      rw [hi] at a1
      cases a1
      rw [List.getElem?_set_self hiρ] at a2
      cases a2
      exact ⟨.ref a, ⟨a, _, us, rfl, upd_same, hna, hnw, hoa, ⟨⟨n, rfl⟩, z⟩, Reps.smono sx hn r⟩, lk (look m h1)⟩
    · rw [List.getElem?_set_ne (Ne.symm hj)] at a2
      obtain ⟨v, q, l⟩ := h2 j y d a1 a2 a3
      refine ⟨v, ?_, lk l⟩
      have hnn := I.nn j d a2
      cases d with
      | new l => cases hnn
      | own j' c =>
        have hj' := I.so hfn j j' c a2
        subst hj'
        obtain ⟨b, o', us', q1, q2, q3, q4, q5, q6, q7⟩ := q
        have hb : b ≠ a := fun z => hj (I.oai j' i a (z ▸ q5) hoa)
        exact ⟨b, o', us', q1, (upd_ne hb).trans q2, q3, q4, q5, q6, Reps.smono sx hn q7⟩
      | _ => exact Rep.smono sx hn rfl q
  · have q := I.sto.cell j b c q1 q2
    cases c with
    | lst ds =>
      obtain ⟨o', us', q3, q4, q5⟩ := q
      have hb : b ≠ a := fun z => hna (z ▸ List.mem_of_getElem? q1)
      exact ⟨o', us', (upd_ne hb).trans q3, q4, Reps.smono sx hn q5⟩
    | tbl q' => exact TabD.put q h (fun b hb => upd_ne hb) fun _ m => .inl m
  · by_cases hba : b = a
    · subst hba
      have q' : upd G.H b _ b = none := q
      rw [upd_same] at q'
      cases q'
    · exact I.owd b hb ((upd_ne hba).symm.trans q)
  · have hba : b ≠ a := fun z => by
      have := I.oaT i a hoa
      rw [z, this] at q
      cases q
    exact (upd_ne hba).trans (I.ext.keep b u q hb)
  · by_cases hba : b = a
    · subst hba
      have q' : upd G.H b _ b = none := q
      rw [upd_same] at q'
      cases q'
    · exact I.ext.dom b ((upd_ne hba).symm.trans q)
  · by_cases hj : j = i
    · subst hj
      rw [List.getElem?_set_self hiρ] at e'
      cases e'
      rfl
    · rw [List.getElem?_set_ne (Ne.symm hj)] at e'
      exact I.nn j d' e'
  · by_cases hj : j = i
    · subst hj
      rw [List.getElem?_set_self hiρ] at e'
      cases e'
      rfl
    · rw [List.getElem?_set_ne (Ne.symm hj)] at e'
      exact I.so hfn j i' c e'
theorem cell_inv {i : Nat} {l' : List D} {a : Addr} {ob : Obj} {us : List Value} {n : Nat} {h' : Heap} {t' : Nat} (I : InvD X T pins G ρ st s) (ha : G.as[i]? = some a) (hl : i < st.length) (h : G.H a = some (mu a ob))
    (k : ∀ b u, b ≠ a → s.heap.get? b = some u → h'.get? b = some u) (e : h'.get? a = some { cls := .type "list", data := .seq us.toArray n }) (hn : s.toks ≤ t') (z : us.length ≤ sizeLine) (r : Reps T.T G s.toks l' us) :
    ∃ G', SExt G G' ∧ Ext G G' ∧ InvD X T pins G' ρ (st.set i (.lst l')) { s with heap := h', toks := t' } := by
  have sx := rep_put (ob' := { cls := .type "list", data := .seq us.toArray n }) h
  have na : ∀ {b : Addr}, G.H b = none → b ≠ a := fun q => ne_comm.mp (ne_of_none h q)
  have hmem : a ∈ G.as := List.mem_of_getElem? ha
  obtain ⟨m, h1, h2⟩ := I.loc
  have hm : h'.Ns X.env.locals m := by
    obtain ⟨oL, es, ep, q1, q2⟩ := h1
    exact ⟨oL, es, ep, k _ _ (na I.inv.free) q1, q2⟩
  have lk : ∀ {y : Str} {v : Value}, Look X.env s.heap m y v → Look X.env h' m y v := fun {y v} l => by
    rcases l with l | ⟨k1, c, e1, oc, q1, q2⟩
    · exact .inl l
    · exact .inr ⟨k1, c, e1, oc, k c oc (na (I.inv.freeC y c e1)) q1, q2⟩
  have dom : ∀ b, upd G.H a (mu a { cls := .type "list", data := .seq us.toArray n }) b = none → G.H b = none := fun b q => by
    by_cases hba : b = a
    · subst hba
      rw [upd_same] at q
      cases q
    · exact (upd_ne hba).symm.trans q
  refine ⟨_, sx, ⟨sx.fr, fun b u q hb => ?_, sx.pre, fun b q => .inl q, dom, rfl, rfl⟩, put_list I h k e, ⟨m, hm, fun j y d a1 a2 a3 => ?_⟩, ⟨by rw [List.length_set]; exact I.sto.len, I.sto.nd, fun j b c q1 q2 => ?_⟩, Nat.le_trans I.tok hn, I.pos, I.len, fun b hb q => I.owd b hb (dom b q), ⟨fun b o' q => sx.fr b o' (I.ext.fr b o' q), fun b u q hb => ?_, I.ext.pre, I.ext.new, fun b q => I.ext.dom b (dom b q), I.ext.ow⟩, I.nn, I.oaT, I.oaw, I.oai, I.so, I.tb, Nat.le_trans I.tk0 hn⟩
  · have hba : b ≠ a := fun z => hb (z ▸ hmem)
    exact (upd_ne hba).trans q
  · obtain ⟨v, q, l⟩ := h2 j y d a1 a2 a3
    refine ⟨v, ?_, lk l⟩
    have hnn := I.nn j d a2
    cases d with
    | new l => cases hnn
    | own j' c =>
      obtain ⟨b, o', us', q1, q2, q3, q4, q5, q6, q7⟩ := q
      have hb : b ≠ a := fun z => q3 (z ▸ hmem)
      exact ⟨b, o', us', q1, (upd_ne hb).trans q2, q3, q4, q5, q6, Reps.smono sx hn q7⟩
    | _ => exact Rep.smono sx hn rfl q
  · have q1' : G.as[j]? = some b := q1
    by_cases hj : j = i
    · subst hj
      rw [ha] at q1'
      cases q1'
      rw [List.getElem?_set_self hl] at q2
      cases q2
      exact ⟨_, us, upd_same, ⟨⟨n, rfl⟩, z⟩, Reps.smono sx hn r⟩
    · rw [List.getElem?_set_ne (Ne.symm hj)] at q2
      have hb : b ≠ a := fun z => hj (nodup_addr I.sto.nd q1' (z ▸ ha))
      have q := I.sto.cell j b c q1' q2
      cases c with
      | lst ds =>
        obtain ⟨o', us', q3, q4, q5⟩ := q
        exact ⟨o', us', (upd_ne hb).trans q3, q4, Reps.smono sx hn q5⟩
      | tbl q' => exact TabD.put q h (fun b hb => upd_ne hb) fun _ m => .inl m
  · have hba : b ≠ a := fun z => by
      subst z
      rcases I.ext.new b hmem with q' | q'
      · exact hb q'
      · rw [q] at q'
        cases q'
    exact (upd_ne hba).trans (I.ext.keep b u q hb)
/-! ### x.append(e) -/
def ownAt (ρ : Env_) (i : Nat) : Option (List D) := match ρ[i]? with
  | some (some (.own j l)) => if j = i then some l else none
  | _ => none
theorem ownAt_some {i : Nat} {l : List D} (h : ownAt ρ i = some l) : ρ[i]? = some (some (.own i l)) := by
  unfold ownAt at h
  split at h
  · next j l' e =>
    split at h
    · next hj =>
      cases h
      subst hj
      exact e
    · cases h
  · cases h
def sApp (i : Nat) (m : EM) : SM := fun ρ st => match ownAt ρ i with
  | some l => RS.ofE ρ (m ρ st) fun d st1 => if plain (frz d) = true ∧ l.length < 1000000 then .go .nx (ρ.set i (some (.own i (l ++ [frz d])))) st1 else .bad
  | none => .bad
theorem ds_app {i : Nat} {q1 cpos : Pos} (hfn : T.fn = true) (hi : X.N[i]? = some x) (hv : Vis X.env.scope x) (he : DE X T e m) (hd : (x == ("__debug__" : Str)) = false := by decide) (hcd : (x == ("__classdict__" : Str)) = false := by decide)
    (hbase : attributeBase (.Name x q1) "append" X.env (eval (.Name x q1) X.env) = eval (.Name x q1) X.env := by rfl) (hline : (apos.endLine == cpos.line) = true := by rfl) (htrees : backTo cpos (starEach [e] X.env) = [(false, eval e X.env)] := by rfl)
    (hs : swapsWith (.Call (.Attribute (.Name x q1) "append" apos) [e] [] cpos) none pos.line X.env = pure false := by rfl) : DS X T (.Expr (.Call (.Attribute (.Name x q1) "append" apos) [e] [] cpos) pos) (sApp i m) := .mk fun pins s G ρ st I h => by
  have z0 := sizeLine_eq
  cases hl : ownAt ρ i with
  | none =>
    exact absurd (by unfold sApp; rw [hl]) h
  | some l =>
  have eqm : sApp i m ρ st = RS.ofE ρ (m ρ st) fun d st1 => if plain (frz d) = true ∧ l.length < 1000000 then .go .nx (ρ.set i (some (.own i (l ++ [frz d])))) st1 else .bad := by unfold sApp; rw [hl]
  rw [eqm] at h ⊢
  have hρ := ownAt_some hl
  refine wpAny_Expr_any (wpAny_Call_method1_late hbase hline htrees (name_ok I hi hv hd hcd hρ fun u r => ?_)) I.inv.quiet hs
  obtain ⟨a, ob, us, rfl, g1, g2, g3, g4, ⟨⟨n, hob⟩, g5⟩, g6⟩ := r
  have ho := I.atM g1
  rw [hob] at ho
  refine ⟨"list", _, F.plainAttrs_list, F.slot_list_append, F.type_list_append, ⟨_, ho, rfl⟩, (fun b e => by cases e; exact ⟨_, ho, rfl⟩), Calls.callWith_builtin rfl (Calls.evalArgs_plain (Calls.spliced_cons ?_))⟩
  refine he.run I (ofE_l h) (fun v s1 d st1 G1 e1 x1 I1 r1 n1 hn => Calls.spliced_nil ?_) fun x s1 z => z.sx fun ex st' e1 => by rw [e1]; rfl
  rw [e1, ofE_ok] at h ⊢
  by_cases hc : plain (frz d) = true ∧ l.length < 1000000
  · rw [if_pos hc]
    obtain ⟨G2, x2, I2, r2⟩ := frz_ok I x1 I1 r1 n1
    have g1' := x2.keep a _ g1 g2
    have ho2 := I2.atM g1'
    rw [hob] at ho2
    have hlen := g6.length
    have look : ∀ m', s1.heap.Ns X.env.locals m' → Look X.env s1.heap m' x (.ref a) := fun m' hm => by
      obtain ⟨m2, f1, f2⟩ := I2.loc
      obtain ⟨v2, q, lk⟩ := f2 i x _ hi hρ hv
      obtain ⟨b, _, _, q1, _, _, _, q5, _⟩ := q
      have : a = b := by
        rw [x2.oa, g4] at q5
        exact Option.some.inj q5
      rw [ns_inj hm f1, this, ← q1]
      exact lk
    have la := PySem.list_append a us.toArray n v (by rw [List.size_toArray]; omega)
    refine call_meets F.slot_list_append ⟨_, ho2, rfl⟩ F.entry_list_append (F.args_list_append_2 _ _) la ⟨ho2, ?_⟩
    have up := PySem.IsL.update ho2 (fun y => y.push v)
    rw [show us.toArray.push v = (us ++ [v]).toArray by simp] at up
    obtain ⟨G3, sx, J⟩ := own_inv (t' := s1.toks) I2 hfn hρ (by rw [x2.oa]; exact g4) (x2.notin g1 g2) (by rw [x2.ow]; exact g3) g1' (fun b u hb q => (Heap.get?_update_other _ _ (Ne.symm hb)).trans q) up (Nat.le_refl _) (by rw [List.length_append, List.length_singleton]; omega) ((Reps.mono x2 hn g6).snoc hc.1 r2) look hi
    exact ⟨.nx, _, st1, G3, rfl, x2.sx.trans sx, J, rfl⟩
  · rw [if_neg hc] at h
    exact absurd rfl h
/-! ### x[k] = e, the list shared -/
theorem Reps.set {T : Tx} {G : Gh} {n : Nat} {d : D} {u : Value} (p : plain d = true) (r : Rep T G n d u) : ∀ {ds : List D} {us : List Value} (j : Nat), Reps T G n ds us → Reps T G n (ds.set j d) (us.set j u)
  | [], _, _, h => by
    cases (show _ = [] from h)
    exact rfl
  | _ :: _, _, 0, ⟨v, vs, h1, hp, h2, h3⟩ => by
    subst h1
    exact ⟨u, vs, rfl, p, r, h3⟩
  | _ :: _, _, j + 1, ⟨v, vs, h1, hp, h2, h3⟩ => by
    subst h1
    exact ⟨v, _, rfl, hp, h2, Reps.set p r j h3⟩
def refAt (ρ : Env_) (i : Nat) : Option Nat := match ρ[i]? with
  | some (some (.ref n)) => some n
  | _ => none
theorem refAt_some {i n : Nat} (h : refAt ρ i = some n) : ρ[i]? = some (some (.ref n)) := by
  unfold refAt at h
  split at h
  · next n' e => cases h; exact e
  · cases h
def cellSet (st : Store) (n k : Nat) (d : D) : Option Store := match st[n]? with
  | some (.lst l) => if plain d = true ∧ k < l.length then some (st.set n (.lst (l.set k d))) else none
  | _ => none
def sSetC (i k : Nat) (m : EM) : SM := fun ρ st => RS.ofE ρ (m ρ st) fun d st1 => match (refAt ρ i).bind fun n => cellSet st1 n k (frz d) with
  | some st2 => .go .nx ρ st2
  | none => .bad
theorem ds_setc {i k j : Nat} {q1 q2 q3 : Pos} (hi : X.N[i]? = some x) (hv : Vis X.env.scope x) (he : DE X T e m) (hk : (k : Int) < 2 ^ 62 := by decide) (hd : (x == ("__debug__" : Str)) = false := by decide) (hcd : (x == ("__classdict__" : Str)) = false := by decide)
    (ha : ∀ v, assign (.Subscript (.Name x q1) (.Constant (.int (k : Int)) j q2) q3) X.env v = (do
      let ov ← holding [v] (eval (.Name x q1) X.env)
      let iv ← holding [v, ov] (eval (.Constant (.int (k : Int)) j q2) X.env)
      standAt q3
      holding [v, ov, iv] (setItem ov iv v)
      release [v, ov, iv] []) := by intro _; rfl)
    (hs : swapsWithSole [.Subscript (.Name x q1) (.Constant (.int (k : Int)) j q2) q3] e pos.line X.env = pure false := by rfl) (hw : swappedStores [.Subscript (.Name x q1) (.Constant (.int (k : Int)) j q2) q3] e X.env = pure none := by rfl)
    (h1 : (assignEach [.Subscript (.Name x q1) (.Constant (.int (k : Int)) j q2) q3] X.env).map (·.2) = [assign (.Subscript (.Name x q1) (.Constant (.int (k : Int)) j q2) q3) X.env] := by rfl) :
    DS X T (.Assign [.Subscript (.Name x q1) (.Constant (.int (k : Int)) j q2) q3] e pos) (sSetC i k m) := .mk fun pins s G ρ st I h => by
  refine wpAny_Assign_stores (he.run I (ofE_l h) (fun v s1 d st1 G1 e1 x1 I1 r1 n1 hn => ?_) fun x s1 z => z.sx fun ex st' e1 => by unfold sSetC; rw [e1]; rfl) hs hw
  have eq1 : sSetC i k m ρ st = match (refAt ρ i).bind fun n => cellSet st1 n k (frz d) with | some st2 => .go .nx ρ st2 | none => .bad := by unfold sSetC; rw [e1]; rfl
  rw [eq1] at h ⊢
  cases hc : (refAt ρ i).bind fun n => cellSet st1 n k (frz d) with
  | none => rw [hc] at h; exact absurd rfl h
  | some st2 =>
  obtain ⟨n, hr, hcs⟩ := Option.bind_eq_some_iff.mp hc
  have hρ := refAt_some hr
  obtain ⟨G2, x2, I2, r2⟩ := frz_ok I x1 I1 r1 n1
  rw [h1]
  show wpAny _ _ (assign _ X.env v) _ _ s1
  rw [ha]
  refine wpAny_bind (wpAny_holding (name_ok I2 hi hv hd hcd hρ fun u r => ?_))
  obtain ⟨a, rfl, hra⟩ := r
  refine wpAny_bind (wpAny_holding (wpAny_Constant_int ?_))
  refine wpAny_bind (wpAny_standAt (wpAny_bind (wpAny_holding ?_)))
  unfold cellSet at hcs
  split at hcs
  · next l hl =>
    split at hcs
    · next hp =>
      cases hcs
      obtain ⟨ob, us, q1, ⟨⟨n', hob⟩, z⟩, q3⟩ := I2.sto.cell n a _ hra hl
      have ho := I2.atM q1
      rw [hob] at ho
      have hlen := q3.length
      refine PySem.W.ki_setAt (s := { s1 with toks := s1.toks + 1 }) ho (by omega) (by omega) (by rw [List.size_toArray]; omega) (wpAny_release ?_)
      have up := PySem.IsL.update ho (fun y => y.setIfInBounds k v)
      rw [show us.toArray.setIfInBounds k v = (us.set k v).toArray by simp] at up
      obtain ⟨G3, sx, _, J⟩ := cell_inv (t' := s1.toks + 1) I2 hra (List.getElem?_eq_some_iff.mp hl).1 q1 (fun b u hb q => (Heap.get?_update_other _ _ (Ne.symm hb)).trans q) up (Nat.le_succ _) (by rw [List.length_set]; exact z) (Reps.set hp.1 r2 k q3)
      exact ⟨.nx, ρ, _, G3, rfl, x2.sx.trans sx, J, rfl⟩
    · cases hcs
  · cases hcs
end
end DL
namespace DL
open PySem PySem.Spec PyProof.Rows L2
/-- several names stored, from the left -/
def setAll : List Nat → List D → Env_ → Option Env_
  | [], [], ρ => some ρ
  | i :: is, d :: ds, ρ => if plain d = true then setAll is ds (ρ.set i (some d)) else none
  | _, _, _ => none
def rsO (st : Store) : Option Env_ → RS
  | some ρ => .go .nx ρ st
  | none => .bad
/-- x, y = a tuple -/
def sUnp (is : List Nat) (m : EM) : SM := fun ρ st => RS.ofE ρ (m ρ st) fun d st1 => match d with
  | .tup ds => rsO st1 (setAll is ds ρ)
  | _ => .bad
/-- x, y = a, b -/
def sPar (is : List Nat) (ml : EL) : SM := fun ρ st => RS.ofE ρ (ml ρ st) fun ds st1 => rsO st1 (setAll is ds ρ)
section
variable {X : Cx} {T : Fx} {pins : List (Addr × Obj)} {G G1 : Gh} {ρ ρ1 : Env_} {st st1 : Store} {s s1 : Shared} {e a b c o : Expr} {es : List Expr} {m ma mb mc mo : EM} {ml : EL} {pos p2 p apos pos' : Pos} {x y z : Str} {sm : Stmt} {sms : List Stmt} {k k1 k2 : SM} {tc : EB}
theorem rsO_some {o : Option Env_} (h : rsO st o ≠ .bad) : ∃ ρ, o = some ρ := by
  cases o with
  | some ρ => exact ⟨ρ, rfl⟩
  | none => exact absurd rfl h
/-- the names are stored one after another -/
structure DGs (X : Cx) (T : Fx) (ts : List Expr) (is : List Nat) : Prop where
  ap : ∀ (pins : List (Addr × Obj)) (s : Shared) (G : Gh) (ρ ρ' : Env_) (st : Store) (us : List Value) (ds : List D) (E : Value → Shared → Prop), InvD X T pins G ρ st s → Reps T.T G s.toks ds us → setAll is ds ρ = some ρ' →
  wpAny (model X.prog X.w) X.A (assignInOrder ((assignEach ts X.env).map (·.2)) us) (fun _ s' => InvD X T pins G ρ' st s') E s
instance {X : Cx} {T : Fx} {ts : List Expr} {is : List Nat} : CoeFun (DGs X T ts is) fun _ => ∀ (pins : List (Addr × Obj)) (s : Shared) (G : Gh) (ρ ρ' : Env_) (st : Store) (us : List Value) (ds : List D) (E : Value → Shared → Prop), InvD X T pins G ρ st s → Reps T.T G s.toks ds us → setAll is ds ρ = some ρ' →
  wpAny (model X.prog X.w) X.A (assignInOrder ((assignEach ts X.env).map (·.2)) us) (fun _ s' => InvD X T pins G ρ' st s') E s := ⟨DGs.ap⟩
theorem dgs_nil : DGs X T [] [] := .mk fun pins s G ρ ρ' st us ds E I r h => by
  cases ds with
  | nil =>
    cases h
    cases (show us = [] from r)
    exact assignInOrder_nil I
  | cons _ _ => cases h
theorem dgs_cons {i : Nat} {is : List Nat} {q1 : Pos} (hN : X.N.Nodup) (hi : X.N[i]? = some x) (hx : Loc X.env.scope x) (ht : DGs X T es is) (hs : (assignEach (.Name x q1 :: es) X.env).map (·.2) = assign (.Name x q1) X.env :: (assignEach es X.env).map (·.2) := by rfl)
    (hf : X.fn x = true ∨ X.env.scope.names.lookup x = some .local := by first | exact .inl rfl | exact .inr rfl | assumption) : DGs X T (.Name x q1 :: es) (i :: is) := .mk fun pins s G ρ ρ' st us ds E I r h => by
  cases ds with
  | nil => cases h
  | cons d ds =>
    obtain ⟨u, us', rfl, hp, r1, r2⟩ := r
    have h' : (if plain d = true then setAll is ds (ρ.set i (some d)) else none) = some ρ' := h
    rw [if_pos hp] at h'
    rw [hs]
    exact assignInOrder_cons (wpAny_assign_Name (set_run I hN hi hx r1 (plain_notNew hp) (plain_ho hp) (fun s' J hn => ht pins s' G _ ρ' st us' ds E J (Reps.mono (Ext.refl G) hn r2) h') hf))
theorem ds_unp {is : List Nat} {kt : Nat} {q1 : Pos} (hc : X.calm = true) (he : DE X T e m) (ht : DGs X T es is) (hst : (assignEach es X.env).findIdx? (·.1) = none := by rfl) (hlen : (assignEach es X.env).length = is.length := by rfl)
    (hs : swapsWithSole [.Tuple es kt q1] e pos.line X.env = pure false := by rfl) (hw : swappedStores [.Tuple es kt q1] e X.env = pure none := by rfl)
    (h1 : (assignEach [.Tuple es kt q1] X.env).map (·.2) = [assign (.Tuple es kt q1) X.env] := by rfl) : DS X T (.Assign [.Tuple es kt q1] e pos) (sUnp is m) := .mk fun pins s G ρ st I h => by
  refine wpAny_Assign_stores (he.run I (ofE_l h) (fun v s1 d st1 G1 e1 x1 I1 r1 n1 hn => ?_) fun x s1 z => z.sx fun ex st' e1 => by unfold sUnp; rw [e1]; rfl) hs hw
  rw [h1]
  show wpAny _ _ (assign (.Tuple es kt q1) X.env v) _ _ s1
  have len : ∀ (is : List Nat) (ds : List D) (ρ ρ' : Env_), setAll is ds ρ = some ρ' → is.length = ds.length := by
    intro is
    induction is with
    | nil => intro ds ρ ρ' h; cases ds with
      | nil => rfl
      | cons _ _ => cases h
    | cons i is ih => intro ds ρ ρ' h; cases ds with
      | nil => cases h
      | cons d ds =>
        have h' : (if plain d = true then setAll is ds (ρ.set i (some d)) else none) = some ρ' := h
        split at h'
        · exact congrArg Nat.succ (ih _ _ _ h')
        · cases h'
  cases d with
  | tup ds =>
    have eq1 : sUnp is m ρ st = rsO st1 (setAll is ds ρ) := by unfold sUnp; rw [e1]; rfl
    rw [eq1] at h ⊢
    obtain ⟨ρ', hρ⟩ := rsO_some h
    rw [hρ]
    obtain ⟨a, ob, us, rfl, q1', ⟨hcl, ⟨n, hd⟩, hz⟩, q2⟩ := r1
    have hl := q2.length
    have hla := len _ _ _ _ hρ
    refine assign_Tuple_tuple (items := us.toArray) (I1.inv.ok.hd hc) ⟨_, I1.atF q1', hcl, n, hd⟩ (by rw [hlen, List.size_toArray]; omega) hst fun h' hx => ?_
    have I2 := I1.kept (h' := h') (t' := s1.toks) (fun b o e => hx b o (Nat.ne_of_lt (Heap.lt_size e)) e) (Nat.le_refl _)
    exact wpAny_mono (ht pins _ G1 ρ ρ' st1 us ds _ I2 q2 hρ) (fun _ s2 J => ⟨.nx, ρ', st1, G1, rfl, x1.sx, J, rfl⟩) fun _ _ z => z
  | _ => exact absurd (by unfold sUnp; rw [e1]; rfl) h
/-- the new tuple of the values, taken apart -/
theorem par_items {us : List Value} {ds : List D} {E : Value → Shared → Prop} {Q : List Value → Shared → Prop} (hc : X.calm = true) (I : InvD X T pins G ρ st s) (z : us.length ≤ sizeLine) (h : ∀ h', InvD X T pins G ρ st { s with heap := h' } → Q us { s with heap := h' }) :
    wpAny (model X.prog X.w) X.A (unpackItems (.ref s.heap.objs.size) us.length none) Q E { s with heap := s.heap.push { cls := .type "tuple", data := .seq us.toArray } } := by
  have I2 := I.kept (h' := s.heap.push { cls := .type "tuple", data := .seq us.toArray }) (t' := s.toks) (fun b o e => Heap.get?_push_of_some _ e) (Nat.le_refl _)
  have e : us.length = us.toArray.size := by simp
  rw [e]
  refine unpackItems_tuple (items := us.toArray) (I.inv.ok.hd hc) (IsTup.new s.heap _) fun h' hx' => ?_
  have I3 := I2.kept (h' := h') (t' := s.toks) (fun b o e => hx' b o (Nat.ne_of_lt (Heap.lt_size e)) e) (Nat.le_refl _)
  exact h h' I3
theorem ds_par2 {i j : Nat} {px py pt : Pos} {kt k2 pt2} (hc : X.calm = true) (hN : X.N.Nodup) (hi : X.N[i]? = some x) (hj : X.N[j]? = some y) (hij : i ≠ j) (hx : X.env.scope.names.lookup x = some .local) (hy : X.env.scope.names.lookup y = some .local) (ha : DA X T [a, b] ml)
    (hw : swappedStores [.Tuple [.Name x px, .Name y py] kt pt] (.Tuple [a, b] k2 pt2) X.env = pure (some [x, y])) (hs : swapsWithSole [.Tuple [.Name x px, .Name y py] kt pt] (.Tuple [a, b] k2 pt2) pos.line X.env = pure false := by rfl) :
    DS X T (.Assign [.Tuple [.Name x px, .Name y py] kt pt] (.Tuple [a, b] k2 pt2) pos) (sPar [i, j] ml) := .mk fun pins s G ρ st I h => by
  rw [exec_Assign_arm]
  refine wpAny_bind (wpAny_standAt ?_)
  rw [hs]
  refine wpAny_bind (wpAny_pure ?_)
  rw [if_neg (by decide)]
  refine wpAny_bind (Tuple_ (ha.run I (ofE_l h) (fun us s1 ds st1 G1 e1 x1 I1 r1 _ => ?_) fun x s1 z => z.sx fun ex st' e1 => by unfold sPar; rw [e1]; rfl))
  have eq1 : sPar [i, j] ml ρ st = rsO st1 (setAll [i, j] ds ρ) := by unfold sPar; rw [e1]; rfl
  rw [eq1] at h ⊢
  obtain ⟨ρ', hρ⟩ := rsO_some h
  rw [hρ]
  cases ds with
  | nil => cases hρ
  | cons d1 ds =>
  have hρ1 : (if plain d1 = true then setAll [j] ds (ρ.set i (some d1)) else none) = some ρ' := hρ
  split at hρ1
  case isFalse => cases hρ1
  case isTrue hp1 =>
  cases ds with
  | nil => cases hρ1
  | cons d2 ds =>
  have hρ2 : (if plain d2 = true then setAll [] ds ((ρ.set i (some d1)).set j (some d2)) else none) = some ρ' := hρ1
  split at hρ2
  case isFalse => cases hρ2
  case isTrue hp2 =>
  cases ds with
  | cons _ _ => cases hρ2
  | nil =>
  cases hρ2
  obtain ⟨u1, u2, rfl, r1', r2'⟩ := r1.two
  refine wpAny_newObj_type ?_ (by show 2 ≤ sizeLine; rw [sizeLine_eq]; decide)
  rw [hw]
  refine wpAny_bind (wpAny_pure ?_)
  show wpAny (model X.prog X.w) X.A (do rule "assign.swapped-stores"; let items ← unpackItems (.ref s1.heap.objs.size) [u1, u2].length none; assignInOrder [fun v => bindName X.env y v, fun v => bindName X.env x v] items.reverse; pure Flow.next) _ _ _
  refine wpAny_bind (wpAny_rule (wpAny_bind (par_items (ds := [d1, d2]) hc I1 (by show 2 ≤ sizeLine; rw [sizeLine_eq]; decide) fun h' I3 => ?_)))
  show wpAny _ _ (assignInOrder [fun v => bindName X.env y v, fun v => bindName X.env x v] [u2, u1] >>= fun _ => pure Flow.next) _ _ _
  refine wpAny_bind (assignInOrder_cons (wpAny_bindName (set_run I3 hN hj (.inl hy) r2' (plain_notNew hp2) (plain_ho hp2) (fun s2 I4 hn4 => ?_) (.inr hy))))
  refine assignInOrder_cons (wpAny_bindName (set_run I4 hN hi (.inl hx) (r1'.mono (Ext.refl G1) hn4) (plain_notNew hp1) (plain_ho hp1) (fun s3 I5 _ => assignInOrder_nil (wpAny_pure ?_)) (.inr hx)))
  rw [List.set_comm _ _ (Ne.symm hij)] at I5
  exact ⟨.nx, _, st1, G1, rfl, x1.sx, I5, rfl⟩
theorem ds_par3 {i j l : Nat} {px py pz pt : Pos} {kt k2 pt2} (hc : X.calm = true) (hN : X.N.Nodup) (hi : X.N[i]? = some x) (hj : X.N[j]? = some y) (hl : X.N[l]? = some z) (hij : i ≠ j) (hil : i ≠ l) (hjl : j ≠ l) (hx : X.env.scope.names.lookup x = some .local) (hy : X.env.scope.names.lookup y = some .local) (hz : X.env.scope.names.lookup z = some .local) (ha : DA X T [a, b, c] ml)
    (hw : swappedStores [.Tuple [.Name x px, .Name y py, .Name z pz] kt pt] (.Tuple [a, b, c] k2 pt2) X.env = pure (some [x, y, z])) (hs : swapsWithSole [.Tuple [.Name x px, .Name y py, .Name z pz] kt pt] (.Tuple [a, b, c] k2 pt2) pos.line X.env = pure false := by rfl) :
    DS X T (.Assign [.Tuple [.Name x px, .Name y py, .Name z pz] kt pt] (.Tuple [a, b, c] k2 pt2) pos) (sPar [i, j, l] ml) := .mk fun pins s G ρ st I h => by
  rw [exec_Assign_arm]
  refine wpAny_bind (wpAny_standAt ?_)
  rw [hs]
  refine wpAny_bind (wpAny_pure ?_)
  rw [if_neg (by decide)]
  refine wpAny_bind (Tuple_ (ha.run I (ofE_l h) (fun us s1 ds st1 G1 e1 x1 I1 r1 _ => ?_) fun x s1 z => z.sx fun ex st' e1 => by unfold sPar; rw [e1]; rfl))
  have eq1 : sPar [i, j, l] ml ρ st = rsO st1 (setAll [i, j, l] ds ρ) := by unfold sPar; rw [e1]; rfl
  rw [eq1] at h ⊢
  obtain ⟨ρ', hρ⟩ := rsO_some h
  rw [hρ]
  cases ds with
  | nil => cases hρ
  | cons d1 ds =>
  have hρ1 : (if plain d1 = true then setAll [j, l] ds (ρ.set i (some d1)) else none) = some ρ' := hρ
  split at hρ1
  case isFalse => cases hρ1
  case isTrue hp1 =>
  cases ds with
  | nil => cases hρ1
  | cons d2 ds =>
  have hρ2 : (if plain d2 = true then setAll [l] ds ((ρ.set i (some d1)).set j (some d2)) else none) = some ρ' := hρ1
  split at hρ2
  case isFalse => cases hρ2
  case isTrue hp2 =>
  cases ds with
  | nil => cases hρ2
  | cons d3 ds =>
  have hρ3 : (if plain d3 = true then setAll [] ds (((ρ.set i (some d1)).set j (some d2)).set l (some d3)) else none) = some ρ' := hρ2
  split at hρ3
  case isFalse => cases hρ3
  case isTrue hp3 =>
  cases ds with
  | cons _ _ => cases hρ3
  | nil =>
  cases hρ3
  obtain ⟨u1, us', rfl, _, r1', r23⟩ := r1
  obtain ⟨u2, u3, rfl, r2', r3'⟩ := r23.two
  refine wpAny_newObj_type ?_ (by show 3 ≤ sizeLine; rw [sizeLine_eq]; decide)
  rw [hw]
  refine wpAny_bind (wpAny_pure ?_)
  show wpAny (model X.prog X.w) X.A (do rule "assign.swapped-stores"; let items ← unpackItems (.ref s1.heap.objs.size) [u1, u2, u3].length none; assignInOrder [fun v => bindName X.env z v, fun v => bindName X.env y v, fun v => bindName X.env x v] items.reverse; pure Flow.next) _ _ _
  refine wpAny_bind (wpAny_rule (wpAny_bind (par_items (ds := [d1, d2, d3]) hc I1 (by show 3 ≤ sizeLine; rw [sizeLine_eq]; decide) fun h' I3 => ?_)))
  show wpAny _ _ (assignInOrder [fun v => bindName X.env z v, fun v => bindName X.env y v, fun v => bindName X.env x v] [u3, u2, u1] >>= fun _ => pure Flow.next) _ _ _
  refine wpAny_bind (assignInOrder_cons (wpAny_bindName (set_run I3 hN hl (.inl hz) r3' (plain_notNew hp3) (plain_ho hp3) (fun s2 I4 hn4 => ?_) (.inr hz))))
  refine assignInOrder_cons (wpAny_bindName (set_run I4 hN hj (.inl hy) (r2'.mono (Ext.refl G1) hn4) (plain_notNew hp2) (plain_ho hp2) (fun s3 I5 hn5 => ?_) (.inr hy)))
  refine assignInOrder_cons (wpAny_bindName (set_run I5 hN hi (.inl hx) (r1'.mono (Ext.refl G1) (Nat.le_trans hn4 hn5)) (plain_notNew hp1) (plain_ho hp1) (fun s4 I6 _ => assignInOrder_nil (wpAny_pure ?_)) (.inr hx)))
  rw [List.set_comm _ _ (Ne.symm hjl), List.set_comm _ _ (Ne.symm hil), List.set_comm _ _ (Ne.symm hij)] at I6
  exact ⟨.nx, _, st1, G1, rfl, x1.sx, I6, rfl⟩
end
end DL
namespace DL
open PySem PySem.Spec PyProof.Rows L2
section
variable {X : Cx} {T : Fx} {pins : List (Addr × Obj)} {G G1 : Gh} {ρ ρ1 : Env_} {st st1 : Store} {s s1 : Shared} {e a b c o : Expr} {es : List Expr} {m ma mb mc mo : EM} {ml : EL} {pos p2 p apos pos' : Pos} {x y z : Str} {sm : Stmt} {sms : List Stmt} {k k1 k2 : SM} {tc : EB}
/-- an exception in the air passes this frame's own loops -/
theorem air_owns (hs : X.stack = X.env :: X.outer) (hf : X.env.frame = some X.env.locals) (r : RS) : PassesOwn (model X.prog X.w) X.A X.env (SxP X T pins G r) := fun x s' ⟨ex, ρ', st', G', e1, x1, a, B, sI, cls, dd, ea, I, nb, up, sky, na, os, ag, tk, xo⟩ => by
  subst ea
  have hfr : X.A.frames = some (X.env :: X.outer) := by rw [← hs]; exact I.inv.ok.frames
  rw [hs] at sky
  have fin : ∀ h1, HandSPX.HeldZ B (X.env :: X.outer) a (Zc cls dd) X.env.locals h1 → s'.heap.UpToSlots h1 → cameBackBy (model X.prog X.w) X.A X.env (SxP X T pins G r) (.ref a) { s' with heap := h1 } := fun h1 hh u1 => by
    unfold cameBackBy
    obtain ⟨oe, vs, Tb, oT, ts, he, hz, hd, hv1, hnT, hTe, hT, hdT, h3⟩ := id hh.2.2.2
    refine wpAny_bind (wpAny_field (s := { s' with heap := h1 }) he hd hv1 ?_)
    rw [if_neg (by simp)]
    rw [hf]
    refine HandSPX.setFlight_onZ (s := { s' with heap := h1 }) hh fun h2 hh2 u2 => ?_
    exact ⟨ex, ρ', st', G', e1, x1, a, B, sI, cls, dd, rfl, I, nb, (up.trans u1).trans u2, by rw [hs]; exact .inr (.inr hh2), na, os, ag, tk, xo⟩
  show wpAny _ _ (noteFrame (.ref a) X.env) _ _ s'
  rcases sky with ⟨hB, hn, hl, oe, vs, he, hz, hd, h1⟩ | fl | hh
  · exact HandSPX.look_newZ Zc.steady hfr hl hf he hB hn hd h1 hz fin
  · exact HandSPX.looks_onZ Zc.steady hfr hf fl fin
  · exact HandSPX.againZ hf hh.2.2.2 (fin s'.heap hh (Heap.UpToSlots.refl _))
end
end DL
namespace DL
open PySem PySem.Spec PyProof.Rows L2

/-! ### iterators -/
inductive ItOk (T : Tx) (G : Gh) (n : Nat) (it : Addr) (h : Heap) : List D → Nat → Prop where
  | lst {xs : List D} {i : Nat} {a : Addr} {o : Obj} {us : List Value} (ha : G.H a = some (fz o)) (hl : LstO o us) (r : Reps T G n xs us) (hi : h.IsListIter it a i) : ItOk T G n it h xs i
  | tup {xs : List D} {i : Nat} {a : Addr} {o : Obj} {us : List Value} (ha : G.H a = some (fz o)) (hl : TupO o us) (r : Reps T G n xs us) (hi : h.IsTupleIter it a i) : ItOk T G n it h xs i
  | rng {i : Nat} (lo : Int) (k : Nat) (hi : IsRangeIter h it (lo + (i : Nat) * 1) ((k : Int) - (i : Nat)) 1) : ItOk T G n it h ((List.range k).map fun (j : Nat) => .int (lo + (j : Int))) i
  | str {i : Nat} (l : List Nat) (t : Tok) (ty : String) (hty : ty = "str_ascii_iterator" ∨ ty = "str_iterator") (hi : h.IsStrIter it ty (S l) t i) : ItOk T G n it h (l.map fun c => .str [c]) i
theorem ItOk.keep {T : Tx} {G G' : Gh} {n n' : Nat} {it : Addr} {h h' : Heap} {xs : List D} {i : Nat} (k : ItOk T G n it h xs i) (e : SExt G G') (hn : n ≤ n') (hk : ∀ o, h.get? it = some o → h'.get? it = some o) : ItOk T G' n' it h' xs i := by
  cases k with
  | lst ha hl r hi => exact .lst (e.fr _ _ ha) hl (Reps.smono e hn r) (hi.at fun o q => hk o q)
  | tup ha hl r hi => exact .tup (e.fr _ _ ha) hl (Reps.smono e hn r) (hi.at fun o q => hk o q)
  | rng lo k hi => exact .rng lo k (hk _ hi)
  | str l t ty hty hi => exact .str l t ty hty (let ⟨o, ho, r⟩ := hi; ⟨o, hk o ho, r⟩)
theorem ItOk.obj {T : Tx} {G : Gh} {n : Nat} {it : Addr} {h : Heap} {xs : List D} {i : Nat} (k : ItOk T G n it h xs i) : ∃ o, h.get? it = some o ∧ ∀ v, o.data ≠ .cell v := by
  cases k with
  | lst ha hl r hi => obtain ⟨o, e, c, d⟩ := hi; exact ⟨o, e, fun v z => by rw [d] at z; cases z⟩
  | tup ha hl r hi => obtain ⟨o, e, c, d⟩ := hi; exact ⟨o, e, fun v z => by rw [d] at z; cases z⟩
  | rng lo k hi => exact ⟨_, hi, fun v z => by
      have z' : Data.fields _ = Data.cell v := z
      cases z'⟩
  | str l t ty hty hi => obtain ⟨o, e, c, d⟩ := hi; exact ⟨o, e, fun v z => by rw [d] at z; cases z⟩
section
variable {X : Cx} {T : Fx} {pins : List (Addr × Obj)} {G G1 : Gh} {ρ ρ1 : Env_} {st st1 : Store} {s s1 : Shared} {e a b c o tg iter : Expr} {es : List Expr} {m ma mb mc mo : EM} {ml : EL} {pos p2 p apos pos' : Pos} {x y z : Str} {sm : Stmt} {sms : List Stmt} {k k1 k2 : SM} {tc : EB} {it : Addr} {xs : List D} {i : Nat}
theorem InvD.turned {h' : Heap} {t' : Nat} (I : InvD X T pins G ρ st s) (f : FpOk X pins G.H it) (k : ∀ b o, b ≠ it → s.heap.get? b = some o → h'.get? b = some o) (hn : s.toks ≤ t') : InvD X T pins G ρ st { s with heap := h', toks := t' } := by
  obtain ⟨f0, f1, f2, f3, f4, f5⟩ := f
  refine I.move (s' := { s with heap := h', toks := t' }) (I.inv.turned (t' := t') k f0 f1 f3 f4 f5) (Ext.refl G) hn (fun m hm => ?_) (fun y c v e z => ?_) (I.sto.mono (Ext.refl G) hn rfl fun _ _ _ h => h)
  · obtain ⟨ob, es, ep, ho, r⟩ := hm
    exact ⟨ob, es, ep, k _ ob (Ne.symm f1) ho, r⟩
  · obtain ⟨ob, h1, h2⟩ := z
    exact ⟨ob, k c ob (f4 y c e) h1, h2⟩
theorem InvD.pinned (I : InvD X T pins G ρ st s) (hf : FpOk X pins G.H it) (ho : ∃ o, s.heap.get? it = some o ∧ ∀ v, o.data ≠ .cell v) : InvD X T (pins ++ pinsAt [it] s.heap) G ρ st s :=
  { I with inv := I.inv.pinned (fp := [it]) (fun b hb => by rw [show b = it by simpa using hb]; exact hf) (fun b hb => by rw [show b = it by simpa using hb]; exact ho) }
theorem InvD.unpinned {pl : List (Addr × Obj)} (I : InvD X T (pins ++ pl) G ρ st s) : InvD X T pins G ρ st s := { I with inv := I.inv.unpinned }
theorem pin_at (I : InvD X T (pins ++ pinsAt [it] s.heap) G ρ st s1) {ob : Obj} (e : s.heap.get? it = some ob) : s1.heap.get? it = some ob ∧ G.H it = none :=
  have q := I.inv.pin (it, ob) (List.mem_append_right _ (List.mem_append_right _ (mem_pinsAt (by simp) e)))
  ⟨q.1, q.2.1⟩
/-- the next item -/
theorem it_next {d : D} {E : Value → Shared → Prop} (hc : X.calm = true) (I : InvD X T pins G ρ st s) (k : ItOk T.T G s.toks it s.heap xs i) (f : FpOk X pins G.H it) (hx : xs[i]? = some d) :
    wpAny (model X.prog X.w) X.A (pyNext (.ref it)) (fun r s1 => ∃ u, r = some u ∧ wpAny (model X.prog X.w) X.A (letOwnedTupleGo tg (.ref it) u) (fun _ s2 => s2 = s1) E s1 ∧ InvD X T pins G ρ st s1 ∧ s.toks ≤ s1.toks ∧ Rep T.T G s1.toks d u ∧ plain d = true ∧ ItOk T.T G s1.toks it s1.heap xs (i + 1)) E s := by
  cases k with
  | lst ha hl r hi =>
    obtain ⟨w, q1, q2, q3⟩ := r.get hx
    obtain ⟨n, ho⟩ := hl.d
    have ha' := I.atF ha
    rw [ho] at ha'
    refine wpAny_pyNext_list_item hi (isList_of ha') (x := w) (by simpa using q1) fun h' st' sb => ?_
    have I1 := I.turned (h' := h') (t' := s.toks) f (fun b o hb e => (sb.2 b hb).trans e) (Nat.le_refl _)
    obtain ⟨ob, e, c, dd⟩ := id st'
    exact ⟨w, rfl, go_of (s := { s with heap := h' }) e c dd (by decide) rfl, I1, Nat.le_refl _, q2, q3, .lst ha hl r st'⟩
  | tup ha hl r hi =>
    obtain ⟨w, q1, q2, q3⟩ := r.get hx
    obtain ⟨n, ho⟩ := hl.d
    refine wpAny_pyNext_tuple_item hi (isTuple_of (I.atF ha) hl.c ho) (x := w) (by simpa using q1) fun h' st' sb => ?_
    have I1 := I.turned (h' := h') (t' := s.toks) f (fun b o hb e => (sb.2 b hb).trans e) (Nat.le_refl _)
    obtain ⟨ob, e, c, dd⟩ := id st'
    exact ⟨w, rfl, go_of (s := { s with heap := h' }) e c dd (by decide) rfl, I1, Nat.le_refl _, q2, q3, .tup ha hl r st'⟩
  | rng lo k hi =>
    have hlt : i < k := by
      have := (List.getElem?_eq_some_iff.mp hx).1
      simpa using this
    have ed : d = .int (lo + i) := by
      rw [List.getElem?_map, List.getElem?_range hlt] at hx
      exact (Option.some.inj hx).symm
    subst ed
    have W := Walks.range (prog := X.prog) (w := X.w) (I.inv.ok.hd hc) it lo 1 k
    refine wpAny_mono (PySem.wpAny_toks (W.item i s (fun r s1 => ∃ v h' tk, r = some v ∧ s1 = { s with heap := h', toks := tk } ∧ (∃ t, v = .int (lo + i * 1) t) ∧ IsRangeIter h' it (lo + ((i + 1 : Nat) : Int) * 1) ((k : Int) - ((i + 1 : Nat) : Int)) 1 ∧ ∀ b o, b ≠ it → s.heap.get? b = some o → h'.get? b = some o) E hlt hi fun v h' tk hv st' kk => ⟨v, h', tk, rfl, rfl, hv, st', fun b o hb e => kk b o (by simpa using hb) e⟩))
      (fun r s1 ⟨hn, v, h', tk, h1, h2, ⟨t, h3⟩, h4, h5⟩ => ?_) fun _ _ z => z.2
    subst h2
    refine ⟨v, h1, go_of (s := { s with heap := h', toks := tk }) (n := "range_iterator") h4 rfl rfl (by decide) rfl, I.turned f h5 hn, hn, ⟨t, ?_⟩, rfl, .rng lo k h4⟩
    rw [h3, Int.mul_one]
  | str l t ty hty hi =>
    rw [List.getElem?_map] at hx
    obtain ⟨c, hcx, rfl⟩ := Option.map_eq_some_iff.mp hx
    have hcx' : (S l).cps[i]? = some c := by simpa using hcx
    have hno : ["enumerate", "zip", "dict_itemiterator", "dict_reverseitemiterator", "odict_iterator", "itertools.zip_longest", "itertools.pairwise"].contains ty = false := by
      rcases hty with e | e <;> subst e <;> decide
    have fin : ∀ h', h'.IsStrIter it ty (S l) t (i + 1) → Heap.SameBut it s.heap h' → ∃ u, some (Value.str ⟨#[c]⟩ s.toks) = some u ∧ wpAny (model X.prog X.w) X.A (letOwnedTupleGo tg (.ref it) u) (fun _ s2 => s2 = { s with heap := h', toks := s.toks + 1 }) E { s with heap := h', toks := s.toks + 1 } ∧ InvD X T pins G ρ st { s with heap := h', toks := s.toks + 1 } ∧ s.toks ≤ s.toks + 1 ∧ Rep T.T G (s.toks + 1) (.str [c]) u ∧ plain (.str [c]) = true ∧ ItOk T.T G (s.toks + 1) it h' (l.map fun c => .str [c]) (i + 1) := fun h' st' sb => by
      have I1 := I.turned (h' := h') (t' := s.toks + 1) f (fun b o hb e => (sb.2 b hb).trans e) (Nat.le_succ _)
      obtain ⟨ob, e, cc, dd⟩ := id st'
      exact ⟨_, rfl, go_of (s := { s with heap := h', toks := s.toks + 1 }) e cc dd hno rfl, I1, Nat.le_succ _, ⟨s.toks, rfl, I.tok, Nat.lt_succ_self _, by rw [sizeLine_eq]; simp⟩, rfl, .str l t ty hty st'⟩
    rcases hty with e | e
    · subst e; exact wpAny_pyNext_ascii_item hi hcx' fin
    · subst e; exact wpAny_pyNext_wide_item hi hcx' fin
theorem it_end {E : Value → Shared → Prop} (hc : X.calm = true) (I : InvD X T pins G ρ st s) (k : ItOk T.T G s.toks it s.heap xs i) (f : FpOk X pins G.H it) (hx : xs.length ≤ i) :
    wpAny (model X.prog X.w) X.A (pyNext (.ref it)) (fun r s1 => r = none ∧ InvD X T pins G ρ st s1 ∧ s.toks ≤ s1.toks) E s := by
  have hh := I.inv.ok.hd hc
  have fin : ∀ h', Heap.ExtBut it s.heap h' → (none : Option Value) = none ∧ InvD X T pins G ρ st { s with heap := h' } ∧ s.toks ≤ s.toks := fun h' eb => ⟨rfl, I.turned (h' := h') (t' := s.toks) f (fun b o hb e => eb b o hb e) (Nat.le_refl _), Nat.le_refl _⟩
  cases k with
  | lst ha hl r hi =>
    obtain ⟨n, ho⟩ := hl.d
    have ha' := I.atF ha
    rw [ho] at ha'
    have hlen := r.length
    exact wpAny_pyNext_list_end hh hi (isList_of ha') (by simp; omega) fin
  | tup ha hl r hi =>
    obtain ⟨n, ho⟩ := hl.d
    have hlen := r.length
    exact wpAny_pyNext_tuple_end hh hi (isTuple_of (I.atF ha) hl.c ho) (by simp; omega) fin
  | rng lo k hi =>
    have : k ≤ i := by simpa using hx
    exact wpAny_pyNext_range_end hh hi (by omega) fin
  | str l t ty hty hi =>
    have hx' : (S l).cps[i]? = none := by
      have : l.length ≤ i := by simpa using hx
      simp [this]
    rcases hty with e | e
    · subst e; exact wpAny_pyNext_ascii_end hh hi hx' fin
    · subst e; exact wpAny_pyNext_wide_end hh hi hx' fin

/-! ### what is walked -/
def ItP (X : Cx) (T : Fx) (pins : List (Addr × Obj)) (G : Gh) (ρ : Env_) (r : R (List D)) (itv : Value) (s' : Shared) : Prop :=
  ∃ it xs st' G', r = .ok xs st' ∧ Ext G G' ∧ InvD X T pins G' ρ st' s' ∧ itv = .ref it ∧ ItOk T.T G' s'.toks it s'.heap xs 0 ∧ FpOk X pins G'.H it
structure DI (X : Cx) (T : Fx) (iter : Expr) (mi : EL) : Prop where
  ap : ∀ (pins : List (Addr × Obj)) (s : Shared) (G : Gh) (ρ : Env_) (st : Store), InvD X T pins G ρ st s → mi ρ st ≠ .bad →
  wpAny (model X.prog X.w) X.A (eval iter X.env) (fun v s1 => wpAny (model X.prog X.w) X.A (pyIter v) (ItP X T pins G ρ (mi ρ st)) (ExP X T pins G ρ (mi ρ st)) s1) (ExP X T pins G ρ (mi ρ st)) s
instance {X : Cx} {T : Fx} {iter : Expr} {mi : EL} : CoeFun (DI X T iter mi) fun _ => ∀ (pins : List (Addr × Obj)) (s : Shared) (G : Gh) (ρ : Env_) (st : Store), InvD X T pins G ρ st s → mi ρ st ≠ .bad →
  wpAny (model X.prog X.w) X.A (eval iter X.env) (fun v s1 => wpAny (model X.prog X.w) X.A (pyIter v) (ItP X T pins G ρ (mi ρ st)) (ExP X T pins G ρ (mi ρ st)) s1) (ExP X T pins G ρ (mi ρ st)) s := ⟨DI.ap⟩
/-- the items of a value -/
def itemsV (x : D) : Option (List D) := match frz x with
  | .lst l => some l
  | .tup l => some l
  | .str l => some (l.map fun c => .str [c])
  | .cst l => some (l.map fun c => .str [c])
  | .ust l => some (l.map fun c => .str [c])
  | .scr ns => some (ns.map .int)
  | _ => none
def iVal (m : EM) : EL := fun ρ st => (m ρ st).bind fun d st1 => R.of (itemsV d) st1
theorem push_fp (I : InvD X T pins G ρ st s) : FpOk X pins G.H s.heap.objs.size := I.inv.fpOk (Nat.le_refl _) (push_none I)
theorem di_val (he : DE X T iter m) : DI X T iter (iVal m) := .mk fun pins s G ρ st I h => by
  refine he.run I (bad_l h) (fun u s1 d st1 G1 e1 x1 I1 r1 n1 _ => ?_) fun x s1 z => z.up (Ext.refl G) fun ex st' e1 => by unfold iVal; rw [e1]; rfl
  have eq1 : iVal m ρ st = R.of (itemsV d) st1 := by unfold iVal; rw [e1]; rfl
  rw [eq1] at h ⊢
  obtain ⟨xs, hxs⟩ := of_bad h
  rw [hxs]
  obtain ⟨G2, x2, I2, r2⟩ := frz_ok I x1 I1 r1 n1
  have fin : ∀ (o : Obj), ItOk T.T G2 s1.toks s1.heap.objs.size (s1.heap.push o) xs 0 → ItP X T pins G ρ (.ok xs st1) (.ref s1.heap.objs.size) { s1 with heap := s1.heap.push o } := fun o k =>
    ⟨_, xs, st1, G2, rfl, x2, I2.kept (t' := s1.toks) (fun b u e => Heap.get?_push_of_some _ e) (Nat.le_refl _), rfl, k, push_fp I2⟩
  have viaS : ∀ l, (∃ t, u = .str (S l) t) → xs = (l.map fun c => .str [c]) → wpAny (model X.prog X.w) X.A (pyIter u) (ItP X T pins G ρ (.ok xs st1)) (ExP X T pins G ρ (.ok xs st1)) s1 := fun l ⟨t, hu⟩ e => by
    subst hu e
    cases ha : (S l).cps.all (· < 128)
    · exact wpAny_pyIter_wide ha (fin _ (.str l t "str_iterator" (.inr rfl) ⟨_, Heap.get?_push_size _ rfl, rfl, rfl⟩))
    · exact wpAny_pyIter_ascii ha (fin _ (.str l t "str_ascii_iterator" (.inl rfl) ⟨_, Heap.get?_push_size _ rfl, rfl, rfl⟩))
  unfold itemsV at hxs
  generalize frz d = d2 at hxs r2
  cases d2 with
  | lst l =>
    cases hxs
    obtain ⟨a, ob, us, rfl, h1, h2, h3⟩ := r2
    obtain ⟨n, ho⟩ := h2.d
    have ha := I2.atF h1
    rw [ho] at ha
    exact wpAny_pyIter_list (isList_of ha) (fin _ (.lst h1 h2 h3 ⟨_, Heap.get?_push_size _ rfl, rfl, rfl⟩))
  | tup l =>
    cases hxs
    obtain ⟨a, ob, us, rfl, h1, h2, h3⟩ := r2
    obtain ⟨n, ho⟩ := h2.d
    exact wpAny_pyIter_tuple (isTuple_of (I2.atF h1) h2.c ho) (fin _ (.tup h1 h2 h3 ⟨_, Heap.get?_push_size _ rfl, rfl, rfl⟩))
  | scr ns =>
    cases hxs
    obtain ⟨a, ob, us, rfl, h1, h2, h3⟩ := r2
    obtain ⟨n, ho⟩ := h2.d
    have ha := I2.atF h1
    rw [ho] at ha
    exact wpAny_pyIter_list (isList_of ha) (fin _ (.lst h1 h2 (reps_ints h3) ⟨_, Heap.get?_push_size _ rfl, rfl, rfl⟩))
  | str l => cases hxs; obtain ⟨t, hu, _⟩ := r2; exact viaS l ⟨t, hu⟩ rfl
  | cst l => cases hxs; obtain ⟨t, hu, _⟩ := r2; exact viaS l ⟨t, hu⟩ rfl
  | ust l => cases hxs; obtain ⟨t, hu, _⟩ := r2; exact viaS l ⟨t, hu⟩ rfl
  | _ => cases hxs
/-- range(..) -/
def rngL (lo hi : Int) : Option (List D) := if -1000000000 ≤ lo ∧ lo ≤ 1000000000 ∧ -1000000000 ≤ hi ∧ hi ≤ 1000000000 then some ((List.range (hi - lo).toNat).map fun (j : Nat) => .int (lo + (j : Int))) else none
def rng1 : List D → Option (List D)
  | [.int j] => rngL 0 j
  | _ => none
def rng2 : List D → Option (List D)
  | [.int i, .int j] => rngL i j
  | _ => none
def iRng1D (ml : EL) : EL := fun ρ st => (ml ρ st).bind fun ds st1 => R.of (rng1 ds) st1
def iRng2D (ml : EL) : EL := fun ρ st => (ml ρ st).bind fun ds st1 => R.of (rng2 ds) st1
theorem range_go {lo hi : Int} {t u v : Tok} {tk : Nat} {xs : List D} {E : Value → Shared → Prop} (I : InvD X T pins G1 ρ st1 s) (x1 : Ext G G1) (hn : s.toks ≤ tk) (h : rngL lo hi = some xs) :
    wpAny (model X.prog X.w) X.A (pyIter (.ref s.heap.objs.size)) (ItP X T pins G ρ (.ok xs st1)) E { s with heap := s.heap.push { cls := .type "range", data := .fields #[.int lo t, .int hi u, .int 1 v] }, toks := tk } := by
  unfold rngL at h
  split at h
  · next hb =>
    obtain ⟨h1, h2, h3, h4⟩ := hb
    cases h
    refine wpAny_pyIter_range (IsRange.new ..) (small_one (by omega) (by omega) (by omega) (by omega)) ?_
    have I1 := I.kept (h' := s.heap.push { cls := .type "range", data := .fields #[.int lo t, .int hi u, .int 1 v] }) (t' := tk) (fun b o e => Heap.get?_push_of_some _ e) hn
    refine ⟨_, _, st1, G1, rfl, x1, I1.kept (t' := tk) (fun b o e => Heap.get?_push_of_some _ e) (Nat.le_refl _), rfl, .rng lo (hi - lo).toNat ?_, push_fp I1⟩
    have e1 : lo + ((0 : Nat) : Int) * 1 = lo := by simp
    have e2 : (((hi - lo).toNat : Nat) : Int) - ((0 : Nat) : Int) = Builtin.Range.rangeSize lo hi 1 := by rw [rangeSize_one]; split <;> omega
    show IsRangeIter _ _ (lo + ((0 : Nat) : Int) * 1) ((((hi - lo).toNat : Nat) : Int) - ((0 : Nat) : Int)) 1
    rw [e1, e2]
    exact Heap.get?_push_size _ rfl
  · cases h
end
end DL
namespace DL
open PySem PySem.Spec PyProof.Rows L2
/-! ### for, while -/
abbrev AG := D → Env_ → Option Env_
def gName (i : Nat) : AG := fun d ρ => if plain d = true then some (ρ.set i (some d)) else none
def gTup (is : List Nat) : AG := fun d ρ => match d with
  | .tup ds => setAll is ds ρ
  | _ => none
def aft (r : RS) (k : SM) : RS := match r with
  | .go .nx ρ st => k ρ st
  | .go .ct ρ st => k ρ st
  | .go .bk ρ st => .go .nx ρ st
  | r => r
def loopS (g : AG) (body : SM) : List D → SM
  | [], ρ, st => .go .nx ρ st
  | x :: xs, ρ, st => match g x ρ with
    | some ρ1 => aft (body ρ1 st) (loopS g body xs)
    | none => .bad
def sFor (mi : EL) (g : AG) (body : SM) : SM := fun ρ st => RS.ofE ρ (mi ρ st) fun xs st1 => loopS g body xs ρ st1
def whileS (c : EB) (body : SM) : Nat → SM
  | 0, _, _ => .bad
  | n + 1, ρ, st => RS.ofE ρ (c ρ st) fun b st1 => if b = true then aft (body ρ st1) (whileS c body n) else .go .nx ρ st1
def sWhile (fuel : Env_ → Store → Nat) (c : EB) (body : SM) : SM := fun ρ st => whileS c body (fuel ρ st) ρ st
section
variable {X : Cx} {T : Fx} {pins : List (Addr × Obj)} {G G1 : Gh} {ρ ρ1 : Env_} {st st1 : Store} {s s1 : Shared} {e a b c o tg iter : Expr} {es : List Expr} {m ma mb mc mo : EM} {ml mi : EL} {pos p2 p apos pos' : Pos} {x y z : Str} {sm : Stmt} {sms body : List Stmt} {k k1 k2 : SM} {tc : EB} {it : Addr} {xs : List D} {i : Nat} {g : AG}
theorem di_rng1 (hg : Gl X "range") (hm : X.mg "range" = none) (ha : DA X T [a] ml) (hs : starEach [a] X.env = [(false, eval a X.env)] := by rfl) : DI X T (.Call (.Name "range" p) [a] [] pos) (iRng1D ml) := .mk fun pins s G ρ st I h => by
  refine Call_ (ld_blt I.inv hg hm boot_range (PyProof.Rows.callWith_type1 (ha.run (pos := pos) I (bad_l h) (fun us s1 ds st1 G1 e1 x1 I1 r1 _ => ?_) fun x s1 z => z.up (Ext.refl G) fun ex st' e1 => by unfold iRng1D; rw [e1]; rfl) hs rfl))
  have eq1 : iRng1D ml ρ st = R.of (rng1 ds) st1 := by unfold iRng1D; rw [e1]; rfl
  rw [eq1] at h ⊢
  obtain ⟨xs, hx⟩ := of_bad h
  rw [hx]
  unfold rng1 at hx
  split at hx
  · next j =>
    obtain ⟨u, rfl, t, rfl⟩ := r1.one
    exact wpAny_mono (PySem.wpAny_toks (call_range_1 (Q := fun v s2 => ∃ t0 u0 v0 tk, v = .ref s1.heap.objs.size ∧ s2 = { s1 with heap := s1.heap.push { cls := .type "range", data := .fields #[.int 0 t0, .int j u0, .int 1 v0] }, toks := tk }) ⟨_, _, _, _, rfl, rfl⟩)) (fun v s2 ⟨hn, t0, u0, v0, tk, h1, h2⟩ => by
      subst h1 h2
      exact range_go I1 x1 hn hx) fun _ _ z => z.2
  · cases hx
theorem di_rng2 (hg : Gl X "range") (hm : X.mg "range" = none) (ha : DA X T [a, b] ml) (hs : starEach [a, b] X.env = [(false, eval a X.env), (false, eval b X.env)] := by rfl) (hs2 : starEach [b] X.env = [(false, eval b X.env)] := by rfl) : DI X T (.Call (.Name "range" p) [a, b] [] pos) (iRng2D ml) := .mk fun pins s G ρ st I h => by
  refine Call_ (ld_blt I.inv hg hm boot_range (PyProof.Rows.callWith_type1 (ha.run (pos := pos) I (bad_l h) (fun us s1 ds st1 G1 e1 x1 I1 r1 _ => ?_) fun x s1 z => z.up (Ext.refl G) fun ex st' e1 => by unfold iRng2D; rw [e1]; rfl) (by rw [hs, hs2]) (by rw [hs2]; rfl)))
  have eq1 : iRng2D ml ρ st = R.of (rng2 ds) st1 := by unfold iRng2D; rw [e1]; rfl
  rw [eq1] at h ⊢
  obtain ⟨xs, hx⟩ := of_bad h
  rw [hx]
  unfold rng2 at hx
  split at hx
  · next i j =>
    obtain ⟨u, v, rfl, ⟨t, rfl⟩, ⟨t', rfl⟩⟩ := r1.two
    exact wpAny_mono (PySem.wpAny_toks (call_range_2 (Q := fun v s2 => ∃ t0 u0 v0 tk, v = .ref s1.heap.objs.size ∧ s2 = { s1 with heap := s1.heap.push { cls := .type "range", data := .fields #[.int i t0, .int j u0, .int 1 v0] }, toks := tk }) ⟨_, _, _, _, rfl, rfl⟩)) (fun v s2 ⟨hn, t0, u0, v0, tk, h1, h2⟩ => by
      subst h1 h2
      exact range_go I1 x1 hn hx) fun _ _ z => z.2
  · cases hx
/-- a loop's target -/
structure DG (X : Cx) (T : Fx) (tg : Expr) (g : AG) : Prop where
  ap : ∀ (pins : List (Addr × Obj)) (s : Shared) (G : Gh) (ρ ρ' : Env_) (st : Store) (u : Value) (d : D) (E : Value → Shared → Prop), InvD X T pins G ρ st s → Rep T.T G s.toks d u → g d ρ = some ρ' →
  wpAny (model X.prog X.w) X.A (assign tg X.env u) (fun _ s' => InvD X T pins G ρ' st s') E s
instance {X : Cx} {T : Fx} {tg : Expr} {g : AG} : CoeFun (DG X T tg g) fun _ => ∀ (pins : List (Addr × Obj)) (s : Shared) (G : Gh) (ρ ρ' : Env_) (st : Store) (u : Value) (d : D) (E : Value → Shared → Prop), InvD X T pins G ρ st s → Rep T.T G s.toks d u → g d ρ = some ρ' →
  wpAny (model X.prog X.w) X.A (assign tg X.env u) (fun _ s' => InvD X T pins G ρ' st s') E s := ⟨DG.ap⟩
theorem dg_name {q : Pos} (hN : X.N.Nodup) (hi : X.N[i]? = some x) (hx : Loc X.env.scope x) (hf : X.fn x = true ∨ X.env.scope.names.lookup x = some .local := by first | exact .inl rfl | exact .inr rfl | assumption) : DG X T (.Name x q) (gName i) := .mk fun pins s G ρ ρ' st u d E I r h => by
  unfold gName at h
  split at h
  · next hp =>
    cases h
    exact wpAny_assign_Name (set_run I hN hi hx r (plain_notNew hp) (plain_ho hp) (fun s' J _ => J) hf)
  · cases h
theorem dg_tup {is : List Nat} {kt : Nat} {q1 : Pos} (hc : X.calm = true) (ht : DGs X T es is) (hst : (assignEach es X.env).findIdx? (·.1) = none := by rfl) (hlen : (assignEach es X.env).length = is.length := by rfl) : DG X T (.Tuple es kt q1) (gTup is) := .mk fun pins s G ρ ρ' st u d E I r h => by
  have len : ∀ (is : List Nat) (ds : List D) (ρ ρ' : Env_), setAll is ds ρ = some ρ' → is.length = ds.length := by
    intro is
    induction is with
    | nil => intro ds ρ ρ' h; cases ds with
      | nil => rfl
      | cons _ _ => cases h
    | cons i is ih => intro ds ρ ρ' h; cases ds with
      | nil => cases h
      | cons d ds =>
        have h' : (if plain d = true then setAll is ds (ρ.set i (some d)) else none) = some ρ' := h
        split at h'
        · exact congrArg Nat.succ (ih _ _ _ h')
        · cases h'
  cases d with
  | tup ds =>
    have h' : setAll is ds ρ = some ρ' := h
    obtain ⟨a, ob, us, rfl, q1', ⟨hcl, ⟨n, hd⟩, hz⟩, q2⟩ := r
    have hl := q2.length
    have hla := len _ _ _ _ h'
    refine assign_Tuple_tuple (items := us.toArray) (I.inv.ok.hd hc) ⟨_, I.atF q1', hcl, n, hd⟩ (by rw [hlen, List.size_toArray]; omega) hst fun h1 hx => ?_
    have I2 := I.kept (h' := h1) (t' := s.toks) (fun b o e => hx b o (Nat.ne_of_lt (Heap.lt_size e)) e) (Nat.le_refl _)
    exact ht pins _ G ρ ρ' st us ds E I2 q2 h'
  | _ => cases h
theorem ds_for (hs : X.stack = X.env :: X.outer) (hf : X.env.frame = some X.env.locals) (hc : X.calm = true) (hi : DI X T iter mi) (hg : DG X T tg g) (hb : DSs X T body k) (hfs : ∀ x, foldedSetIterable iter X.env x = pure x := by intro _; rfl) : DS X T (.For tg iter body [] pos) (sFor mi g k) := .mk fun pins s G ρ st I h => by
  have hp := fun (r : RS) => air_owns (T := T) (pins := pins) (G := G) hs hf r
  refine wpAny_For (wpAny_mono (hi pins s G ρ st I (ofE_l h)) (fun v s1 h1 => wpAny_mono h1 (fun itv s2 h2 => ?_) fun x s2 z => z.sx fun ex st' e1 => by unfold sFor; rw [e1]; rfl) fun x s2 z => z.sx fun ex st' e1 => by unfold sFor; rw [e1]; rfl) hfs
  obtain ⟨it, xs, st2, G2, e2, x2, I2, rfl, k2, f2⟩ := h2
  have eq1 : sFor mi g k ρ st = loopS g k xs ρ st2 := by unfold sFor; rw [e2]; rfl
  rw [eq1] at h ⊢
  generalize hr : loopS g k xs ρ st2 = r at h ⊢
  have hpr := hp r
  refine codeAny_forLoop_any (fun n s' => ∃ i ρ' st' G', n = xs.length - i ∧ i ≤ xs.length ∧ SExt G G' ∧ InvD X T pins G' ρ' st' s' ∧ ItOk T.T G' s'.toks it s'.heap xs i ∧ G'.H it = none ∧ loopS g k (xs.drop i) ρ' st' = r) ?_ xs.length ⟨0, ρ, st2, G2, rfl, Nat.zero_le _, x2.sx, I2, k2, f2.1, hr⟩
  rintro n s3 ⟨i, ρ3, st3, G3, hn, hi3, x3, I3, k3, n3, r3⟩
  have f3 : FpOk X pins G3.H it := ⟨n3, f2.2⟩
  by_cases hlt : i < xs.length
  · have hx : xs[i]? = some xs[i] := List.getElem?_eq_getElem hlt
    refine wpAny_passesOwn hpr (wpAny_mono (it_next (tg := tg) hc I3 k3 f3 hx) (fun r s4 ⟨u, hr4, h4, I4, hn4, r4, hp4, k4⟩ => ?_) fun _ _ z => z)
    subst hr4
    refine wpAny_passesOwn hpr (wpAny_mono h4 (fun _ s5 e5 => ?_) fun _ _ z => z)
    subst e5
    have I5 := I4.pinned ⟨n3, f2.2⟩ k4.obj
    rw [List.drop_eq_getElem_cons hlt] at r3
    have r3' : (match g xs[i] ρ3 with | some ρ1 => aft (k ρ1 st3) (loopS g k (xs.drop (i + 1))) | none => .bad) = r := r3
    cases hg3 : g xs[i] ρ3 with
    | none => rw [hg3] at r3'; exact absurd r3'.symm h
    | some ρ5 =>
    rw [hg3] at r3'
    have r3'' : aft (k ρ5 st3) (loopS g k (xs.drop (i + 1))) = r := r3'
    obtain ⟨ob, hob, hcell⟩ := k4.obj
    refine wpAny_passesOwn hpr (wpAny_mono (PySem.wpAny_toks (hg _ s5 G3 ρ3 ρ5 st3 u _ _ I5 r4 hg3)) (fun _ s6 ⟨hn6, I6⟩ => ?_) fun _ _ z => z.2)
    have hk5 : k ρ5 st3 ≠ .bad := fun z => h (by rw [← r3'', z]; rfl)
    refine wpAny_passesOwn hpr (wpAny_mono (PySem.wpAny_toks (hb _ s6 G3 ρ5 st3 I6 hk5)) (fun f s7 ⟨hn7, fl, ρ7, st7, G7, e7, x7, I7, hf7⟩ => ?_) fun x s7 ⟨_, ex, ρ7, st7, G7, e7, x7, z⟩ => ?_)
    · have again : loopS g k (xs.drop (i + 1)) ρ7 st7 = r → ∃ m, m < n ∧ ∃ i ρ' st' G', m = xs.length - i ∧ i ≤ xs.length ∧ SExt G G' ∧ InvD X T pins G' ρ' st' s7 ∧ ItOk T.T G' s7.toks it s7.heap xs i ∧ G'.H it = none ∧ loopS g k (xs.drop i) ρ' st' = r := fun q => by
        refine ⟨xs.length - (i + 1), by omega, i + 1, ρ7, st7, G7, rfl, hlt, x3.trans x7, I7.unpinned, k4.keep x7 (Nat.le_trans hn6 hn7) fun o' ho' => (pin_at I7 ho').1, (pin_at I7 hob).2, q⟩
      rw [e7] at r3''
      cases fl with
      | nx => cases (show f = .next from hf7); exact again r3''
      | ct => cases (show f = .cont from hf7); exact again r3''
      | bk => cases (show f = .brk from hf7); exact ⟨.nx, ρ7, st7, G7, r3''.symm, x3.trans x7, I7.unpinned, rfl⟩
      | rt d =>
        obtain ⟨u7, rfl, h7⟩ := hf7
        exact ⟨.rt d, ρ7, st7, G7, r3''.symm, x3.trans x7, I7.unpinned, u7, rfl, h7⟩
    · rw [e7] at r3''
      obtain ⟨a, B, sI, cls, dd, q1, q2, q3⟩ := z
      exact ⟨ex, ρ7, st7, G7, r3''.symm, x3.trans x7, a, B, sI, cls, dd, q1, q2.unpinned, q3⟩
  · have hie : i = xs.length := by omega
    subst hie
    rw [List.drop_length] at r3
    have r3' : RS.go .nx ρ3 st3 = r := r3
    refine wpAny_passesOwn hpr (wpAny_mono (it_end hc I3 k3 f3 (Nat.le_refl _)) (fun r s4 ⟨hr4, I4, _⟩ => ?_) fun _ _ z => z)
    subst hr4
    exact wpAny_execs_nil ⟨.nx, ρ3, st3, G3, r3'.symm, x3, I4, rfl⟩
theorem ds_while {fuel : Env_ → Store → Nat} {tw : EB} (hs : X.stack = X.env :: X.outer) (hf : X.env.frame = some X.env.locals) (hc : DT X T c tw) (hb : DSs X T body k) : DS X T (.While c body [] pos) (sWhile fuel tw k) := .mk fun pins s G ρ st I h => by
  have eq1 : sWhile fuel tw k ρ st = whileS tw k (fuel ρ st) ρ st := rfl
  rw [eq1] at h ⊢
  generalize hr : whileS tw k (fuel ρ st) ρ st = r at h ⊢
  have hpr := air_owns (T := T) (pins := pins) (G := G) hs hf r
  refine wpAny_While (codeAny_whileLoop (fun n s' => ∃ ρ' st' G', SExt G G' ∧ InvD X T pins G' ρ' st' s' ∧ whileS tw k n ρ' st' = r) ?_ (fuel ρ st) ⟨ρ, st, G, SExt.refl G, I, hr⟩)
  rintro n s1 ⟨ρ1, st1, G1, x1, I1, r1⟩
  cases n with
  | zero => exact absurd r1.symm h
  | succ n =>
  have r1' : (RS.ofE ρ1 (tw ρ1 st1) fun b st1 => if b = true then aft (k ρ1 st1) (whileS tw k n) else .go .nx ρ1 st1) = r := r1
  have ht : tw ρ1 st1 ≠ .bad := fun z => h (by rw [← r1', z]; rfl)
  refine wpAny_passesOwn hpr (test_run (hc pins s1 G1 ρ1 st1 I1 ht) (fun b s2 st2 G2 e2 x2 I2 => ?_) fun x s2 z => ?_)
  · rw [e2, ofE_ok] at r1'
    cases b with
    | true =>
      rw [if_pos rfl] at r1' ⊢
      have hk : k ρ1 st2 ≠ .bad := fun z => h (by rw [← r1', z]; rfl)
      refine wpAny_passesOwn hpr (wpAny_mono (hb pins s2 G2 ρ1 st2 I2 hk) (fun f s7 ⟨fl, ρ7, st7, G7, e7, x7, I7, hf7⟩ => ?_) fun x s7 ⟨ex, ρ7, st7, G7, e7, x7, z⟩ => ?_)
      · rw [e7] at r1'
        have xx := (x1.trans x2.sx).trans x7
        cases fl with
        | nx => cases (show f = .next from hf7); exact ⟨n, Nat.lt_succ_self _, ρ7, st7, G7, xx, I7, r1'⟩
        | ct => cases (show f = .cont from hf7); exact ⟨n, Nat.lt_succ_self _, ρ7, st7, G7, xx, I7, r1'⟩
        | bk => cases (show f = .brk from hf7); exact ⟨.nx, ρ7, st7, G7, r1'.symm, xx, I7, rfl⟩
        | rt d =>
          obtain ⟨u7, rfl, h7⟩ := hf7
          exact ⟨.rt d, ρ7, st7, G7, r1'.symm, xx, I7, u7, rfl, h7⟩
      · rw [e7] at r1'
        exact ⟨ex, ρ7, st7, G7, r1'.symm, (x1.trans x2.sx).trans x7, z⟩
    | false =>
      rw [if_neg Bool.false_ne_true] at r1' ⊢
      exact wpAny_execs_nil ⟨.nx, ρ1, st2, G2, r1'.symm, x1.trans x2.sx, I2, rfl⟩
  · obtain ⟨ex, st', G', e3, x3, z3⟩ := z
    rw [e3] at r1'
    exact ⟨ex, ρ1, st', G', r1'.symm, x1.trans x3.sx, z3⟩
end
end DL
namespace DL
open PySem PySem.Spec PyProof.Rows L2
/-! ### what a def means -/
abbrev FM := List D → Store → R D
/-- a name's own list, handed out -/
def retD : D → D
  | .own _ l => .new l
  | d => d
def finR : RS → R D
  | .go (.rt d) _ st => .ok (retD d) st
  | .go .nx _ st => .ok .non st
  | .exn e _ st => .exn e st
  | _ => .bad
def startD (n : Nat) (ds : List D) : Env_ := ds.map some ++ List.replicate (n - ds.length) none
def runB (n : Nat) (body : SM) : FM := fun ds st => finR (body (startD n ds) st)
/-- the state at a call -/
structure CallSt (P : Program) (w : World) (K : PySem.W.Frag) (mg : Str → Option Value) (base : Heap) (A : Around) (outer : List Env) (T : Tx) (G : Gh) (st : Store) (s : Shared) : Prop where
  e0 : Env0 P w K mg base A outer s G.H
  sto : StoOk T G s.toks st
  tok : T ≤ s.toks
  pos : 0 < T.lo
  owd : ∀ a, a ∈ G.ow → G.H a ≠ none
  tb : ∀ (j : Nat) P, T.tb[j]? = some P → G.as[j]? = some P
/-- a call's end -/
def EndOk (P : Program) (w : World) (outer : List Env) (T : Tx) (G : Gh) (s : Shared) (r : R D) (u : Value) (s' : Shared) : Prop :=
  ∃ d st' G', r = .ok d st' ∧ s'.os = s.os ∧ AllBare s'.gens ∧ Un (frs outer) [] G.H G'.H s.heap s'.heap ∧ HOk P w G'.H s'.heap ∧ Ext G G' ∧ StoOk T G' s'.toks st' ∧ Rep T G' s'.toks d u ∧ NewOk G d u
/-- an exception behind a call -/
def EndX (P : Program) (w : World) (mg : Str → Option Value) (outer : List Env) (T : Tx) (G : Gh) (s : Shared) (r : R D) (x : Value) (s' : Shared) : Prop :=
  CX P w outer G.H s (fun cls dd H' => ∃ ex st' G' n, r = .exn ex st' ∧ G'.H = H' ∧ Ext G G' ∧ StoOk T G' n st' ∧ n ≤ s'.toks ∧ (∃ C, mg ex.cls = some (.ref C) ∧ cls = .ref C) ∧ ((dd = none ∧ ex.fld = none) ∨ ∃ dx f i, dd = some dx ∧ ex.fld = some (f, i) ∧ G'.H dx = some (.xd [(f, V.int i)]))) x s'
def EndR (P : Program) (w : World) (mg : Str → Option Value) (outer : List Env) (T : Tx) (G : Gh) (s : Shared) (r : R D) (q : Result) (s' : Shared) : Prop :=
  match q with
  | .ok (.ret u) => EndOk P w outer T G s r u s'
  | .ok _ => False
  | .error e => EndX P w mg outer T G s r e s'
structure FnD (P : Program) (w : World) (K : PySem.W.Frag) (mg : Str → Option Value) (base : Heap) (T : Tx) (k : Nat) (f : Addr) (fd : FuncData) (ps : List Str) (F : FM) : Prop where
  run : ∀ (A : Around) (outer : List Env) (s : Shared) (G : Gh) (st : Store) (args : Args) (us : List Value) (ds : List D), Room k A → CallSt P w K mg base A outer T G st s → BindsTo s fd args (ps.zip us) → Reps T G s.toks ds us → ds.length = ps.length → F ds st ≠ .bad →
    codeAny (model P w) A (.call (.ref f) args) (EndR P w mg outer T G s (F ds st)) s
theorem FnD.mono {P : Program} {w : World} {K : PySem.W.Frag} {mg : Str → Option Value} {base : Heap} {T : Tx} {j k : Nat} {f : Addr} {fd : FuncData} {ps : List Str} {F : FM} (h : FnD P w K mg base T j f fd ps F) (hk : j ≤ k) : FnD P w K mg base T k f fd ps F :=
  ⟨fun A outer s G st args us ds hr => h.run A outer s G st args us ds (hr.mono hk)⟩
section
variable {X : Cx} {T : Fx} {pins : List (Addr × Obj)} {G G1 : Gh} {ρ ρ1 : Env_} {st st1 : Store} {s s1 s' : Shared} {e a b c o tg iter : Expr} {es : List Expr} {m ma mb mc mo : EM} {ml mi : EL} {pos p2 p apos pos' : Pos} {x y z : Str} {sm : Stmt} {sms body : List Stmt} {k1 k2 : SM} {tc : EB} {it : Addr} {xs : List D} {i : Nat}
theorem InvD.callSt (I : InvD X T pins G ρ st s) : CallSt X.prog X.w X.K X.mg X.base X.A X.stack T.T G st s := ⟨I.inv.env0, I.sto, I.tok, I.pos, I.owd, I.tb⟩
/-- the frame's map and cells stay through a call -/
theorem un_ns (I : Inv X pins (blank X.N) G.H s) {H' : Hp} {h' : Heap} (un : Un (frs X.stack) [] G.H H' s.heap h') : ∀ m, s.heap.Ns X.env.locals m → h'.Ns X.env.locals m := fun m ⟨oL, es, ep, q1, q2⟩ => by
  obtain ⟨sl, q⟩ := un.any q1 I.free (by simp)
  exact ⟨_, es, ep, q, q2⟩
theorem un_cell (I : Inv X pins (blank X.N) G.H s) {H' : Hp} {h' : Heap} (un : Un (frs X.stack) [] G.H H' s.heap h') : ∀ y c v, X.env.cells.lookup y = some c → s.heap.IsCell c v → h'.IsCell c v := fun y c v e ⟨oc, q1, q2⟩ => by
  obtain ⟨sl, q⟩ := un.any q1 (I.freeC y c e) (by simp)
  exact ⟨_, q, q2⟩
theorem InvD.after {r : R D} {u : Value} (I : InvD X T pins G ρ st s) (hn : s.toks ≤ s'.toks) (h : EndOk X.prog X.w X.stack T.T G s r u s') : OkP X T pins G ρ r u s' := by
  obtain ⟨d, st', G', e1, os, bare, un, hok, xt, sto, rd, nw⟩ := h
  exact ⟨d, st', G', e1, xt, I.move (I.inv.call' (ch := []) os un hok bare fun b z => absurd z (by simp)) xt hn (un_ns I.inv un) (un_cell I.inv un) sto, rd, nw⟩
/-- a call's exception is in our air -/
theorem InvD.afterX {r : R D} {u : Value} (I : InvD X T pins G ρ st s) (hn : s.toks ≤ s'.toks) (h : EndX X.prog X.w X.mg X.stack T.T G s r u s') : ExP X T pins G ρ r u s' := by
  obtain ⟨a, B, H', cls, d, rfl, fl, hok, ub, na, os, ag, ex, st', G', n, e1, eH, xt, sto, hn2, x1, x2⟩ := h
  subst eH
  obtain ⟨g, g1, g2⟩ := restrict s'.heap fun b => (B.get? b).isSome || decide (b ∈ frs X.stack)
  have onB : ∀ b ob, B.get? b = some ob → g.get? b = some ob := fun b ob q => by
    rw [g1 b (by simp [q])]
    exact fl.1 b ob q
  have onF : ∀ b, b ∈ frs X.stack → g.get? b = s'.heap.get? b := fun b hb => g1 b (by simp [hb])
  have back : ∀ b ob, g.get? b = some ob → s'.heap.get? b = some ob ∧ ((B.get? b).isSome = true ∨ b ∈ frs X.stack) := fun b ob q => by
    cases hq : ((B.get? b).isSome || decide (b ∈ frs X.stack)) with
    | false => rw [g2 b hq] at q; cases q
    | true =>
      rw [g1 b hq] at q
      exact ⟨q, by simpa [Bool.or_eq_true] using hq⟩
  have un : Un (frs X.stack) [] G.H G'.H s.heap g := ⟨fun b ob q nn hb _ => onB b ob (ub.keep b ob q nn hb), fun b ob q nn hb _ => by
      obtain ⟨sl, z⟩ := ub.slot b ob q hb
      exact ⟨sl, by rw [onF b hb]; exact z⟩, fun b ob q nn _ => ub.free b ob q nn, fun b ob q _ => by
      by_cases hb : b ∈ frs X.stack
      · obtain ⟨sl, z⟩ := ub.slot b ob q hb
        exact ⟨_, by rw [onF b hb]; exact z⟩
      · obtain ⟨ob', z⟩ := ub.there b ob q hb
        exact ⟨ob', onB b ob' z⟩, ub.tups, ub.frzs, ub.tbls⟩
  have mx : n ≤ max n s.toks ∧ s.toks ≤ max n s.toks := ⟨Nat.le_max_left _ _, Nat.le_max_right _ _⟩
  have J := I.inv.call (ch := []) (h' := g) (g' := s'.gens) (d' := s'.drawn) (t' := max n s.toks) un (hok.kept onB) ag (fun _ z => nomatch z)
  refine ⟨ex, st', G', e1, xt, a, B, { s with heap := g, gens := s'.gens, drawn := s'.drawn, toks := max n s.toks }, cls, d, rfl, I.move J xt mx.2 (un_ns I.inv un) (un_cell I.inv un) (sto.mono (Ext.refl G') mx.1 rfl fun _ _ _ q => q), fun b ob q hb => ?_, Heap.UpToSlots.of_keeps fun b ob q => (back b ob q).1, .inr (.inl fl), na, os, ag, Nat.max_le.mpr ⟨hn2, hn⟩, x1, x2⟩
  obtain ⟨q', hor⟩ := back b ob q
  rcases hor with hor | hor
  · obtain ⟨ob', z⟩ := Option.isSome_iff_exists.mp hor
    have z' := fl.1 b ob' z
    rw [q'] at z'
    cases z'
    exact z
  · exact absurd hor hb
/-- the call of a def: the written arguments, then the defaults -/
def eCall (F : FM) (dvs : List D) (ml : EL) : EM := fun ρ st => (ml ρ st).bind fun ds st1 => if ds.all plain = true then F (ds ++ dvs) st1 else .bad
structure BindsD (K : PySem.W.Frag) (T : Tx) (fd : FuncData) (ps : List Str) (dvs : List D) : Prop where
  ex : ∃ vs : List Value, Binds K fd ps vs ∧ ∀ G n, Reps T G n dvs vs
theorem call_run {k : Nat} {f : Addr} {fd : FuncData} {ps : List Str} {F : FM} {dvs : List D} {us : List Value} {ds : List D} (Fn : FnD X.prog X.w X.K X.mg X.base T.T k f fd ps F) (hr : Room k X.A) (hb : BindsD X.K T.T fd ps dvs) (hl : ∀ ds st, F ds st ≠ .bad → ds.length = ps.length) (I : InvD X T pins G ρ st s) (r : Reps T.T G s.toks ds us) (h : F (ds ++ dvs) st ≠ .bad) :
    wpAny (model X.prog X.w) X.A (call (.ref f) us) (OkP X T pins G ρ (F (ds ++ dvs) st)) (ExP X T pins G ρ (F (ds ++ dvs) st)) s := by
  obtain ⟨vs, h1, h2⟩ := hb.ex
  have r2 : Reps T.T G s.toks (ds ++ dvs) (us ++ vs) := r.append (h2 G s.toks)
  have len := hl _ _ h
  have hlen : (us ++ vs).length = ps.length := by rw [← r2.length]; exact len
  have go : wpAny (model X.prog X.w) X.A (call (.ref f) us) (EndOk X.prog X.w X.stack T.T G s (F (ds ++ dvs) st)) (EndX X.prog X.w X.mg X.stack T.T G s (F (ds ++ dvs) st)) s := by
    refine wpAny_call (codeAny_mono (Fn.run X.A X.stack s G st ⟨us, []⟩ (us ++ vs) (ds ++ dvs) hr I.callSt (h1 s us I.inv.kIn hlen) r2 len h) fun q s' hq => ?_)
    cases q with
    | error e => exact hq
    | ok fl =>
      cases fl with
      | ret u => exact hq
      | next => exact False.elim hq
      | brk => exact False.elim hq
      | cont => exact False.elim hq
  exact wpAny_mono (PySem.wpAny_toks go) (fun u s' ⟨hn, z⟩ => I.after hn z) fun x s' ⟨hn, z⟩ => I.afterX hn z
theorem de_call {k : Nat} {f : Addr} {fd : FuncData} {ps : List Str} {F : FM} {dvs : List D} (Fn : FnD X.prog X.w X.K X.mg X.base T.T k f fd ps F) (hr : Room k X.A) (hl : ∀ ds st, F ds st ≠ .bad → ds.length = ps.length) (hg : Gl X x) (hm : X.mg x = some (.ref f)) (hk : PySem.W.keepIn X.K (.ref f) = true) (hb : BindsD X.K T.T fd ps dvs) (ha : DA X T (e :: es) ml)
    (hdb : (x == ("__debug__" : Str)) = false := by decide) (he : starEach (e :: es) X.env = (false, eval e X.env) :: starEach es X.env := by rfl) (hpl : (backTo pos (starEach es X.env)).any (·.1) = false := by rfl) : DE X T (.Call (.Name x p) (e :: es) [] pos) (eCall F dvs ml) := .mk fun pins s G ρ st I h => by
  refine wpAny_Call_Name_kw (ld_glob I.inv hg hm ?_ hdb)
  refine PySem.W.callWith_K (h₀ := X.base) I.inv.ok.mod.kin hk (ha.run I (bad_l h) (fun us s1 ds st1 G1 e1 x1 I1 r1 _ => ⟨I1.inv.kIn, ?_⟩) fun x s1 z => z.up (Ext.refl G) fun ex st' e1 => by unfold eCall; rw [e1]; rfl) he hpl
  have eq1 : eCall F dvs ml ρ st = if ds.all plain = true then F (ds ++ dvs) st1 else .bad := by unfold eCall; rw [e1]; rfl
  rw [eq1] at h ⊢
  by_cases hp : ds.all plain = true
  · rw [if_pos hp] at h ⊢
    exact wpAny_mono (call_run Fn hr hb hl I1 (r1.reps hp) h) (fun _ _ z => z.up x1 fun _ _ q => q) fun _ _ z => z.up x1 fun _ _ q => q
  · rw [if_neg hp] at h
    exact absurd rfl h
theorem de_call0 {k : Nat} {f : Addr} {fd : FuncData} {ps : List Str} {F : FM} {dvs : List D} (Fn : FnD X.prog X.w X.K X.mg X.base T.T k f fd ps F) (hr : Room k X.A) (hl : ∀ ds st, F ds st ≠ .bad → ds.length = ps.length) (hg : Gl X x) (hm : X.mg x = some (.ref f)) (hk : PySem.W.keepIn X.K (.ref f) = true) (hb : BindsD X.K T.T fd ps dvs)
    (hdb : (x == ("__debug__" : Str)) = false := by decide) : DE X T (.Call (.Name x p) [] [] pos) (eCall F dvs eNil) := .mk fun pins s G ρ st I h => by
  refine wpAny_Call_Name_kw (ld_glob I.inv hg hm ?_ hdb)
  exact PySem.W.callWith_K0 I.inv.kIn hk (call_run (us := []) (ds := []) Fn hr hb hl I rfl h)
end
end DL
namespace DL
open PySem PySem.Spec PyProof.Rows L2
/-- a def's body running -/
abbrev BX (P : Program) (w : World) (K : PySem.W.Frag) (mg : Str → Option Value) (base : Heap) (N : List Str) (qual : Str) (scope : Scope) (f : Addr) (cdv : Value) (A : Around) (outer : List Env) (s : Shared) (H : Hp) : Cx := cxOf C8.CX0 P w K mg base N qual scope f cdv A outer s H C8.E0
/-- the ghost at a def's entry -/
def entry (G : Gh) : Gh := ⟨G.H, G.as, G.ow, fun _ => none⟩
theorem entry_sx (G : Gh) : SExt G (entry G) := ⟨fun _ _ h => h, fun _ _ h => h⟩
theorem relV_of {T : Tx} {G : Gh} {n : Nat} : ∀ {d : D} {u : Value}, Rep T G n d u → ∃ v, RelV v u
  | .non, _, h => ⟨.non, h⟩
  | .bl b, _, h => ⟨.bl b, h⟩
  | .int i, _, h => ⟨.int i, h⟩
  | .str l, _, ⟨t, h, _⟩ => ⟨.str (S l), t, h⟩
  | .cst l, _, ⟨t, h, _⟩ => ⟨.str (S l), t, h⟩
  | .ust l, _, ⟨t, h, _⟩ => ⟨.str (S l), t, h⟩
  | .tup _, _, ⟨a, _, _, h, _⟩ => ⟨.ref a, h⟩
  | .lst _, _, ⟨a, _, _, h, _⟩ => ⟨.ref a, h⟩
  | .new _, _, ⟨a, _, _, h, _⟩ => ⟨.ref a, h⟩
  | .own _ _, _, ⟨a, _, _, h, _⟩ => ⟨.ref a, h⟩
  | .scr _, _, ⟨a, _, _, h, _⟩ => ⟨.ref a, h⟩
  | .ref _, _, ⟨a, h, _⟩ => ⟨.ref a, h⟩
  | .fn _, _, ⟨a, h, _⟩ => ⟨.ref a, h⟩
  | .adr a, _, h => ⟨.ref a, h⟩
  | .dic _, _, ⟨a, _, h, _⟩ => ⟨.ref a, h⟩
theorem vals_of {T : Tx} {G : Gh} {n : Nat} : ∀ {ds : List D} {us : List Value}, Reps T G n ds us → ∃ vs, Vals vs us
  | [], _, h => by
    cases (show _ = [] from h)
    exact ⟨[], .nil⟩
  | _ :: _, _, ⟨u, r, h1, _, h2, h3⟩ => by
    subst h1
    obtain ⟨v, hv⟩ := relV_of h2
    obtain ⟨vs, hvs⟩ := vals_of h3
    exact ⟨v :: vs, .cons hv hvs⟩
theorem reps_plain {T : Tx} {G : Gh} {n : Nat} : ∀ {ds : List D} {us : List Value}, Reps T G n ds us → ∀ d ∈ ds, plain d = true
  | [], _, _, d, h => by simp at h
  | _ :: _, _, ⟨u, r, h1, hp, _, h3⟩, d, h => by
    rcases List.mem_cons.mp h with e | e
    · subst e; exact hp
    · exact reps_plain h3 d e
section
variable {P : Program} {w : World} {K : PySem.W.Frag} {mg : Str → Option Value} {base : Heap} {N ps : List Str} {qual : Str} {scope : Scope} {f : Addr} {cdv : Value} {A : Around} {outer : List Env} {s s1 : Shared} {G : Gh} {T : Tx} {k : Nat} {st : Store} {us : List Value} {ds : List D}
theorem startD_get {n i : Nat} {d : D} (h : (startD n ds)[i]? = some (some d)) : ds[i]? = some d := by
  unfold startD at h
  by_cases hi : i < ds.length
  · rw [List.getElem?_append_left (by simpa using hi), List.getElem?_map] at h
    cases e : ds[i]? with
    | none => rw [e] at h; cases h
    | some a => rw [e] at h; cases h; rfl
  · rw [List.getElem?_append_right (by simpa using hi), List.getElem?_replicate] at h
    split at h <;> cases h
theorem startD_len {n : Nat} (h : ds.length ≤ n) : (startD n ds).length = n := by
  unfold startD
  rw [List.length_append, List.length_map, List.length_replicate]
  omega
theorem inv_begin (Sc : FnScope N ps scope) (hd : A.handled = none) (c : CallSt P w K mg base A outer T G st s) (hl : ds.length = ps.length) (r : Reps T G s.toks ds us) (hn : s.toks ≤ s1.toks)
    (x : InCallC s s.heap.objs.size (bindL (envOfC qual scope s.heap.objs.size f cdv).kindOf (ps.zip us) fun _ => none) (cellsFrom (s.heap.objs.size + 1) scope.names []) (bindC (envOfC qual scope s.heap.objs.size f cdv).kindOf (ps.zip us) fun _ => none) s1) :
    InvD (BX P w K mg base N qual scope f cdv A outer s G.H) ⟨T, G, true, s.toks⟩ [] (entry G) (startD N.length ds) st s1 := by
  obtain ⟨vs, rv⟩ := vals_of r
  have hvl : vs.length = ps.length := by rw [rv.length, ← r.length]; exact hl
  have I0 : Inv (BX P w K mg base N qual scope f cdv A outer s G.H) [] (start N vs) G.H s1 := inv_start Sc hd c.e0 hvl rv x
  have hpl : ps.length ≤ N.length := by
    have := congrArg List.length Sc.pre
    rw [List.length_take] at this
    omega
  refine ⟨I0.weak (by rw [I0.len]; simp [blank]) fun i v q => (blank_get q).elim, ⟨_, x.toInCall.ns, fun i y d h1 h2 h3 => ?_⟩, ?_, Nat.le_trans c.tok hn, c.pos, ?_, c.owd, ⟨fun _ _ h => h, fun _ _ h _ => h, fun _ _ h => h, fun _ h => .inl h, fun _ h => h, fun _ h => h⟩, fun i d h => ?_, (fun _ _ h => nomatch h), (fun _ _ h => nomatch h), (fun _ _ _ h _ => nomatch h), fun _ j i c' h => ?_, c.tb, hn⟩
  · have ha := startD_get h2
    have hi : i < ds.length := (List.getElem?_eq_some_iff.mp ha).1
    obtain ⟨u, hu, rd, hp⟩ := r.get ha
    have hpy : ps[i]? = some y := by
      rw [← Sc.pre, List.getElem?_take_of_lt (by omega)]
      exact h1
    have ndP : ps.Nodup := by
      rw [← Sc.pre]
      exact Sc.nd.sublist (List.take_sublist _ _)
    refine ⟨u, Rep.smono (entry_sx G) hn hp rd, ?_⟩
    rcases Sc.par y (List.mem_of_getElem? hpy) with hk | hk
    · exact .inl ⟨hk, bindL_get ndP hpy hu hk⟩
    · obtain ⟨cl, ec⟩ := cell_has (n := s.heap.objs.size + 1) hk
      refine .inr ⟨.inl hk, cl, ec, ?_⟩
      have q := x.cell y cl ec
      rw [bindC_get ndP hpy hu (by show scope.names.lookup y ≠ _; rw [hk]; decide)] at q
      exact q
  · refine ⟨c.sto.len, c.sto.nd, fun i a cl h1 h2 => ?_⟩
    have q := c.sto.cell i a cl h1 h2
    cases cl with
    | lst es =>
      obtain ⟨o, ws, q1, q2, q3⟩ := q
      exact ⟨o, ws, q1, q2, Reps.smono (entry_sx G) hn q3⟩
    | tbl q' => exact q
  · show (startD N.length ds).length = N.length
    exact startD_len (by omega)
  · exact plain_notNew (reps_plain r d (List.mem_of_getElem? (startD_get h)))
  · have := reps_plain r _ (List.mem_of_getElem? (startD_get h))
    cases this
/-- the ghost behind a def, for its caller -/
def leave (G G' : Gh) : Gh := ⟨G'.H, G'.as, G.ow, G.oa⟩
theorem leave_ext {G G' : Gh} (e : FExt G G') : Ext G (leave G G') := ⟨e.fr, e.keep, e.pre, e.new, e.dom, rfl, rfl⟩
theorem leave_sx (G G' : Gh) : SExt G' (leave G G') := ⟨fun _ _ h => h, fun _ _ h => h⟩
theorem leave_sto {G G' : Gh} {n n' : Nat} {st : Store} (h : StoOk T G' n st) (hn : n ≤ n') : StoOk T (leave G G') n' st := ⟨h.len, h.nd, fun i a c h1 h2 => by
  have q := h.cell i a c h1 h2
  cases c with
  | lst es =>
    obtain ⟨o, ws, q1, q2, q3⟩ := q
    exact ⟨o, ws, q1, q2, Reps.smono (leave_sx G G') hn q3⟩
  | tbl q' => exact q⟩
variable {name : Str} {params : Arguments} {body : List Stmt} {dV kV doc pm ct oc : Value} {an od : Option Addr} {osl : Array (Option Value)} {m : SM}
/-- THE RULE, at one call: a def of the text, by its body -/
theorem fnd_at {args : Args} (lk : K.lookup f = some ⟨oc, od, .func (PySem.W.fnOf name qual params body scope dV kV doc pm an cdv ct), osl⟩) (hcd : PySem.W.codeIn K cdv qual = true) (Sc : FnScope N ps scope)
    (hbody : Room k (A.deeper (envOfC qual scope s.heap.objs.size f cdv)) → DSs (BX P w K mg base N qual scope f cdv A outer s G.H) ⟨T, G, true, s.toks⟩ body m)
    (hr : Room (k + 1) A) (c : CallSt P w K mg base A outer T G st s) (hb : BindsTo s (PySem.W.fnOf name qual params body scope dV kV doc pm an cdv ct) args (ps.zip us)) (r : Reps T G s.toks ds us) (hl : ds.length = ps.length) (hF : runB N.length m ds st ≠ .bad) :
    codeAny (model P w) A (.call (.ref f) args) (EndR P w mg outer T G s (runB N.length m ds st)) s := by
  have e0 := c.e0
  have KX : K.In s.heap := e0.mod.kin.keeps fun b o e => (e0.bs b o e).1
  have lim : s.heap.NoLimit := e0.mod.nolimit.keeps fun b o e => (e0.bs b o e).1
  have hkind : ∀ y ∈ ps.zip us, scope.names.lookup y.1 = some .local ∨ (scope.names.lookup y.1 = some .cell ∧ ((cellsFrom (s.heap.objs.size + 1) scope.names []).lookup y.1).isSome = true) := fun ⟨n, v⟩ hy => by
    rcases Sc.par n (List.of_mem_zip hy).1 with q | q
    · exact .inl q
    · exact .inr ⟨q, PySem.W.cellsFrom_some _ _ _ (.inl q)⟩
  refine codeAny_call_function hr.depth (KX _ _ lk) rfl Sc.co Sc.gen rfl (PySem.W.codeRec_of KX hcd) (hb _ _ _ _ ?_)
  refine wpAny_mono (PySem.wpAny_toks (wpAny_newFunctionEnv_cells (Q := fun env s1 => env = envOfC qual scope s.heap.objs.size f cdv ∧ InCallC s s.heap.objs.size (bindL (envOfC qual scope s.heap.objs.size f cdv).kindOf (ps.zip us) fun _ => none) (cellsFrom (s.heap.objs.size + 1) scope.names []) (bindC (envOfC qual scope s.heap.objs.size f cdv).kindOf (ps.zip us) fun _ => none) s1)
    Sc.kind hkind fun env he s1 x => ?_)) (fun env s1 ⟨hn1, he, x⟩ => ?_) fun _ _ z => z.2
  · subst he
    exact ⟨rfl, x⟩
  subst he
  refine ⟨lim.keeps x.toInCall.keep, codeAny_func ?_⟩
  have I := inv_begin Sc hr.hd c hl r hn1 x
  have hm : m (startD N.length ds) st ≠ .bad := fun z => hF (by unfold runB; rw [z]; rfl)
  refine wpAny_mono (PySem.wpAny_toks (hbody (hr.deeper _) [] s1 (entry G) (startD N.length ds) st I hm)) (fun fl s' hs => ?_) fun e s' hs => ?_
  · obtain ⟨hn, fl', ρ', st', G', e1, x1, J, hf⟩ := hs
    have fin : ∀ {d : D} {u : Value}, runB N.length m ds st = .ok (retD d) st' → Rep T G' s'.toks d u → (∀ ds a, d = .new ds → u = .ref a → G.H a = none) → EndOk P w outer T G s (runB N.length m ds st) u s' := fun {d u} e2 rd hnew => by
      refine ⟨retD d, st', leave G G', e2, J.inv.os, J.inv.bare, J.inv.base, J.inv.hok, leave_ext J.ext, leave_sto J.sto (Nat.le_refl _), ?_, ?_⟩
      · cases d with
        | own i l =>
          obtain ⟨a, o, ws, q1, q2, q3, q4, q5, q6, q7⟩ := rd
          have h0 := J.oaT i a q5
          exact ⟨a, o, ws, q1, q2, q3, fun hw => c.owd a hw h0, q6, Reps.smono (leave_sx G G') (Nat.le_refl _) q7⟩
        | new l =>
          obtain ⟨a, o, ws, q1, q2, q3, q4, q6, q7⟩ := rd
          have h0 := hnew l a rfl q1
          exact ⟨a, o, ws, q1, q2, q3, fun hw => c.owd a hw h0, q6, Reps.smono (leave_sx G G') (Nat.le_refl _) q7⟩
        | _ => exact Rep.smono (leave_sx G G') (Nat.le_refl _) rfl rd
      · intro es a h1 h2
        cases d with
        | own i l =>
          obtain ⟨b, o, ws, q1, q2, q3, q4, q5, q6, q7⟩ := rd
          rw [q1] at h2
          cases h2
          exact J.oaT i _ q5
        | new l => exact hnew l a rfl h2
        | _ => cases h1
    have eqR : runB N.length m ds st = finR (.go fl' ρ' st') := by unfold runB; rw [e1]
    cases fl' with
    | rt d =>
      obtain ⟨u, rfl, rd, hnew⟩ := hf
      exact fin eqR rd hnew
    | nx =>
      cases (show fl = .next from hf)
      exact fin (d := .non) (u := .none) eqR rfl (fun _ _ z => by cases z)
    | bk => exact absurd (by rw [eqR]; rfl) hF
    | ct => exact absurd (by rw [eqR]; rfl) hF
  · obtain ⟨hn, ex, ρ', st', G', e1, x1, a, B, sI, cls, dd, rfl, J, nb, up, sky, na, os, ag, tk, xo⟩ := hs
    have eqR : runB N.length m ds st = .exn ex st' := by unfold runB; rw [e1]; rfl
    rw [eqR]
    have hx : XE (BX P w K mg base N qual scope f cdv A outer s G.H) (fun cls dd _ H' => ∃ G' n, G'.H = H' ∧ FExt G G' ∧ StoOk T G' n st' ∧ n ≤ s'.toks ∧ ExOk (BX P w K mg base N qual scope f cdv A outer s G.H) G' ex cls dd) (.ref a) s' :=
      ⟨a, B, sI, [], blank N, G'.H, cls, dd, rfl, J.inv, nb, up, sky, na, os, ag, G', sI.toks, rfl, J.ext, J.sto, tk, xo⟩
    have lv := XE.leave (E := fun cls dd H' => ∃ G' n, G'.H = H' ∧ FExt G G' ∧ StoOk T G' n st' ∧ n ≤ s'.toks ∧ ExOk (BX P w K mg base N qual scope f cdv A outer s G.H) G' ex cls dd) (E₁ := fun _ _ => False) rfl rfl rfl (fun _ _ _ _ q => q) hx
    refine wpAny_mono (PySem.wpAny_toks lv) (fun _ s2 z => ?_) fun _ _ z => z.2.elim
    obtain ⟨hn2, a2, B2, H2, cls2, d2, q1, q2, q3, q4, q5, q6, q7, G2, n2, q8, q9, q10, q11, q12⟩ := z
    subst q8
    exact ⟨a2, B2, _, cls2, d2, q1, q2, q3, q4, q5, q6, q7, ex, st', leave G G2, n2, rfl, rfl, leave_ext q9, leave_sto q10 (Nat.le_refl _), Nat.le_trans q11 hn2, q12.c, q12.p⟩
theorem fnd_of (lk : K.lookup f = some ⟨oc, od, .func (PySem.W.fnOf name qual params body scope dV kV doc pm an cdv ct), osl⟩) (hcd : PySem.W.codeIn K cdv qual = true) (Sc : FnScope N ps scope)
    (hbody : ∀ (A : Around) (outer : List Env) (s : Shared) (G : Gh), Room k (A.deeper (envOfC qual scope s.heap.objs.size f cdv)) → DSs (BX P w K mg base N qual scope f cdv A outer s G.H) ⟨T, G, true, s.toks⟩ body m) :
    FnD P w K mg base T (k + 1) f (PySem.W.fnOf name qual params body scope dV kV doc pm an cdv ct) ps (runB N.length m) :=
  ⟨fun A outer s G _ _ _ _ hr c hb r hl hF => fnd_at lk hcd Sc (fun h => hbody A outer s G h) hr c hb r hl hF⟩
end
end DL
namespace DL
open PySem PySem.Spec PyProof.Rows L2
/-! ### [e for x in ..] -/
def wipeD (ρ : Env_) : List Nat → Env_
  | [] => ρ
  | v :: vs => (wipeD ρ vs).set v none
theorem wipeD_len (ρ : Env_) : ∀ vs : List Nat, (wipeD ρ vs).length = ρ.length
  | [] => rfl
  | v :: vs => by unfold wipeD; rw [List.length_set, wipeD_len ρ vs]
theorem wipeD_some {ρ : Env_} {i : Nat} {d : D} : ∀ {vs : List Nat}, (wipeD ρ vs)[i]? = some (some d) → ρ[i]? = some (some d) ∧ i ∉ vs
  | [], h => ⟨h, by simp⟩
  | v :: vs, h => by
    have h' : ((wipeD ρ vs).set v none)[i]? = some (some d) := h
    by_cases hi : v = i
    · subst hi
      rw [List.getElem?_set] at h'
      simp at h'
    · rw [List.getElem?_set_ne hi] at h'
      obtain ⟨h1, h2⟩ := wipeD_some h'
      exact ⟨h1, by simp only [List.mem_cons, not_or]; exact ⟨fun e => hi e.symm, h2⟩⟩
def quietR {α : Type} : R α → R α
  | .exn _ _ => .bad
  | r => r
def compS (g : AG) (t : EB) (me : EM) (ρ : Env_) : List D → List D → Store → R (List D)
  | [], acc, st => .ok acc st
  | x :: xs, acc, st => match g x ρ with
    | some ρ1 => (quietR (t ρ1 st)).bind fun b st1 => if b = true then (quietR (me ρ1 st1)).bind fun d st2 => if plain (frz d) = true ∧ acc.length < 1000000 then compS g t me ρ xs (acc ++ [frz d]) st2 else .bad else compS g t me ρ xs acc st1
    | none => .bad
def eComp (own : List Nat) (mi : EL) (g : AG) (t : EB) (me : EM) : EM := fun ρ st => (mi ρ st).bind fun xs st1 => (compS g t me (wipeD ρ own) xs [] st1).bind fun ds st2 => .ok (.new ds) st2
def tYes : EB := fun _ st => .ok true st
/-- a clause's tests -/
structure DTs (X : Cx) (T : Fx) (ifs : List Expr) (t : EB) : Prop where
  ap : ∀ (pins : List (Addr × Obj)) (s : Shared) (G : Gh) (ρ : Env_) (st : Store), InvD X T pins G ρ st s → t ρ st ≠ .bad →
  wpAny (model X.prog X.w) X.A (forIn ifs true fun c r => if r = true then do let ok ← isTrue c X.env (eval c X.env); pure (ForInStep.yield ok) else pure (ForInStep.yield r)) (OkB X T pins G ρ (t ρ st)) (ExP X T pins G ρ (t ρ st)) s
instance {X : Cx} {T : Fx} {ifs : List Expr} {t : EB} : CoeFun (DTs X T ifs t) fun _ => ∀ (pins : List (Addr × Obj)) (s : Shared) (G : Gh) (ρ : Env_) (st : Store), InvD X T pins G ρ st s → t ρ st ≠ .bad →
  wpAny (model X.prog X.w) X.A (forIn ifs true fun c r => if r = true then do let ok ← isTrue c X.env (eval c X.env); pure (ForInStep.yield ok) else pure (ForInStep.yield r)) (OkB X T pins G ρ (t ρ st)) (ExP X T pins G ρ (t ρ st)) s := ⟨DTs.ap⟩
/-- the target sets its own slots alone -/
def Owns (own : List Nat) (g : AG) : Prop := ∀ d ρ ρ', g d ρ = some ρ' → ρ'.length = ρ.length ∧ ∀ j, j ∉ own → ρ'[j]? = ρ[j]?
theorem owns_name {i : Nat} {own : List Nat} (h : i ∈ own := by simp) : Owns own (gName i) := fun d ρ ρ' e => by
  unfold gName at e
  split at e
  · cases e
    exact ⟨by rw [List.length_set], fun j hj => List.getElem?_set_ne (fun z : i = j => hj (by rw [← z]; exact h))⟩
  · cases e
theorem owns_all {own : List Nat} : ∀ (is : List Nat) (ds : List D) (ρ ρ' : Env_), (∀ i ∈ is, i ∈ own) → setAll is ds ρ = some ρ' → ρ'.length = ρ.length ∧ ∀ j, j ∉ own → ρ'[j]? = ρ[j]?
  | [], [], ρ, ρ', _, e => by cases e; exact ⟨rfl, fun _ _ => rfl⟩
  | [], _ :: _, _, _, _, e => by cases e
  | _ :: _, [], _, _, _, e => by cases e
  | i :: is, d :: ds, ρ, ρ', h, e => by
    have e' : (if plain d = true then setAll is ds (ρ.set i (some d)) else none) = some ρ' := e
    split at e'
    · obtain ⟨h1, h2⟩ := owns_all is ds _ _ (fun j hj => h j (List.mem_cons_of_mem _ hj)) e'
      exact ⟨by rw [h1, List.length_set], fun j hj => (h2 j hj).trans (List.getElem?_set_ne (fun z : i = j => hj (by rw [← z]; exact h i List.mem_cons_self)))⟩
    · cases e'
theorem owns_tup {is own : List Nat} (h : ∀ i ∈ is, i ∈ own := by simp) : Owns own (gTup is) := fun d ρ ρ' e => by
  cases d with
  | tup ds => exact owns_all is ds ρ ρ' h e
  | _ => cases e
section
variable {X : Cx} {T : Fx} {pins : List (Addr × Obj)} {G G1 : Gh} {ρ ρ1 : Env_} {st st1 : Store} {s s1 s' : Shared} {e a b c o tg iter elt : Expr} {es ifs : List Expr} {m ma mb mc mo me : EM} {ml mi : EL} {pos p2 p apos pos' : Pos} {x y z : Str} {sm : Stmt} {sms body : List Stmt} {k1 k2 : SM} {tc tt : EB} {it : Addr} {xs : List D} {i : Nat} {g : AG} {scope : Scope} {own : List (Str × Nat)}
theorem dts_nil : DTs X T [] tYes := .mk fun pins s G ρ st I _ => wpAny_tests_nil ⟨st, G, rfl, Ext.refl G, I⟩
theorem dts_one (h : DT X T c tc) : DTs X T [c] tc := .mk fun pins s G ρ st I hb => wpAny_tests_one (h pins s G ρ st I hb)
theorem InvD.forget {ρ' : Env_} (I : InvD X T pins G ρ st s) (hl : ρ'.length = ρ.length) (w : ∀ (i : Nat) (d : D), ρ'[i]? = some (some d) → ρ[i]? = some (some d)) : InvD X T pins G ρ' st s :=
  { I with
    loc := let ⟨m, h1, h2⟩ := I.loc; ⟨m, h1, fun i x d a1 a2 a3 => h2 i x d a1 (w i d a2) a3⟩
    len := hl.trans I.len
    nn := fun i d e => I.nn i d (w i d e)
    so := fun hf j i c e => I.so hf j i c (w j _ e) }
/-- a block begins -/
theorem blk_begin (I : InvD X T pins G ρ st s) (ok : BlkOk X.N X.env.scope scope own) (hN : X.N.Nodup) (hf : FpOk X pins G.H it) (hit : it < s.heap.objs.size) :
    InvD (X.blk s G.H scope (compEnvC scope (cellsFrom (s.heap.objs.size + 1) scope.names (cloFrom X.env.cells scope.names [])) s.heap.objs.size X.env) [it]) T [] G (wipeD ρ (own.map (·.2))) st
      { s with heap := pushCells (s.heap.push { cls := .type "dict", data := .dict #[] }) scope.names } := by
  have J := block_start (fp := [it]) I.inv ok hN (fun b hb => by rw [show b = it by simpa using hb]; exact ⟨hf, hit⟩)
  generalize hce : compEnvC scope (cellsFrom (s.heap.objs.size + 1) scope.names (cloFrom X.env.cells scope.names [])) s.heap.objs.size X.env = ce at J ⊢
  have kp : ∀ b ob, s.heap.get? b = some ob → (pushCells (s.heap.push { cls := .type "dict", data := .dict #[] }) scope.names).get? b = some ob := fun b ob e => pushCells_keeps _ _ _ _ (Heap.get?_push_of_some _ e)
  have hcl : ce.cells = cellsFrom (s.heap.objs.size + 1) scope.names (cloFrom X.env.cells scope.names []) := by rw [← hce]; rfl
  have hsc : ce.scope = relS scope X.env.scope := by rw [← hce]; rfl
  -- a captured name's cell is the def's own
  have cap : ∀ {y : Str}, scope.names.lookup y = some .free → ∃ c, ce.cells.lookup y = some c ∧ X.env.cells.lookup y = some c := fun {y} hl => by
    have hy : (y, NameKind.free) ∈ scope.names := PySem.mem_of_lookup hl
    obtain ⟨c', e'⟩ := mem_lookup (cells_acc (names := scope.names) (n := s.heap.objs.size + 1) (cloFrom_has (cells := X.env.cells) (acc := []) hy))
    have e2 : ce.cells.lookup y = some c' := by rw [hcl]; exact e'
    refine ⟨c', e2, ?_⟩
    rw [← Heap.size_push s.heap { cls := .type "dict", data := .dict #[] }] at e'
    rcases cells_mem (PySem.mem_of_lookup e') with hm | ⟨h1, _, _⟩
    · rcases cloFrom_mem hm with hm | ⟨h2, h3⟩
      · cases hm
      · have : ∃ c, X.env.cells.lookup y = some c := by
          rcases ok.free _ h2 rfl with k | k
          · exact I.inv.ok.has _ (.inl k)
          · exact I.inv.ok.has _ (.inr k)
        obtain ⟨c, hc⟩ := this
        rw [h3, hc]
        rfl
    · have := ok.uniq _ h1
      rw [hl] at this
      cases this
  refine ⟨J.weak (by rw [J.len]; simp [blank]) fun i v q => (blank_get q).elim, ?_, I.sto.mono (Ext.refl G) (Nat.le_refl _) rfl fun _ _ _ h => h, I.tok, I.pos, by rw [wipeD_len]; exact I.len, I.owd, I.ext, fun i d e => I.nn i d (wipeD_some e).1, I.oaT, I.oaw, I.oai, fun hf j i c e => I.so hf j i c (wipeD_some e).1, I.tb, I.tk0⟩
  obtain ⟨m', hm', _⟩ := J.loc
  refine ⟨m', hm', fun j y d a1 a2 a3 => ?_⟩
  obtain ⟨a2, hne⟩ := wipeD_some a2
  have hfr : scope.names.lookup y = some .free ∧ (ce.kindOf y = some .cell ∨ ce.kindOf y = some .free) := by
    have key : ∀ k, ce.scope.names.lookup y = some k → k = .local ∨ k = .cell ∨ k = .free → scope.names.lookup y = some .free ∧ (ce.kindOf y = some .cell ∨ ce.kindOf y = some .free) := fun k hk hk' => by
      have hk0 := hk
      rw [hsc] at hk
      obtain ⟨k', e, r⟩ := lookup_relS hk
      have no : ¬ (k' = .local ∨ k' = .cell) := fun hh => by
        rcases ok.own _ (PySem.mem_of_lookup e) hh with e' | e'
        · obtain ⟨q, hq, hqy⟩ := List.mem_map.mp e'
          have e3 := ok.ix q hq
          rw [show q.1 = y from hqy] at e3
          exact hne (List.mem_map.mpr ⟨q, hq, nodup_ix hN e3 a1⟩)
        · exact e' (List.mem_of_getElem? a1)
      rcases r with rfl | ⟨rfl, rfl⟩
      · rcases hk' with rfl | rfl | rfl
        · exact absurd (.inl rfl) no
        · exact absurd (.inr rfl) no
        · exact ⟨e, .inr hk0⟩
      · exact ⟨e, .inl hk0⟩
    have a3 : Vis ce.scope y := a3
    rcases a3 with a3 | a3 | a3
    · exact key _ a3 (.inl rfl)
    · exact key _ a3 (.inr (.inl rfl))
    · exact key _ a3 (.inr (.inr rfl))
  obtain ⟨m, hn, hl⟩ := I.loc
  have hvis : Vis X.env.scope y := (ok.free _ (PySem.mem_of_lookup hfr.1) rfl).elim (fun k => .inr (.inl k)) (fun k => .inr (.inr k))
  obtain ⟨v, r, q⟩ := hl j y d a1 a2 hvis
  obtain ⟨c, h1, h2⟩ := cap hfr.1
  refine ⟨v, r, .inr ⟨hfr.2, c, h1, ?_⟩⟩
  rcases q with ⟨k, _⟩ | ⟨_, c', e', z⟩
  · have k : X.env.scope.names.lookup y = some .local := k
    rcases ok.free _ (PySem.mem_of_lookup hfr.1) rfl with k' | k' <;> rw [show X.env.scope.names.lookup y = _ from k'] at k <;> cases k
  · rw [h2] at e'
    cases e'
    exact cell_kept kp z
/-- a new list that is being filled, at D -/
structure Fill (T : Fx) (G2 G : Gh) (n : Nat) (Da : Addr) (acc : List D) : Prop where
  ext : Ext G2 G
  none : G2.H Da = none
  at_ : ∃ ob us, G.H Da = some (mu Da ob) ∧ LstO ob us ∧ Reps T.T G n acc us
  nas : Da ∉ G.as
  now : Da ∉ G.ow
  nT : T.g.H Da = Option.none
theorem Fill.up {G2 : Gh} {n n' : Nat} {Da : Addr} {acc : List D} (f : Fill T G2 G n Da acc) (x : Ext G G1) (hn : n ≤ n') : Fill T G2 G1 n' Da acc := by
  obtain ⟨ob, us, h1, h2, h3⟩ := f.at_
  exact ⟨f.ext.trans x, f.none, ⟨ob, us, x.keep _ _ h1 f.nas, h2, Reps.mono x hn h3⟩, x.notin h1 f.nas, by rw [x.ow]; exact f.now, f.nT⟩
theorem fill_push {G2 : Gh} {Da : Addr} {acc : List D} {d : D} {u : Value} {E : Value → Shared → Prop} {Q : Value → Shared → Prop} (I : InvD X T pins G ρ st s) (f : Fill T G2 G s.toks Da acc) (r : Rep T.T G s.toks d u) (hp : plain d = true) (hz : acc.length < 1000000)
    (h : ∀ s' G', InvD X T pins G' ρ st s' → s'.toks = s.toks → Fill T G2 G' s'.toks Da (acc ++ [d]) → SExt G G' → Q .none s') : wpAny (model X.prog X.w) X.A (call (.builtin "list.append") [.ref Da, u]) Q E s := by
  have z0 := sizeLine_eq
  obtain ⟨ob, us, h1, ⟨⟨n, hob⟩, hz2⟩, h3⟩ := f.at_
  have ho := I.atM h1
  rw [hob] at ho
  have hl := h3.length
  refine append_at (hsz := by rw [List.size_toArray]; omega) ho fun h' sb ho' => ?_
  rw [show us.toArray.push u = (us ++ [u]).toArray by simp] at ho'
  have sx := rep_put (ob' := { cls := .type "list", data := .seq (us ++ [u]).toArray (n + 1) }) h1
  have dom : ∀ b, upd G.H Da (mu Da { cls := .type "list", data := .seq (us ++ [u]).toArray (n + 1) }) b = none → G.H b = none := fun b q => by
    by_cases hb : b = Da
    · subst hb
      rw [upd_same] at q
      cases q
    · exact (upd_ne hb).symm.trans q
  have ne2 : ∀ {b : Addr} {v : HO}, G2.H b = some v → b ≠ Da := fun q => ne_of_none q f.none
  have neT : ∀ {b : Addr} {v : HO}, T.g.H b = some v → b ≠ Da := fun q => ne_of_none q f.nT
  obtain ⟨m, m1, m2⟩ := I.loc
  have nl : ∀ {b : Addr}, G.H b = Option.none → b ≠ Da := fun q z => by
    rw [z, h1] at q
    cases q
  have k : ∀ b v, b ≠ Da → s.heap.get? b = some v → h'.get? b = some v := fun b v hb q => (sb.2 b hb).trans q
  have hm : h'.Ns X.env.locals m := by
    obtain ⟨oL, es, ep, q1, q2⟩ := m1
    exact ⟨oL, es, ep, k _ _ (nl I.inv.free) q1, q2⟩
  refine h { s with heap := h' } ⟨upd G.H Da (mu Da { cls := .type "list", data := .seq (us ++ [u]).toArray (n + 1) }), G.as, G.ow, G.oa⟩ ⟨put_list (t' := s.toks) I h1 k ho', ⟨m, hm, fun j y d a1 a2 a3 => ?_⟩, ⟨I.sto.len, I.sto.nd, fun j b c q1 q2 => ?_⟩, I.tok, I.pos, I.len, fun b hb q => I.owd b hb (dom b q), ⟨fun b o' q => sx.fr b o' (I.ext.fr b o' q), fun b v q hb => (upd_ne (neT q)).trans (I.ext.keep b v q hb), I.ext.pre, I.ext.new, fun b q => I.ext.dom b (dom b q), I.ext.ow⟩, I.nn, I.oaT, I.oaw, I.oai, I.so, I.tb, I.tk0⟩ rfl
    ⟨⟨fun b o' q => sx.fr b o' (f.ext.fr b o' q), fun b v q hb => (upd_ne (ne2 q)).trans (f.ext.keep b v q hb), f.ext.pre, f.ext.new, fun b q => f.ext.dom b (dom b q), f.ext.ow, f.ext.oa⟩, f.none, ⟨_, _, upd_same, ⟨⟨n + 1, rfl⟩, by rw [List.length_append, List.length_singleton]; omega⟩, (Reps.smono sx (Nat.le_refl _) h3).snoc hp (Rep.smono sx (Nat.le_refl _) hp r)⟩, f.nas, f.now, f.nT⟩ sx
  · obtain ⟨v, q, l⟩ := m2 j y d a1 a2 a3
    have lk : Look X.env h' m y v := by
      rcases l with l | ⟨k1, c, e1, oc, q1, q2⟩
      · exact .inl l
      · exact .inr ⟨k1, c, e1, oc, k c oc (nl (I.inv.freeC y c e1)) q1, q2⟩
    refine ⟨v, ?_, lk⟩
    have hnn := I.nn j d a2
    cases d with
    | new l => cases hnn
    | own j' c =>
      obtain ⟨b, o', us', q1, q2, q3, q4, q5, q6, q7⟩ := q
      have hb : b ≠ Da := fun z => f.now (z ▸ q4)
      exact ⟨b, o', us', q1, (upd_ne hb).trans q2, q3, q4, q5, q6, Reps.smono sx (Nat.le_refl _) q7⟩
    | _ => exact Rep.smono sx (Nat.le_refl _) rfl q
  · have q := I.sto.cell j b c q1 q2
    cases c with
    | lst ds =>
      obtain ⟨o', us', q3, q4, q5⟩ := q
      have hb : b ≠ Da := fun z => f.nas (z ▸ List.mem_of_getElem? q1)
      exact ⟨o', us', (upd_ne hb).trans q3, q4, Reps.smono sx (Nat.le_refl _) q5⟩
    | tbl q' => exact TabD.put q h1 (fun b hb => upd_ne hb) fun _ m => .inl m
end
end DL
namespace DL
open PySem PySem.Spec PyProof.Rows L2
section
variable {X : Cx} {T : Fx} {pins : List (Addr × Obj)} {G G1 : Gh} {ρ ρ1 : Env_} {st st1 : Store} {s s1 s' : Shared} {e a b c o tg iter elt : Expr} {es ifs : List Expr} {m ma mb mc mo me : EM} {ml mi : EL} {pos p2 p apos pos' spos : Pos} {x y z : Str} {sm : Stmt} {sms body : List Stmt} {k1 k2 : SM} {tc tt : EB} {it : Addr} {xs : List D} {i : Nat} {g : AG} {scope : Scope} {own : List (Str × Nat)}
theorem quiet_ok {α : Type} {r : R α} {f : α → Store → R (List D)} (h : (quietR r).bind f ≠ .bad) : r ≠ .bad ∧ ∀ ex st', r ≠ .exn ex st' := by
  cases r with
  | ok a st => exact ⟨(fun z => nomatch z), fun _ _ z => nomatch z⟩
  | exn ex st => exact absurd rfl h
  | bad => exact absurd rfl h
theorem noX {α : Type} {r : R α} {x : Value} (h : ∀ ex st', r ≠ .exn ex st') (z : ExP X T pins G ρ r x s) : False := by
  obtain ⟨ex, st', _, e1, _⟩ := z
  exact h ex st' e1
theorem comp_core {use : Option (Value → Sem Unit)} {Qf : Value → Shared → Prop} {E : Value → Shared → Prop} (hc : X.calm = true) (hN : X.N.Nodup) (hi : DI X T iter mi) (ok : BlkOk X.N X.env.scope scope own) (hw : Owns (own.map (·.2)) g)
    (hg : ∀ (s : Shared) (H : Hp) (C : Addr) (cl : List (Str × Addr)) (fp : List Addr), DG (X.blk s H scope (compEnvC scope cl C X.env) fp) T tg g) (ht : ∀ (s : Shared) (H : Hp) (C : Addr) (cl : List (Str × Addr)) (fp : List Addr), DTs (X.blk s H scope (compEnvC scope cl C X.env) fp) T ifs tt)
    (he : ∀ (s : Shared) (H : Hp) (C : Addr) (cl : List (Str × Addr)) (fp : List Addr), DE (X.blk s H scope (compEnvC scope cl C X.env) fp) T elt me) (hs : ∀ x, foldedSetIterable iter X.env x = pure x) (I : InvD X T pins G ρ st s) (h : eComp (own.map (·.2)) mi g tt me ρ st ≠ .bad)
    (hE : ∀ x s1, ExP X T pins G ρ (eComp (own.map (·.2)) mi g tt me ρ st) x s1 → E x s1)
    (hRR : ∀ Da C s' m' acc st' G', eComp (own.map (·.2)) mi g tt me ρ st = .ok (.new acc) st' → Ext G G' → InvD X T pins G' ρ st' s' → Rep T.T G' s'.toks (.new acc) (.ref Da) → G.H Da = none → s'.heap.Ns C m' → FpOk X pins G'.H C → compPost (model X.prog X.w) X.A E use Qf (.ref Da) C (.ok .next) s') :
    wpAny (model X.prog X.w) X.A (comprehension (.ListComp elt [⟨tg, iter, ifs, 0⟩] scope pos) scope X.env pos' (newList []) false (eval iter X.env) use) Qf E s := by
  have hfree : ∀ y ∈ scope.names, y.2 = .free → ∃ c, X.env.cells.lookup y.1 = some c := fun y hy e => by
    rcases ok.free y hy e with k | k
    · exact I.inv.ok.has _ (.inl k)
    · exact I.inv.ok.has _ (.inr k)
  have hmi : mi ρ st ≠ .bad := fun z => h (by unfold eComp; rw [z]; rfl)
  have up : ∀ x s1, ExP X T pins G ρ (mi ρ st) x s1 → E x s1 := fun x s1 z => hE x s1 (z.up (Ext.refl G) fun ex st' e1 => by unfold eComp; rw [e1]; rfl)
  refine wpAny_comprehension_free (use := use) rfl hs (closure_ok hfree) ok.kind (fun y hy e => by rw [ok.uniq y hy, e])
    (wpAny_mono (hi pins s G ρ st I hmi) (fun xv s1 hx => wpAny_mono hx (fun itv s2 h2 => ?_) up) up)
  obtain ⟨it, xs, st2, G2, e2, x2, I2, rfl, k2, f2⟩ := h2
  have eqC : eComp (own.map (·.2)) mi g tt me ρ st = (compS g tt me (wipeD ρ (own.map (·.2))) xs [] st2).bind fun ds st2 => .ok (.new ds) st2 := by unfold eComp; rw [e2]; rfl
  rw [eqC] at h hRR hE
  refine wpAny_newObj_type (newEnv_comp ?_) (by show 0 ≤ sizeLine; exact Nat.zero_le _)
  generalize hD : s2.heap.objs.size = Da
  have hDn : G2.H Da = none := by rw [← hD]; exact push_none I2
  generalize hs3 : ({ s2 with heap := s2.heap.push { cls := .type "list", data := .seq ([] : List Value).toArray } } : Shared) = s3
  have h3 : s3.heap = s2.heap.push { cls := .type "list", data := .seq ([] : List Value).toArray } := by rw [← hs3]
  have ht3 : s3.toks = s2.toks := by rw [← hs3]
  have hget : s3.heap.get? Da = some { cls := .type "list", data := .seq ([] : List Value).toArray } := by
    rw [h3, ← hD]
    exact Heap.get?_push_size _ rfl
  have kp3 : ∀ b ob, s2.heap.get? b = some ob → s3.heap.get? b = some ob := fun b ob e => by rw [h3]; exact Heap.get?_push_of_some _ e
  generalize hG3 : (⟨upd G2.H Da (mu Da { cls := .type "list", data := .seq ([] : List Value).toArray }), G2.as, G2.ow, G2.oa⟩ : Gh) = G3
  have x3 : Ext G2 G3 := by rw [← hG3]; exact Ext.laid hDn
  have I3 : InvD X T pins G3 ρ st2 s3 := by
    rw [← hG3, ← hs3]
    exact I2.laid (t' := s2.toks) (fun b ob e => Heap.get?_push_of_some _ e) (Nat.le_of_eq hD) (ok_mu (by rw [← hD]; exact Heap.get?_push_size _ rfl)) (Nat.le_refl _)
  have fill3 : Fill T G2 G3 s3.toks Da [] := ⟨x3, hDn, ⟨_, [], by rw [← hG3]; exact upd_same, ⟨⟨0, rfl⟩, Nat.zero_le _⟩, rfl⟩, by rw [← hG3]; exact notin_as I2 hDn, by rw [← hG3]; exact notin_ow I2 hDn, I2.ext.dom Da hDn⟩
  have hlt : it < s2.heap.objs.size := by
    obtain ⟨ob, e, _⟩ := k2.obj
    exact Heap.lt_size e
  have f3 : FpOk X pins G3.H it := ⟨by rw [← hG3]; exact (upd_ne (by rw [← hD]; exact Nat.ne_of_lt hlt)).trans f2.1, f2.2⟩
  have I4 := blk_begin I3 ok hN f3 (by rw [h3, Heap.size_push]; exact Nat.lt_succ_of_lt hlt)
  have pg := hg s3 G3.H s3.heap.objs.size (cellsFrom (s3.heap.objs.size + 1) scope.names (cloFrom X.env.cells scope.names [])) [it]
  have pt := ht s3 G3.H s3.heap.objs.size (cellsFrom (s3.heap.objs.size + 1) scope.names (cloFrom X.env.cells scope.names [])) [it]
  have pe := he s3 G3.H s3.heap.objs.size (cellsFrom (s3.heap.objs.size + 1) scope.names (cloFrom X.env.cells scope.names [])) [it]
  show codeAny _ _ (.compStart (.ListComp elt [⟨tg, iter, ifs, 0⟩] scope pos) 0 (.ref it) (.ref Da) (compEnvC scope (cellsFrom (s3.heap.objs.size + 1) scope.names (cloFrom X.env.cells scope.names [])) s3.heap.objs.size X.env)) (compPost (model X.prog X.w) X.A E use Qf (.ref Da) s3.heap.objs.size) { s3 with heap := pushCells (s3.heap.push { cls := .type "dict", data := .dict #[] }) scope.names }
  generalize hce : compEnvC scope (cellsFrom (s3.heap.objs.size + 1) scope.names (cloFrom X.env.cells scope.names [])) s3.heap.objs.size X.env = ce at I4 pg pt pe ⊢
  have cL : ce.locals = s3.heap.objs.size := by subst hce; rfl
  have kp4 : ∀ b ob, s3.heap.get? b = some ob → (pushCells (s3.heap.push { cls := .type "dict", data := .dict #[] }) scope.names).get? b = some ob := fun b ob e => pushCells_keeps _ _ _ _ (Heap.get?_push_of_some _ e)
  generalize hs4 : ({ s3 with heap := pushCells (s3.heap.push { cls := .type "dict", data := .dict #[] }) scope.names } : Shared) = s4 at I4 ⊢
  have ht4 : s4.toks = s3.toks := by rw [← hs4]
  have k4 : ItOk T.T G3 s4.toks it s4.heap xs 0 := k2.keep x3.sx (by rw [ht4, ht3]; exact Nat.le_refl _) fun ob q => by rw [← hs4]; exact kp4 it ob (kp3 it ob q)
  have stat : ∀ {ρ' : Env_} {st' : Store} {G' : Gh} {s' : Shared}, InvD (X.blk s3 G3.H scope ce [it]) T [] G' ρ' st' s' → G'.H it = none → FpOk (X.blk s3 G3.H scope ce [it]) [] G'.H it := fun {ρ' st' G' s'} J hn =>
    ⟨hn, (J.inv.ok.exf it (by simp)).1, J.inv.ok.exfs it (by simp), .inl (by simp), fun x c e => (J.inv.ok.exf it (by simp)).2 x c e, fun p hp => absurd (show p ∈ ([] : List (Addr × Obj)) ++ [] from hp) (by simp)⟩
  have hcS : compS g tt me (wipeD ρ (own.map (·.2))) xs [] st2 ≠ .bad := bad_l h
  have loop : codeAny (model X.prog X.w) X.A (.compLoop (.ListComp elt [⟨tg, iter, ifs, 0⟩] scope pos) 0 (.ref it) (.ref Da) ce) (compPost (model X.prog X.w) X.A E use Qf (.ref Da) s3.heap.objs.size) s4 := by
    refine compLoop_any (fun n s' => ∃ i st' G' acc, n = xs.length - i ∧ i ≤ xs.length ∧ s2.toks ≤ s'.toks ∧ InvD (X.blk s3 G3.H scope ce [it]) T [] G' (wipeD ρ (own.map (·.2))) st' s' ∧ SExt G3 G' ∧ Fill T G2 G' s'.toks Da acc ∧ ItOk T.T G' s'.toks it s'.heap xs i ∧ G'.H it = none ∧ compS g tt me (wipeD ρ (own.map (·.2))) (xs.drop i) acc st' = compS g tt me (wipeD ρ (own.map (·.2))) xs [] st2) ?_ xs.length
      ⟨0, st2, G3, [], rfl, Nat.zero_le _, by rw [ht4, ht3]; exact Nat.le_refl _, I4, SExt.refl G3, fill3.up (Ext.refl G3) (by rw [ht4]; exact Nat.le_refl _), k4, f3.1, rfl⟩
    rintro n s5 ⟨i, st5, G5, acc, hn, hi5, tk5, I5, x5, fl5, k5, n5, r5⟩
    have f5 := stat I5 n5
    by_cases hlt5 : i < xs.length
    · have hx : xs[i]? = some xs[i] := List.getElem?_eq_getElem hlt5
      rw [List.drop_eq_getElem_cons hlt5] at r5
      have r5' : (match g xs[i] (wipeD ρ (own.map (·.2))) with
        | some ρ1 => (quietR (tt ρ1 st5)).bind fun b st1 => if b = true then (quietR (me ρ1 st1)).bind fun d st2 => if plain (frz d) = true ∧ acc.length < 1000000 then compS g tt me (wipeD ρ (own.map (·.2))) (xs.drop (i + 1)) (acc ++ [frz d]) st2 else .bad else compS g tt me (wipeD ρ (own.map (·.2))) (xs.drop (i + 1)) acc st1
        | none => .bad) = compS g tt me (wipeD ρ (own.map (·.2))) xs [] st2 := r5
      refine thnF (it_next (X := X.blk s3 G3.H scope ce [it]) (tg := tg) (E := fun _ _ => False) hc I5 k5 f5 hx) fun r s6 ⟨u, hr6, h6, I6, hn6, r6, hp6, k6⟩ => ?_
      subst hr6
      refine thnF h6 fun _ s7 e7 => ?_
      subst e7
      have I7 := I6.pinned f5 k6.obj
      obtain ⟨ob, hob, _⟩ := k6.obj
      cases hg5 : g xs[i] (wipeD ρ (own.map (·.2))) with
      | none => rw [hg5] at r5'; exact absurd r5'.symm hcS
      | some ρ8 =>
      rw [hg5] at r5'
      have r5'' : ((quietR (tt ρ8 st5)).bind fun b st1 => if b = true then (quietR (me ρ8 st1)).bind fun d st2 => if plain (frz d) = true ∧ acc.length < 1000000 then compS g tt me (wipeD ρ (own.map (·.2))) (xs.drop (i + 1)) (acc ++ [frz d]) st2 else .bad else compS g tt me (wipeD ρ (own.map (·.2))) (xs.drop (i + 1)) acc st1) = compS g tt me (wipeD ρ (own.map (·.2))) xs [] st2 := r5'
      have hnb := r5'' ▸ hcS
      obtain ⟨t1, t2⟩ := quiet_ok hnb
      refine thnF (PySem.wpAny_toks (pg _ s7 G5 _ ρ8 st5 u _ (fun _ _ => False) I7 r6 hg5) |> fun z => wpAny_mono z (fun _ _ q => q) fun _ _ q => q.2) fun _ s8 ⟨hn8, I8⟩ => ?_
      refine wpAny_mono (PySem.wpAny_toks (pt _ s8 G5 ρ8 st5 I8 t1)) (fun b s9 ⟨hn9, st9, G9, e9, x9, I9⟩ => ?_) fun _ _ z => (noX t2 z.2).elim
      rw [e9] at r5'' hnb
      have back : ∀ {st' : Store} {G' : Gh} {s' : Shared} {acc' : List D}, InvD (X.blk s3 G3.H scope ce [it]) T ([] ++ pinsAt [it] s7.heap) G' ρ8 st' s' → SExt G5 G' → s7.toks ≤ s'.toks → Fill T G2 G' s'.toks Da acc' → compS g tt me (wipeD ρ (own.map (·.2))) (xs.drop (i + 1)) acc' st' = compS g tt me (wipeD ρ (own.map (·.2))) xs [] st2 →
          ∃ m, m < n ∧ ∃ i st' G' acc, m = xs.length - i ∧ i ≤ xs.length ∧ s2.toks ≤ s'.toks ∧ InvD (X.blk s3 G3.H scope ce [it]) T [] G' (wipeD ρ (own.map (·.2))) st' s' ∧ SExt G3 G' ∧ Fill T G2 G' s'.toks Da acc ∧ ItOk T.T G' s'.toks it s'.heap xs i ∧ G'.H it = none ∧ compS g tt me (wipeD ρ (own.map (·.2))) (xs.drop i) acc st' = compS g tt me (wipeD ρ (own.map (·.2))) xs [] st2 := fun {st' G' s' acc'} J sx tk fl eq => by
        obtain ⟨q1, q2⟩ := hw _ _ _ hg5
        refine ⟨xs.length - (i + 1), by omega, i + 1, st', G', acc', rfl, hlt5, Nat.le_trans tk5 (Nat.le_trans hn6 tk), J.unpinned.forget q1.symm (fun j d e => ?_), x5.trans sx, fl, k6.keep sx tk fun o' ho' => (pin_at J ho').1, (pin_at J hob).2, eq⟩
        rw [q2 j (wipeD_some e).2]
        exact e
      cases b with
      | false =>
        have r9 : compS g tt me (wipeD ρ (own.map (·.2))) (xs.drop (i + 1)) acc st9 = compS g tt me (wipeD ρ (own.map (·.2))) xs [] st2 := r5''
        simp only [Bool.false_eq_true, if_false]
        exact back I9 x9.sx (Nat.le_trans hn8 hn9) (fl5.up x9 (Nat.le_trans hn6 (Nat.le_trans hn8 hn9))) r9
      | true =>
        have r9 : ((quietR (me ρ8 st9)).bind fun d st2 => if plain (frz d) = true ∧ acc.length < 1000000 then compS g tt me (wipeD ρ (own.map (·.2))) (xs.drop (i + 1)) (acc ++ [frz d]) st2 else .bad) = compS g tt me (wipeD ρ (own.map (·.2))) xs [] st2 := r5''
        have hnb9 := r9 ▸ hcS
        obtain ⟨u1, u2⟩ := quiet_ok hnb9
        simp only [if_true]
        refine wpAny_mono (PySem.wpAny_toks (pe _ s9 G9 ρ8 st9 I9 u1)) (fun v s10 ⟨hn10, d, st10, G10, e10, x10, I10, r10, nw10⟩ => ?_) fun _ _ z => (noX u2 z.2).elim
        rw [e10] at r9
        have r10' : (if plain (frz d) = true ∧ acc.length < 1000000 then compS g tt me (wipeD ρ (own.map (·.2))) (xs.drop (i + 1)) (acc ++ [frz d]) st10 else .bad) = compS g tt me (wipeD ρ (own.map (·.2))) xs [] st2 := r9
        by_cases hcd : plain (frz d) = true ∧ acc.length < 1000000
        · rw [if_pos hcd] at r10'
          obtain ⟨G11, x11, I11, r11⟩ := frz_ok I9 x10 I10 r10 nw10
          have fl11 := (fl5.up x9 (Nat.le_trans hn6 (Nat.le_trans hn8 hn9))).up x11 hn10
          refine fill_push (X := X.blk s3 G3.H scope ce [it]) I11 fl11 r11 hcd.1 hcd.2 fun s12 G12 I12 ht12 fl12 sx12 => ?_
          exact back I12 ((x9.sx.trans x11.sx).trans sx12) (by rw [ht12]; exact Nat.le_trans hn8 (Nat.le_trans hn9 hn10)) fl12 r10'
        · rw [if_neg hcd] at r10'
          exact absurd r10'.symm hcS
    · have hie : i = xs.length := by omega
      subst hie
      rw [List.drop_length] at r5
      have r5' : R.ok acc st5 = compS g tt me (wipeD ρ (own.map (·.2))) xs [] st2 := r5
      refine thnF (it_end (X := X.blk s3 G3.H scope ce [it]) (E := fun _ _ => False) hc I5 k5 f5 (Nat.le_refl _)) fun r s6 ⟨hr6, I6, hn6⟩ => ?_
      subst hr6
      -- back in the def's context
      have un : Un (frs X.stack) [it] G3.H G5.H s3.heap s6.heap := I6.inv.base
      have ne : ∀ {b : Addr}, b ≠ it → b ∉ [it] := fun h q => h (by simpa using q)
      have J : Inv X pins (blank X.N) G5.H s6 := I3.inv.call' (ch := [it]) I6.inv.os un I6.inv.hok I6.inv.bare fun b hb => by
        rw [show b = it by simpa using hb]
        exact ⟨f3.2.2.2.1, f3.2.1, f3.2.2.2.2.1, f3.2.2.2.2.2⟩
      have nC : G5.H s3.heap.objs.size = none := by
        have z : G5.H ce.locals = none := I6.inv.free
        rw [cL] at z
        exact z
      have fl6 : Fill T G2 G5 s6.toks Da acc := fl5.up (Ext.refl G5) hn6
      have nn : s2.toks ≤ s6.toks := Nat.le_trans tk5 hn6
      have I7 : InvD X T pins G5 ρ st5 s6 := by
        refine InvD.move (s := s2) (G := G2) (st := st2) I2 J fl6.ext nn (fun m hm => ?_) (fun y c v e z => ?_) I6.sto
        · obtain ⟨oL, es, ep, q1, q2⟩ := hm
          obtain ⟨sl, q⟩ := un.any (kp3 _ _ q1) I3.inv.free (ne (Ne.symm f3.2.1))
          exact ⟨_, es, ep, q, q2⟩
        · obtain ⟨oc, q1, q2⟩ := z
          obtain ⟨sl, q⟩ := un.any (kp3 _ _ q1) (I3.inv.freeC y c e) (ne (f3.2.2.2.2.1 y c e))
          exact ⟨_, q, q2⟩
      obtain ⟨m, hm, _⟩ := I6.inv.loc
      have hm : s6.heap.Ns ce.locals m := hm
      rw [cL] at hm
      obtain ⟨ob, us, q1, q2, q3⟩ := fl6.at_
      exact hRR Da s3.heap.objs.size s6 m acc st5 G5 (by rw [← r5']; rfl) (x2.trans fl6.ext) I7 ⟨Da, ob, us, rfl, q1, fl6.nas, fl6.now, q2, q3⟩ (x2.dom Da fl6.none) hm (I3.inv.fpOk (Nat.le_refl _) nC)
  refine codeAny_compStart_list loop ?_
  cases k4 with
  | lst ha hl r hi => exact wpAny_pyIter_listiter hi loop
  | tup ha hl r hi => exact wpAny_pyIter_tupleiter hi loop
  | rng lo k hi => exact wpAny_pyIter_rangeiter hi loop
  | str l t ty hty hi =>
    rcases hty with e | e
    · subst e; exact wpAny_pyIter_striter_ascii hi loop
    · subst e; exact wpAny_pyIter_striter_wide hi loop
theorem comp_bad {α : Type} {r : R α} {f : α → Store → R D} {d : D} {st' : Store} (h : r.bind f = .ok d st') : r.bind f ≠ .bad := fun z => by
  rw [h] at z
  cases z
theorem de_comp (hc : X.calm = true) (hN : X.N.Nodup) (hi : DI X T iter mi) (ok : BlkOk X.N X.env.scope scope own) (hw : Owns (own.map (·.2)) g)
    (hg : ∀ (s : Shared) (H : Hp) (C : Addr) (cl : List (Str × Addr)) (fp : List Addr), DG (X.blk s H scope (compEnvC scope cl C X.env) fp) T tg g) (ht : ∀ (s : Shared) (H : Hp) (C : Addr) (cl : List (Str × Addr)) (fp : List Addr), DTs (X.blk s H scope (compEnvC scope cl C X.env) fp) T ifs tt)
    (he : ∀ (s : Shared) (H : Hp) (C : Addr) (cl : List (Str × Addr)) (fp : List Addr), DE (X.blk s H scope (compEnvC scope cl C X.env) fp) T elt me) (hs : ∀ x, foldedSetIterable iter X.env x = pure x := by intro _; rfl) :
    DE X T (.ListComp elt [⟨tg, iter, ifs, 0⟩] scope pos) (eComp (own.map (·.2)) mi g tt me) := .mk fun pins s G ρ st I h => by
  rw [eval_ListComp]
  refine comp_core hc hN hi ok hw hg ht he hs I h (fun _ _ z => z) fun Da C s' m' acc st' G' e1 x1 J r h0 hn f => ⟨m', hn, fun h'' sb => ?_⟩
  rw [e1]
  refine ⟨_, st', G', rfl, x1, J.turned (t' := s'.toks) f (fun b o hb e => (sb.2 b hb).trans e) (Nat.le_refl _), r, fun ds b _ e2 => ?_⟩
  injection e2 with e3
  rw [← e3]
  exact h0
/-- name = [..], written on one line -/
theorem set_comp {k : D → Store → RS} (hsw : swapsWith (.ListComp elt [⟨tg, iter, ifs, 0⟩] scope pos) (some (.Name y p)) spos.line X.env = pure true) (hc : X.calm = true) (hN : X.N.Nodup) (hi : DI X T iter mi) (ok : BlkOk X.N X.env.scope scope own) (hw : Owns (own.map (·.2)) g)
    (hg : ∀ (s : Shared) (H : Hp) (C : Addr) (cl : List (Str × Addr)) (fp : List Addr), DG (X.blk s H scope (compEnvC scope cl C X.env) fp) T tg g) (ht : ∀ (s : Shared) (H : Hp) (C : Addr) (cl : List (Str × Addr)) (fp : List Addr), DTs (X.blk s H scope (compEnvC scope cl C X.env) fp) T ifs tt)
    (he : ∀ (s : Shared) (H : Hp) (C : Addr) (cl : List (Str × Addr)) (fp : List Addr), DE (X.blk s H scope (compEnvC scope cl C X.env) fp) T elt me) (hs : ∀ x, foldedSetIterable iter X.env x = pure x) (I : InvD X T pins G ρ st s) (h : RS.ofE ρ (eComp (own.map (·.2)) mi g tt me ρ st) k ≠ .bad)
    (hk : ∀ Da C s' m' acc st' G', k (.new acc) st' ≠ .bad → Ext G G' → InvD X T pins G' ρ st' s' → Rep T.T G' s'.toks (.new acc) (.ref Da) → G.H Da = none → s'.heap.Ns C m' → FpOk X pins G'.H C → wpAny (model X.prog X.w) X.A (storeName X.env y (.ref Da)) (fun _ s'' => ∃ a, (Heap.SameBut a s'.heap s''.heap ∧ (a = X.env.locals ∨ X.env.cells.lookup y = some a)) ∧ ∀ h'', Heap.SameBut C s''.heap h'' → SkP X T pins G (k (.new acc) st') .next { s'' with heap := h'' }) (SxP X T pins G (k (.new acc) st')) s') :
    wpAny (model X.prog X.w) X.A (exec (.Assign [.Name y p] (.ListComp elt [⟨tg, iter, ifs, 0⟩] scope pos) spos) X.env) (SkP X T pins G (RS.ofE ρ (eComp (own.map (·.2)) mi g tt me ρ st) k)) (SxP X T pins G (RS.ofE ρ (eComp (own.map (·.2)) mi g tt me ρ st) k)) s := by
  rw [exec_Assign_Name_used _ _ _ _ hsw]
  refine wpAny_bind (wpAny_standAt (wpAny_bind ?_))
  show wpAny _ X.A (do let _ ← comprehension (.ListComp elt [⟨tg, iter, ifs, 0⟩] scope pos) scope X.env (firstIterPos [⟨tg, iter, ifs, 0⟩] pos) (newList []) false (eval iter X.env) (some (assign (.Name y p) X.env))) _ _ s
  refine wpAny_bind (wpAny_mono (comp_core (Qf := fun _ s' => SkP X T pins G (RS.ofE ρ (eComp (own.map (·.2)) mi g tt me ρ st) k) .next s') (E := SxP X T pins G (RS.ofE ρ (eComp (own.map (·.2)) mi g tt me ρ st) k)) hc hN hi ok hw hg ht he hs I (ofE_l h) (fun x s1 z => z.sx fun ex st' e1 => by rw [e1]; rfl) fun Da C s' m' acc st' G' e1 x1 J r h0 hn f => ?_) (fun _ s' hq => wpAny_pure (wpAny_pure hq)) fun _ _ z => z)
  show wpAny _ _ (assign (.Name y p) X.env (.ref Da)) _ _ _
  rw [e1, ofE_ok] at h ⊢
  refine wpAny_assign_Name (wpAny_mono (hk Da C s' m' acc st' G' h x1 J r h0 hn f) (fun _ s2 ⟨a, ⟨sb, ha⟩, q⟩ => ?_) fun _ _ z => z)
  obtain ⟨f0, f1, f2, f3, f4, f5⟩ := f
  have haC : C ≠ a := by
    rcases ha with z | z
    · rw [z]; exact f1
    · exact fun e => f4 y a z e.symm
  exact ⟨m', hn.sameBut sb haC, q⟩
end
end DL
namespace DL
open PySem PySem.Spec PyProof.Rows L2
section
variable {X : Cx} {T : Fx} {pins : List (Addr × Obj)} {G G1 : Gh} {ρ ρ1 : Env_} {st st1 : Store} {s s1 s' : Shared} {e a b c o tg iter elt : Expr} {es ifs : List Expr} {m ma mb mc mo me : EM} {ml mi : EL} {pos p2 p apos pos' spos : Pos} {x y z : Str} {sm : Stmt} {sms body : List Stmt} {k1 k2 : SM} {tc tt : EB} {it : Addr} {xs : List D} {i : Nat} {g : AG} {scope : Scope} {own : List (Str × Nat)}
theorem ds_setComp (hsw : swapsWith (.ListComp elt [⟨tg, iter, ifs, 0⟩] scope pos) (some (.Name y p)) spos.line X.env = pure true) (hc : X.calm = true) (hN : X.N.Nodup) (hy : X.N[i]? = some y) (hyl : X.env.scope.names.lookup y = some .local) (hi : DI X T iter mi) (ok : BlkOk X.N X.env.scope scope own) (hw : Owns (own.map (·.2)) g)
    (hg : ∀ (s : Shared) (H : Hp) (C : Addr) (cl : List (Str × Addr)) (fp : List Addr), DG (X.blk s H scope (compEnvC scope cl C X.env) fp) T tg g) (ht : ∀ (s : Shared) (H : Hp) (C : Addr) (cl : List (Str × Addr)) (fp : List Addr), DTs (X.blk s H scope (compEnvC scope cl C X.env) fp) T ifs tt)
    (he : ∀ (s : Shared) (H : Hp) (C : Addr) (cl : List (Str × Addr)) (fp : List Addr), DE (X.blk s H scope (compEnvC scope cl C X.env) fp) T elt me) (hs : ∀ x, foldedSetIterable iter X.env x = pure x := by intro _; rfl) :
    DS X T (.Assign [.Name y p] (.ListComp elt [⟨tg, iter, ifs, 0⟩] scope pos) spos) (sAsg i (eComp (own.map (·.2)) mi g tt me)) := .mk fun pins s G ρ st I h => by
  refine set_comp (k := fun d st1 => if plain (frz d) = true then .go .nx (ρ.set i (some (frz d))) st1 else .bad) hsw hc hN hi ok hw hg ht he hs I h fun Da C s' m' acc st' G' hk x1 J r h0 hn f => ?_
  obtain ⟨ob, us, q1, q2, q3, q4, q5⟩ := (show ∃ ob us, G'.H Da = some (mu Da ob) ∧ Da ∉ G'.as ∧ Da ∉ G'.ow ∧ LstO ob us ∧ Reps T.T G' s'.toks acc us from by
    obtain ⟨a, ob, us, e, r⟩ := r
    cases e
    exact ⟨ob, us, r⟩)
  obtain ⟨J2, x2⟩ := freeze J x1 q1 q2 q3 h0 (I.ext.dom Da h0)
  have nC : C ≠ Da := fun e => by
    rw [← e, f.1] at q1
    cases q1
  have r2 : Rep T.T (kn G' Da ob) s'.toks (.lst acc) (.ref Da) := ⟨Da, ob, us, rfl, upd_same, q4, Reps.kn q1 q5⟩
  refine set_run2 J2 hN hy (.inl hyl) r2 rfl (plain_ho rfl) (fun s2 J3 hn3 ⟨a, sb⟩ => ⟨a, sb, fun h'' sb2 => ?_⟩) (.inr hyl)
  exact ⟨.nx, _, st', _, rfl, x2.sx, J3.turned (t' := s2.toks) ⟨(upd_ne nC).trans f.1, f.2⟩ (fun b o hb e => (sb2.2 b hb).trans e) (Nat.le_refl _), rfl⟩
theorem ds_setCompO (hfn : T.fn = true) (hsw : swapsWith (.ListComp elt [⟨tg, iter, ifs, 0⟩] scope pos) (some (.Name y p)) spos.line X.env = pure true) (hc : X.calm = true) (hN : X.N.Nodup) (hy : X.N[i]? = some y) (hyl : X.env.scope.names.lookup y = some .local) (hi : DI X T iter mi) (ok : BlkOk X.N X.env.scope scope own) (hw : Owns (own.map (·.2)) g)
    (hg : ∀ (s : Shared) (H : Hp) (C : Addr) (cl : List (Str × Addr)) (fp : List Addr), DG (X.blk s H scope (compEnvC scope cl C X.env) fp) T tg g) (ht : ∀ (s : Shared) (H : Hp) (C : Addr) (cl : List (Str × Addr)) (fp : List Addr), DTs (X.blk s H scope (compEnvC scope cl C X.env) fp) T ifs tt)
    (he : ∀ (s : Shared) (H : Hp) (C : Addr) (cl : List (Str × Addr)) (fp : List Addr), DE (X.blk s H scope (compEnvC scope cl C X.env) fp) T elt me) (hs : ∀ x, foldedSetIterable iter X.env x = pure x := by intro _; rfl) :
    DS X T (.Assign [.Name y p] (.ListComp elt [⟨tg, iter, ifs, 0⟩] scope pos) spos) (sAsgO i (eComp (own.map (·.2)) mi g tt me)) := .mk fun pins s G ρ st I h => by
  refine set_comp (k := fun d st1 => match newL d with | some l => .go .nx (ρ.set i (some (.own i l))) st1 | none => .bad) hsw hc hN hi ok hw hg ht he hs I h fun Da C s' m' acc st' G' hk x1 J r h0 hn f => ?_
  obtain ⟨ob, us, q1, q2, q3, q4, q5⟩ := (show ∃ ob us, G'.H Da = some (mu Da ob) ∧ Da ∉ G'.as ∧ Da ∉ G'.ow ∧ LstO ob us ∧ Reps T.T G' s'.toks acc us from by
    obtain ⟨a, ob, us, e, r⟩ := r
    cases e
    exact ⟨ob, us, r⟩)
  have sx : SExt G' ⟨G'.H, G'.as, Da :: G'.ow, setOa G'.oa i Da⟩ := ⟨fun _ _ q => q, fun _ _ q => q⟩
  have J2 := to_own (i := i) J q1 q3 (I.ext.dom Da h0) hfn
  have r2 : Rep T.T ⟨G'.H, G'.as, Da :: G'.ow, setOa G'.oa i Da⟩ s'.toks (.own i acc) (.ref Da) := ⟨Da, ob, us, rfl, q1, q2, List.mem_cons_self, if_pos rfl, q4, Reps.smono sx (Nat.le_refl _) q5⟩
  refine set_run2 J2 hN hy (.inl hyl) r2 rfl (fun _ j c e => by cases e; rfl) (fun s2 J3 hn3 ⟨a, sb⟩ => ⟨a, sb, fun h'' sb2 => ?_⟩) (.inr hyl)
  rw [List.set_set] at J3
  exact ⟨.nx, _, st', _, rfl, x1.sx.trans sx, J3.turned (t' := s2.toks) f (fun b o hb e => (sb2.2 b hb).trans e) (Nat.le_refl _), rfl⟩
/-- a name's own list, from here on known to all -/
def frzAt (ρ : Env_) (i : Nat) : Env_ := match ownAt ρ i with
  | some l => ρ.set i (some (.lst l))
  | none => ρ
end
end DL
namespace DL
open PySem PySem.Spec PyProof.Rows L2
/-! ### the head: texts of the module with their tokens -/
def tokB (K : PySem.W.Frag) (T : Nat) (x : Str) : Bool := match PySem.W.nsIn K mainGlobals x with
  | some (some (.str _ t)) => Nat.ble 1 t && Nat.blt t T
  | _ => false
theorem gstr_tok {K : PySem.W.Frag} {h : Heap} {mg : Str → Option Value} {T : Nat} (X : K.In h) (G : h.Ns mainGlobals mg) {x z : Str} (c : (He.Fa.str x z).ok K = true) (d : tokB K T x = true) : ∃ t, mg x = some (.str z t) ∧ 0 < t ∧ t < T := by
  obtain ⟨t, e⟩ := He.str_ok X G c
  unfold tokB at d
  cases q : PySem.W.nsIn K mainGlobals x with
  | none => rw [q] at d; cases d
  | some o =>
    rw [q] at d
    cases o with
    | none => cases d
    | some v =>
      have e2 := PySem.W.mg_of X G q
      rw [e] at e2
      cases e2
      obtain ⟨d1, d2⟩ := Bool.and_eq_true_iff.mp (show (Nat.ble 1 t && Nat.blt t T) = true from d)
      exact ⟨t, e, Nat.le_of_ble_eq_true d1, Nat.le_of_ble_eq_true d2⟩
/-! ### a def's own table of code objects -/
def codeV : Value → Option Addr
  | .ref c => some c
  | _ => none
theorem codeV_ref {v : Value} {c : Addr} (e : codeV v = some c) : v = .ref c := by
  cases v with
  | ref c' => cases e; rfl
  | _ => cases e
def codeAt (K : PySem.W.Frag) (a : Addr) : Option Addr := match K.lookup a with
  | some ⟨_, _, .func fd, _⟩ => codeV fd.code
  | _ => none
def codeOf (K : PySem.W.Frag) (x : Str) : Option Addr := codeAt K (He.ga K x)
def tabOf (K : PySem.W.Frag) (x : Str) : Option Addr := match codeOf K x with
  | some c => (match K.lookup c with
    | some ⟨_, _, .fields vs, _⟩ => (match (vs[11]? : Option Value) with
      | some (.ref P) => some P
      | _ => none)
    | _ => none)
  | none => none
def tabsB (K : PySem.W.Frag) (tl : List Str) : Bool := decide ((tl.map (tabOf K)).Nodup) && tl.all fun x => (He.Fa.glo x).ok K && (match tabOf K x with
  | some P => (K.lookup P).isNone
  | none => false)
/-- an empty record: a table as yet without code objects -/
def tabLike (g : Addr → Option Obj) (a : Addr) : Bool := match g a with
  | some ⟨.none, none, .fields vs, _⟩ => vs.size == 0
  | _ => false
/-- what is seen of the heap, without the tables -/
def asT (g : Addr → Option Obj) (n : Nat) : List Addr := (cStatics :: He.asD g n).filter fun a => !tabLike g a
abbrev AlT : Type := He.AlD × Bool
def SaysT (fa : List He.Fa) (fn : List He.DefD) (ts : List Str) (T : Nat) (tl : List Str) (xk : PySem.W.Frag → Bool) (K : PySem.W.Frag) : Prop := He.SaysD fa fn K ∧ (ts.all fun x => tokB K T x) = true ∧ tabsB K tl = true ∧ xk K = true
def obsT (n : Nat) (fa : List He.Fa) (fn : List He.DefD) (ts : List Str) (T : Nat) (tl : List Str) (xk : PySem.W.Frag → Bool) (g : Addr → Option Obj) (k : Nat) : AlT :=
  (He.obsD fa fn (He.frG g (asT g n)), (ts.all fun x => tokB (He.frG g (asT g n)) T x) && (tabsB (He.frG g (asT g n)) tl && (xk (He.frG g (asT g n)) && Nat.ble T k)))
theorem obsT_says {fa : List He.Fa} {fn : List He.DefD} {ts tl : List Str} {xk : PySem.W.Frag → Bool} {T n : Nat} {g : Addr → Option Obj} {k : Nat} (e : obsT n fa fn ts T tl xk g k = (He.valD fn, true)) : SaysT fa fn ts T tl xk (He.frG g (asT g n)) ∧ T ≤ k := by
  have e1 := congrArg Prod.fst e
  have e2 : ((ts.all fun x => tokB (He.frG g (asT g n)) T x) && (tabsB (He.frG g (asT g n)) tl && (xk (He.frG g (asT g n)) && Nat.ble T k))) = true := congrArg Prod.snd e
  simp only [Bool.and_eq_true] at e2
  exact ⟨⟨e1, e2.1, e2.2.1, e2.2.2.1⟩, Nat.le_of_ble_eq_true e2.2.2.2⟩
def hookT (n : Nat) (fa : List He.Fa) (fn : List He.DefD) (ts : List Str) (T : Nat) (tl : List Str) (xk : PySem.W.Frag → Bool) : PySem.W.Hook where
  α := AlT
  obs := fun s => obsT n fa fn ts T tl xk s.heap.get? s.toks
  val := fun _ => (He.valD fn, true)
  says := fun _ h => ∃ K : PySem.W.Frag, K.In h ∧ SaysT fa fn ts T tl xk K
  of := fun _ _ e => ⟨_, He.frG_in, (obsT_says e).1⟩
  keeps := fun _ _ _ ⟨K, hK, c⟩ k => ⟨K, PySem.W.Frag.In.keeps hK k, c⟩
theorem hookT_tok {n : Nat} {fa : List He.Fa} {fn : List He.DefD} {ts tl : List Str} {xk : PySem.W.Frag → Bool} {T : Nat} {w : World} {s : Shared} (e : (hookT n fa fn ts T tl xk).obs s = (hookT n fa fn ts T tl xk).val w) : T ≤ s.toks := (obsT_says e).2
theorem obsT_eq {n : Nat} {fa : List He.Fa} {fn : List He.DefD} {ts tl : List Str} {xk : PySem.W.Frag → Bool} {T : Nat} {g : Addr → Option Obj} {s : Shared} (h : ∀ a, g a = s.heap.get? a) : obsT n fa fn ts T tl xk g s.toks = (hookT n fa fn ts T tl xk).obs s := by
  have e : g = s.heap.get? := funext h
  rw [e] <;> rfl
open PySem.W PySem.Calls in
theorem head_anyX {r : OpenRow} {q : Program} {H : Hook} {ob : SharedT → H.α} {M : Nat} {loose : List PySem.Str} {d : DefRec} {kwd : List (PySem.Str × PySem.Expr)} (ho : ∀ s : SharedT, ob s = H.obs s.abs)
    (e : opening r.prog = plainProg r.prog.main.scope.names) (f : ∀ s, fenceModules? r.prog s = some s) (run : ∀ w, HandSHeadRun.RunEq r q H ob M loose w)
    (hdef : defOf q r.name = some (d, kwd)) (hp : r.prog.theDef r.name = some (d.params, d.body, d.scope)) (hk : kwWritten? d.params.kwonlyargs d.params.kw_defaults = some kwd)
    (hwr : (!r.writes || r.records.isEmpty) = true) (k1 : r.wellSaid = true) (ok : (chainsOk q && opensWell r.prog && (frees r.toRowW && r.within.isEmpty)) = true) (hb : r.prog.bare) (hw : r.toRowW.promised)
    (call : WalkX q loose (XL q []) H.obs H.val r.toRowW d kwd fun f vs => PySem.call f vs) : r.Holds := by
  have left : LeftO r.prog q loose (fun s => xlAt q [] s && recOk r.toRowW.records s) H.obs H.val (M + 600) true :=
    HandSHeadRun.left_one (M := M) e (Nat.ble_eq_true_of_le (by omega)) f (Nat.ble_eq_true_of_le (by omega)) fun w os => by
      have z := run w os
      have eo : ob = fun s => H.obs s.abs := funext ho
      rw [eo] at z
      simp only [HandSHeadRun.endQ_eq, HandSHeadRun.seenQ_eq]
      exact z
  exact holds_openX (r := r) (q := q) (loose := loose) (XP := XL q []) (d := d) (kwd := kwd) left (fun s z => xl_of s (Bool.and_eq_true_iff.mp z).1) XL.keeps hdef hp hk (fun s z => recFacts_of (Bool.and_eq_true_iff.mp z).2) hwr k1 ok hb hw call
theorem ofPys_ints : ∀ ns : List Int, PySem.W.ofPys (ns.map PyData.int) = ns.map PySem.W.WData.int
  | [] => rfl
  | n :: ns => by rw [List.map_cons, PySem.W.ofPys, ofPys_ints ns]; rfl
open PySem.W PySem.Calls in
theorem attach_callX {l : OpenLaw} {n : Nat} {q : Program} {loose : List Str} {XP : (Str → Option Value) → Heap → Prop} {α : Type} {Yf : Shared → α} {Ya : World → α} {d : DefRec}
    (hn : l.most = some n) (hdf : d.params.defaults = [])
    (call : ∀ (w : World) (s₀ s₁ : Shared) (mg mb : Str → Option Value) (fa a : Addr) (vs : List Value) (ns : List Int),
      Ground q loose [] XP w s₀ mg mb s₁.heap → Yf s₀ = Ya w → (∀ b o, s₀.heap.get? b = some o → s₁.heap.get? b = some o) → a = s₀.heap.objs.size → s₀.toks ≤ s₁.toks →
      mg d.name = some (.ref fa) → s₁.heap.get? a = some { cls := .type "list", data := .seq vs.toArray } → IntsAre vs ns → ns.length ≤ n → s₁.gens = #[] →
      codeAny (model l.prog w) callerA (.call (.ref fa) ⟨[.ref a], []⟩) (fun r s' => r = .ok (.ret (.bool true)) ∧ OldK s₁.heap s'.heap ∧ s'.os = s₁.os ∧ AllBare s'.gens) s₁) :
    WalkX q loose XP Yf Ya l.row.toRowW d [] (fun f vs => PySem.call f vs) := by
  intro w s₀ s₁ mg mb G Y fa o pm cd doc dV kV ho hd hcd hD hmg hg args vals as hL hpre hlay hrd hwl hlo
  obtain rfl : dV = .none := Dflts.none hD hdf
  obtain rfl : kV = .none := Dflts.noKw hD
  obtain ⟨a, vs, ns, rfl, rfl, hobj, hints, hlen⟩ := Att.script_of hn hpre hwl
  have L2 := hL
  rw [← ofPys_ints ns] at L2
  have hat := (X.script_at L2).1
  have htk := X.script_toks L2 rfl
  refine enter_call (codeAny_mono (call w s₀ s₁ mg mb fa a vs ns G Y hL.keeps hat htk hmg hobj hints hlen hg) fun r s' hq => ?_)
  obtain ⟨rfl, h2, h3, h4⟩ := hq
  exact ⟨.inl ⟨.bool true, .bool true, [], rfl, fun _ => rfl, .bool true, Att.post_true l _, fun _ => ⟨List.Pairwise.nil, fun _ hm => (nomatch hm)⟩⟩, h2, h3, h4⟩
/-- one table: the code object c's, at P; its lambdas' name -/
structure TabF (h : Heap) (K : PySem.W.Frag) (c P : Addr) : Prop where
  emp : h.get? P = some { cls := .none, data := .fields #[] }
  code : PySem.W.CodeHd h c P
  out : K.lookup P = none
/-- the script and the empty tables in the ghost -/
def ghS (a : Addr) (o : Obj) (Ps : List Addr) : Gh := ⟨fun b => if b = a then some (fz o) else if b ∈ Ps then some (.tbl #[]) else none, Ps, [], fun _ => none⟩
abbrev BMain (mg : Str → Option Value) (h : Heap) : Prop := ∃ bm ob, mg "__builtins__" = some (.ref bm) ∧ bm ≠ builtinsNs ∧ h.get? bm = some ob ∧ ob.cls = .type "module" ∧ ob.dict = some builtinsNs ∧ ob.data = .plain
theorem law_callD {P : Program} {w : World} {K : PySem.W.Frag} {mg mb : Str → Option Value} {T k : Nat} {fa a : Addr} {fd : FuncData} {x : Str} {F : FM} {s₁ : Shared} {vs : List Value} {ns : List Int} {tbs : List (Addr × Addr × Str)}
    (KX : K.In s₁.heap) (hns : s₁.heap.Ns mainGlobals mg) (hb : s₁.heap.Ns builtinsNs mb) (hbb : ∀ x : Str, x ≠ "__name__" → mb x = bootBuiltins x) (hlim : s₁.heap.NoLimit) (hg : s₁.gens = #[])
    (ha : s₁.heap.get? a = some { cls := .type "list", data := .seq vs.toArray }) (hi : IntsAre vs ns) (hl : ns.length ≤ sizeLine) (hr : Room k callerA) (hK : K.lookup a = none) (hT : T ≤ s₁.toks) (hp : 0 < T)
    (tabs : ∀ p ∈ tbs, TabF s₁.heap K p.1 p.2.1) (nd : (tbs.map (·.2.1)).Nodup) (bmn : BMain mg s₁.heap)
    (Fn : ∀ base : Heap, K.In base → base.Ns mainGlobals mg → (∀ p ∈ tbs, LamX.TabB base mg p.1 p.2.1) → FnD P w K mg base ⟨T, mg, tbs.map (·.2.1), w⟩ k fa fd [x] F) (hbind : ∀ (s : Shared) (u : Value), BindsTo s fd ⟨[u], []⟩ [(x, u)])
    (hF : ∃ st, F [.scr ns] (tbs.map fun p => .tbl p.2.2) = .ok (.bl true) st) :
    codeAny (model P w) callerA (.call (.ref fa) ⟨[.ref a], []⟩) (fun r s' => r = .ok (.ret (.bool true)) ∧ OldK s₁.heap s'.heap ∧ s'.os = s₁.os ∧ AllBare s'.gens) s₁ := by
  have lenV := hi.length
  obtain ⟨o, eo⟩ : ∃ o : Obj, o = { cls := .type "list", data := .seq vs.toArray } := ⟨_, rfl⟩
  rw [← eo] at ha
  obtain ⟨Ps, ePs⟩ : ∃ Ps : List Addr, Ps = tbs.map (·.2.1) := ⟨_, rfl⟩
  have inP : ∀ b, b ∈ Ps → ∃ p ∈ tbs, p.2.1 = b := fun b hb => by
    rw [ePs] at hb
    exact List.mem_map.mp hb
  have empP : ∀ b, b ∈ Ps → s₁.heap.get? b = some { cls := .none, data := .fields #[] } := fun b hb => by
    obtain ⟨p, hp', rfl⟩ := inP b hb
    exact (tabs p hp').emp
  have aP : a ∉ Ps := fun z => by
    have q := empP a z
    rw [ha, eo] at q
    cases q
  obtain ⟨H, eH⟩ : ∃ H : Hp, H = (ghS a o Ps).H := ⟨_, rfl⟩
  have Ha : H a = some (fz o) := by rw [eH]; exact if_pos rfl
  have HP : ∀ b, b ∈ Ps → H b = some (.tbl #[]) := fun b hb => by
    rw [eH]
    exact (if_neg (fun z : b = a => aP (z ▸ hb))).trans (if_pos hb)
  have Hn : ∀ b, b ≠ a → b ∉ Ps → H b = none := fun b hb hb2 => by rw [eH]; exact (if_neg hb).trans (if_neg hb2)
  have hok : HOk P w H s₁.heap := fun b u z => by
    by_cases e : b = a
    · subst e
      rw [Ha] at z
      cases z
      exact ok_fz ha
    · by_cases e2 : b ∈ Ps
      · rw [HP b e2] at z
        cases z
        exact empP b e2
      · rw [Hn b e e2] at z; cases z
  -- what is neither a list nor an empty record is not in the ghost
  have noH : ∀ {b : Addr} {o' : Obj}, s₁.heap.get? b = some o' → (∀ vs n, o'.data ≠ .seq vs n) → o'.data ≠ .fields #[] → H b = none := fun {b o'} e d1 d2 => by
    refine Hn b (fun q => ?_) fun q => ?_
    · rw [q, ha] at e
      cases e
      exact d1 _ _ (by rw [eo])
    · rw [empP b q] at e
      cases e
      exact d2 rfl
  have base_of : ∀ {b : Addr} {o : Obj}, s₁.heap.get? b = some o → H b = none → (hidT s₁.heap H).get? b = some o := fun e n => hidT_get e n
  have noA : ∀ {b : Addr} {o' : Obj} {es : Array DictEntry} {ep : Nat}, s₁.heap.get? b = some o' → o'.data = .dict es ep → H b = none := fun {b o' es ep} e d =>
    noH e (fun vs n z => by rw [d] at z; cases z) fun z => by rw [d] at z; cases z
  have nsK : ∀ {b : Addr} {m : Str → Option Value}, s₁.heap.Ns b m → (hidT s₁.heap H).Ns b m := fun {b m} ⟨o, es, ep, e, d, r⟩ => ⟨o, es, ep, base_of e (noA e d), d, r⟩
  have hKb : K.In (hidT s₁.heap H) := fun b o' e => base_of (KX b o' e) (Hn b (fun q => by subst q; rw [hK] at e; cases e) fun q => by
    obtain ⟨p, hp', rfl⟩ := inP b q
    rw [(tabs p hp').out] at e
    cases e)
  have hM : Mod K mg (hidT s₁.heap H) := ⟨hKb, nsK hns, ⟨mb, nsK hb, hbb⟩, let ⟨mc, h1, h2⟩ := hlim; ⟨mc, nsK h1, h2⟩⟩
  have TB : ∀ p ∈ tbs, LamX.TabB (hidT s₁.heap H) mg p.1 p.2.1 := fun p hp' => by
    obtain ⟨emp, code, _⟩ := tabs p hp'
    refine ⟨?_, ?_, fun z => ?_⟩
    · obtain ⟨oc, us, file, tf, flags, tg, inF, text, tt, c1, c2, c3, c4, r⟩ := code
      refine ⟨oc, us, file, tf, flags, tg, inF, text, tt, base_of c1 (noH c1 (fun us' n z => by rw [c3] at z; cases z) fun z => ?_), c2, c3, c4, r⟩
      rw [c3] at z
      cases z
      simp at c4
    · obtain ⟨bm, ob, b1, b2, b3, b4, b5, b6⟩ := bmn
      refine ⟨bm, ob, b1, b2, fun q => ?_, fun q => ?_, base_of b3 (noH b3 (fun us' n z => by rw [b6] at z; cases z) fun z => by rw [b6] at z; cases z), b4, b5, b6⟩
      · obtain ⟨og, es, ep, g1, g2, _⟩ := hns
        rw [q, g1] at b3
        cases b3
        rw [g2] at b6
        cases b6
      · rw [q, emp] at b3
        cases b3
        cases b6
    · obtain ⟨og, es, ep, g1, g2, _⟩ := hns
      rw [z, emp] at g1
      cases g1
      cases g2
  have e0 : Env0 P w K mg (hidT s₁.heap H) callerA [] s₁ H := ⟨rfl, hM, fun b o e => of_hidT e, Nat.le_of_eq (hidT_size _ _), trivial, fun b hb => absurd (show b ∈ ([] : List Addr) from hb) (by simp), hok, .of_eq hg⟩
  obtain ⟨st', eF⟩ := hF
  have cs : CallSt P w K mg (hidT s₁.heap H) callerA [] ⟨T, mg, tbs.map (·.2.1), w⟩ (ghS a o Ps) (tbs.map fun p => .tbl p.2.2) s₁ := by
    refine ⟨by rw [eH] at e0 ⊢; exact e0, ⟨?_, by rw [ePs] at *; exact nd, fun j b c h1 h2 => ?_⟩, hT, hp, (fun b h => by cases h), fun j Q h => by rw [← ePs] at h; exact h⟩
    · show Ps.length = _
      rw [ePs]
      simp
    · have hb : b ∈ Ps := List.mem_of_getElem? h1
      rw [List.getElem?_map] at h2
      cases q : tbs[j]? with
      | none => rw [q] at h2; cases h2
      | some p =>
        rw [q] at h2
        cases h2
        refine ⟨#[], ?_, True.intro, fun pos cv hc => ?_⟩
        · have := HP b hb
          rw [eH] at this
          exact this
        · have z : codeAmong pos [] = some cv := hc
          simp [codeAmong] at z
  have rp : Reps ⟨T, mg, tbs.map (·.2.1), w⟩ (ghS a o Ps) s₁.toks [.scr ns] [.ref a] := ⟨_, _, rfl, rfl, ⟨a, o, vs, rfl, by rw [← eH]; exact Ha, ⟨⟨_, eo⟩, by rw [lenV]; exact hl⟩, hi⟩, rfl⟩
  refine codeAny_mono ((Fn _ hKb (nsK hns) TB).run callerA [] s₁ (ghS a o Ps) (tbs.map fun p => .tbl p.2.2) ⟨[.ref a], []⟩ [.ref a] [.scr ns] hr cs (hbind s₁ (.ref a)) rp rfl (by rw [eF]; exact fun z => by cases z)) fun r s' h => ?_
  rw [eF] at h
  cases r with
  | error e =>
    obtain ⟨_, _, _, _, _, _, _, _, _, _, _, _, _, _, _, _, z, _⟩ := h
    cases z
  | ok fl =>
    cases fl with
    | next => exact False.elim h
    | brk => exact False.elim h
    | cont => exact False.elim h
    | ret u =>
      obtain ⟨d, st2, G', q1, os, bare, un, hok', xt, sto, rd, nw⟩ := h
      cases q1
      obtain rfl : u = Value.bool true := rd
      have stay : ∀ b o', b ∉ Ps → s₁.heap.get? b = some o' → s'.heap.get? b = some o' := fun b o' hb e => by
        by_cases q : b = a
        · subst q
          have z2 := xt.fr b o (by rw [← eH]; exact Ha)
          obtain ⟨e2, _⟩ := hok' b _ z2
          rw [ha] at e
          cases e
          exact e2
        · exact un.keep b o' e (by rw [← eH]; exact Hn b q hb) (by intro z; exact absurd (show b ∈ ([] : List Addr) from z) (by simp)) (by simp)
      have grow : ∀ b, b ∈ Ps → ∃ more : Array Value, s'.heap.get? b = some { cls := .none, data := .fields more } := fun b hb => by
        obtain ⟨more, z⟩ := un.tbls b #[] (by rw [← eH]; exact HP b hb)
        exact ⟨_, hok' b _ z⟩
      refine ⟨rfl, ⟨fun b o' e => ?_, fun b o' e => ?_⟩, os, bare⟩
      · by_cases hb : b ∈ Ps
        · obtain ⟨more, hm⟩ := grow b hb
          have e1 := empP b hb
          rw [e] at e1
          cases e1
          obtain ⟨p, hp', rfl⟩ := inP b hb
          refine .inr (.inl ⟨((tabs p hp').code.tab (tabs p hp').emp).isCodeTable, rfl, #[], more, rfl, ?_⟩)
          rw [Array.empty_append]
          exact hm
        · exact .inl (stay b o' hb e)
      · by_cases hb : b ∈ Ps
        · obtain ⟨more, hm⟩ := grow b hb
          exact ⟨_, hm⟩
        · exact ⟨o', stay b o' hb e⟩
/-- what is known of a def's table -/
structure TabW (K : PySem.W.Frag) (mg : Str → Option Value) (base : Heap) (tb : List Addr) (x : Str) (j : Nat) : Prop where
  ex : ∃ c P, codeOf K x = some c ∧ LamX.TabB base mg c P ∧ tb[j]? = some P
theorem nodup_opt : ∀ {l : List (Option Addr)} {m : List Addr}, l.Nodup → l = m.map some → m.Nodup
  | l, m, h, e => by
    subst e
    induction m with
    | nil => exact List.nodup_nil
    | cons a m ih =>
      rw [List.map_cons, List.nodup_cons] at h
      rw [List.nodup_cons]
      exact ⟨fun z => h.1 (List.mem_map.mpr ⟨a, z, rfl⟩), ih h.2⟩
theorem tabs_pick {h : Heap} {K : PySem.W.Frag} : ∀ {tl : List (Str × Str)}, (∀ p ∈ tl, ∃ cP : Addr × Addr, codeOf K p.1 = some cP.1 ∧ tabOf K p.1 = some cP.2 ∧ TabF h K cP.1 cP.2) →
    ∃ tbs : List (Addr × Addr × Str), tl.map (fun p => tabOf K p.1) = (tbs.map (·.2.1)).map some ∧ (tbs.map (·.2.2)) = tl.map (·.2) ∧ (∀ p ∈ tbs, TabF h K p.1 p.2.1) ∧ ∀ (j : Nat) p, tl[j]? = some p → ∃ r, tbs[j]? = some r ∧ codeOf K p.1 = some r.1
  | [], _ => ⟨[], rfl, rfl, fun _ h => (by cases h), fun j p h => by simp at h⟩
  | p :: tl, one => by
    obtain ⟨tbs, i1, i2, i3, i4⟩ := tabs_pick (fun p' h' => one p' (List.mem_cons_of_mem _ h'))
    obtain ⟨⟨cc, P⟩, o1, o2, o3⟩ := one p (List.mem_cons_self ..)
    refine ⟨(cc, P, p.2) :: tbs, by simp [i1, o2], by simp [i2], fun r hr' => ?_, fun j p' h => ?_⟩
    · rcases List.mem_cons.mp hr' with e | e
      · subst e; exact o3
      · exact i3 r e
    · cases j with
      | zero => simp at h; subst h; exact ⟨_, rfl, o1⟩
      | succ j => exact i4 j p' (by simpa using h)
open PySem.W PySem.Calls in
/-- a law: its def's meaning answers true at every script -/
theorem walk_ofX {l : OpenLaw} {n k : Nat} {q : Program} {loose : List Str} {XP : (Str → Option Value) → Heap → Prop} {d : DefRec} {m : Nat} {fa : List He.Fa} {fn : List He.DefD} {ts : List Str} {T : Nat} {tl : List (Str × Str)} {xk : PySem.W.Frag → Bool} {x : Str} {F : FM}
    (hn : l.most = some n) (hn2 : n ≤ sizeLine) (hdf : d.params.defaults = []) (hr : Room k callerA) (hp : 0 < T) (htl : (tl.all fun p => (recsOf q).any fun d => d.name == p.1) = true)
    (Fn : ∀ (w : World) (mg : Str → Option Value) (f : Addr) (h : Heap) (K : Frag), K.In h → h.Ns mainGlobals mg → mg d.name = some (.ref f) → SaysT fa fn ts T (tl.map (·.1)) xk K →
      ∃ fd : FuncData, (∀ (s : Shared) (u : Value), BindsTo s fd ⟨[u], []⟩ [(x, u)]) ∧ ∀ (base : Heap) (tb : List Addr), K.In base → base.Ns mainGlobals mg → (∀ (j : Nat) p, tl[j]? = some p → TabW K mg base tb p.1 j) → FnD l.prog w K mg base ⟨T, mg, tb, w⟩ k f fd [x] F)
    (hF : ∀ ns : List Int, ns.length ≤ n → ∃ st, F [.scr ns] (tl.map fun p => .tbl p.2) = .ok (.bl true) st) :
    WalkX q loose XP (hookT m fa fn ts T (tl.map (·.1)) xk).obs (hookT m fa fn ts T (tl.map (·.1)) xk).val l.row.toRowW d [] (fun f vs => PySem.call f vs) := by
  refine attach_callX hn hdf fun w s₀ s₁ mg mb f a vs ns G Y keeps hat htk hmg hobj hints hlen hg => ?_
  have hTs := hookT_tok Y
  have KX0 : (He.frG s₀.heap.get? (asT s₀.heap.get? m)).In s₀.heap := He.frG_in
  have c : SaysT fa fn ts T (tl.map (·.1)) xk (He.frG s₀.heap.get? (asT s₀.heap.get? m)) := (obsT_says Y).1
  generalize He.frG s₀.heap.get? (asT s₀.heap.get? m) = K at KX0 c
  have KX : K.In s₁.heap := Frag.In.keeps KX0 keeps
  have hK : K.lookup a = none := by
    cases e : K.lookup a with
    | none => rfl
    | some o => exact absurd (Heap.lt_size (KX0 a o e)) (by rw [hat]; exact Nat.lt_irrefl _)
  obtain ⟨fd, hb, hFn⟩ := Fn w mg f _ K KX G.T.g hmg c
  -- the tables
  have c3 : tabsB K (tl.map (·.1)) = true := c.2.2.1
  unfold tabsB at c3
  obtain ⟨c4, c5⟩ := Bool.and_eq_true_iff.mp c3
  have c4 := of_decide_eq_true c4
  rw [List.all_eq_true] at c5 htl
  have one : ∀ p ∈ tl, ∃ cP : Addr × Addr, codeOf K p.1 = some cP.1 ∧ tabOf K p.1 = some cP.2 ∧ TabF s₁.heap K cP.1 cP.2 := fun p hp' => by
    have h1 := htl p hp'
    rw [List.any_eq_true] at h1
    obtain ⟨dr, hd, he⟩ := h1
    have he : dr.name = p.1 := eq_of_beq he
    obtain ⟨g, og, fdg, cg, Pg, t1, t2, t3, t4, t5, t6⟩ := G.T.tab dr hd
    obtain ⟨h4, h5⟩ := Bool.and_eq_true_iff.mp (c5 p.1 (List.mem_map.mpr ⟨p, hp', rfl⟩))
    have hga := He.glo_ok KX G.T.g h4
    rw [he, hga] at t1
    cases t1
    cases eT : tabOf K p.1 with
    | none => rw [eT] at h5; cases h5
    | some P =>
      rw [eT] at h5
      have hP : K.lookup P = none := Option.isNone_iff_eq_none.mp h5
      have eT' := eT
      unfold tabOf at eT'
      cases eC : codeOf K p.1 with
      | none => rw [eC] at eT'; cases eT'
      | some cc =>
        rw [eC] at eT'
        have eC' := eC
        unfold codeOf codeAt at eC'
        have hfd : cc = cg := by
          split at eC'
          · next oc od fd' osl hl =>
            have hh := KX _ _ hl
            rw [hh] at t2
            cases t2
            have t3' : fd' = fdg := by injection t3
            rw [t3', t4] at eC'
            exact (Option.some.inj eC').symm
          · cases eC'
        subst hfd
        have hPg : P = Pg := by
          have eT2 : (match K.lookup cc with
            | some ⟨_, _, .fields vs, _⟩ => (match (vs[11]? : Option Value) with
              | some (.ref P) => some P
              | _ => none)
            | _ => none) = some P := eT'
          split at eT2
          · next oc od us osl hl =>
            have hh := KX _ _ hl
            obtain ⟨ob, vs', _, _, _, _, _, _, _, g1, _, g2, g3, _⟩ := PySem.W.CodeHd.of t5 t6
            rw [hh] at g1
            cases g1
            cases g2
            rw [g3] at eT2
            exact (Option.some.inj eT2).symm
          · cases eT2
        subst hPg
        exact ⟨(cc, P), rfl, rfl, t6.2, PySem.W.CodeHd.of t5 t6, hP⟩
  obtain ⟨tbs, p1, p2, p3, p4⟩ := tabs_pick one
  have nd : (tbs.map (·.2.1)).Nodup := nodup_opt c4 (by rw [List.map_map]; exact p1)
  have hF' : ∃ st, F [.scr ns] (tbs.map fun p => .tbl p.2.2) = .ok (.bl true) st := by
    have e : (tbs.map fun p => Cell.tbl p.2.2) = tl.map fun p => .tbl p.2 := by
      have := congrArg (List.map Cell.tbl) p2
      simpa [List.map_map, Function.comp_def] using this
    rw [e]
    exact hF ns hlen
  exact law_callD KX G.T.g G.T.b G.T.builtins G.T.nolimit hg hobj hints (Nat.le_trans hlen hn2) hr hK (Nat.le_trans hTs htk) hp p3 nd G.T.bmain (fun base hb1 hb2 hb3 => hFn base _ hb1 hb2 fun j p h => by
    obtain ⟨r, r1, r2⟩ := p4 j p h
    exact ⟨r.1, r.2.1, r2, hb3 r (List.mem_of_getElem? r1), by rw [List.getElem?_map, r1]; rfl⟩) hb hF'
end DL
namespace DL
open PySem PySem.Spec PyProof.Rows L2
/-! ### defs by name -/
/-- a def's meaning, its parameters counted -/
def fm (np n : Nat) (m : SM) : FM := fun ds st => if ds.length = np then runB n m ds st else .bad
theorem fm_len {np n : Nat} {m : SM} {ds : List D} {st : Store} (h : fm np n m ds st ≠ .bad) : ds.length = np := by
  unfold fm at h
  split at h
  · assumption
  · exact absurd rfl h
structure Fn (P : Program) (w : World) (K : PySem.W.Frag) (mg : Str → Option Value) (base : Heap) (T : Tx) (k : Nat) (x : Str) (ps : List Str) (F : FM) : Prop where
  ex : ∃ f fd, mg x = some (.ref f) ∧ PySem.W.keepIn K (.ref f) = true ∧ BindsD K T fd ps [] ∧ FnD P w K mg base T k f fd ps F
  len : ∀ ds st, F ds st ≠ .bad → ds.length = ps.length
def eFn (F : FM) (ml : EL) : EM := fun ρ st => (ml ρ st).bind fun ds st1 => if ds.all plain = true then F ds st1 else .bad
theorem eFn_eq (F : FM) (ml : EL) : eCall F [] ml = eFn F ml := by
  unfold eCall eFn
  simp only [List.append_nil]
section
variable {P : Program} {w : World} {K : PySem.W.Frag} {mg : Str → Option Value} {base : Heap} {T : Tx} {j k : Nat} {x qual : Str} {N ps : List Str} {F : FM} {params : Arguments} {body : List Stmt} {scope : Scope} {dvs : List V} {kws : List (Str × V)} {f : Addr} {fd : FuncData} {m : SM}
theorem Fn.mono (h : Fn P w K mg base T j x ps F) (hk : j ≤ k) : Fn P w K mg base T k x ps F := ⟨let ⟨f, fd, h1, h2, h3, h4⟩ := h.ex; ⟨f, fd, h1, h2, h3, h4.mono hk⟩, h.len⟩
/-- a def of no default; what is known of its code object -/
theorem fnd_makeC (hF : FunD K x qual params body scope [] [] f fd) (S : FnScope N ps scope)
    (hbody : ∀ (cdv : Value) (A : Around) (outer : List Env) (s : Shared) (G : Gh), (∀ c, codeAt K f = some c → cdv = .ref c) → Room k (A.deeper (envOfC qual scope s.heap.objs.size f cdv)) → DSs (BX P w K mg base N qual scope f cdv A outer s G.H) ⟨T, G, true, s.toks⟩ body m) :
    FnD P w K mg base T (k + 1) f fd ps (fm ps.length N.length m) := by
  obtain ⟨oc, od, dV, kV, doc, pm, an, cdv, ct, osl, rfl, lk, hcd, _, _⟩ := hF.ex
  have hc : ∀ c, codeAt K f = some c → cdv = .ref c := fun c e => by
    unfold codeAt at e
    rw [lk] at e
    exact codeV_ref (show codeV cdv = some c from e)
  have q := fnd_of lk hcd S (fun A outer s G hr => hbody cdv A outer s G hc hr)
  refine ⟨fun A outer s G st args us ds hr c hb r hl h => ?_⟩
  have e : fm ps.length N.length m ds st = runB N.length m ds st := by unfold fm; rw [if_pos hl]
  rw [e] at h ⊢
  exact q.run A outer s G st args us ds hr c hb r hl h
theorem fnd_make (hF : FunD K x qual params body scope [] [] f fd) (S : FnScope N ps scope)
    (hbody : ∀ (cdv : Value) (A : Around) (outer : List Env) (s : Shared) (G : Gh), Room k (A.deeper (envOfC qual scope s.heap.objs.size f cdv)) → DSs (BX P w K mg base N qual scope f cdv A outer s G.H) ⟨T, G, true, s.toks⟩ body m) :
    FnD P w K mg base T (k + 1) f fd ps (fm ps.length N.length m) := fnd_makeC hF S fun cdv A outer s G _ hr => hbody cdv A outer s G hr
theorem fn_makeC (hF : FunD K x qual params body scope [] [] f fd) (S : FnScope N ps scope) (g : mg x = some (.ref f)) (bs : Binds K fd ps [])
    (hbody : ∀ (cdv : Value) (A : Around) (outer : List Env) (s : Shared) (G : Gh), (∀ c, codeAt K f = some c → cdv = .ref c) → Room k (A.deeper (envOfC qual scope s.heap.objs.size f cdv)) → DSs (BX P w K mg base N qual scope f cdv A outer s G.H) ⟨T, G, true, s.toks⟩ body m) :
    Fn P w K mg base T (k + 1) x ps (fm ps.length N.length m) :=
  ⟨⟨f, fd, g, hF.kp, ⟨⟨[], bs, fun _ _ => rfl⟩⟩, fnd_makeC hF S hbody⟩, fun ds st h => fm_len h⟩
/-- a def's meaning by another -/
theorem Fn.same {F' : FM} (h : Fn P w K mg base T k x ps F) (q : ∀ ds st, F' ds st ≠ .bad → F ds st = F' ds st) : Fn P w K mg base T k x ps F' := by
  obtain ⟨f, fd, h1, h2, h3, h4⟩ := h.ex
  refine ⟨⟨f, fd, h1, h2, h3, ⟨fun A outer s G st args us ds hr c hb r hl hF => ?_⟩⟩, fun ds st hF => h.len ds st (by rw [q ds st hF]; exact hF)⟩
  have z := h4.run A outer s G st args us ds hr c hb r hl (by rw [q ds st hF]; exact hF)
  rw [q ds st hF] at z
  exact z
end
section
variable {X : Cx} {T : Fx} {e : Expr} {es : List Expr} {ml : EL} {x : Str} {ps : List Str} {F : FM} {j k : Nat} {pos p : Pos}
theorem de_fn (h : Fn X.prog X.w X.K X.mg X.base T.T j x ps F) (hr : Room k X.A) (hg : Gl X x) (ha : DA X T (e :: es) ml) (hj : j ≤ k := by decide)
    (hdb : (x == ("__debug__" : Str)) = false := by decide) (he : starEach (e :: es) X.env = (false, eval e X.env) :: starEach es X.env := by rfl) (hpl : (backTo pos (starEach es X.env)).any (·.1) = false := by rfl) : DE X T (.Call (.Name x p) (e :: es) [] pos) (eFn F ml) := by
  obtain ⟨f, fd, h1, h2, h3, h4⟩ := h.ex
  rw [← eFn_eq]
  exact de_call (h4.mono hj) hr h.len hg h1 h2 h3 ha hdb he hpl
theorem de_fn0 (h : Fn X.prog X.w X.K X.mg X.base T.T j x ps F) (hr : Room k X.A) (hg : Gl X x) (hj : j ≤ k := by decide)
    (hdb : (x == ("__debug__" : Str)) = false := by decide) : DE X T (.Call (.Name x p) [] [] pos) (eFn F eNil) := by
  obtain ⟨f, fd, h1, h2, h3, h4⟩ := h.ex
  rw [← eFn_eq]
  exact de_call0 (h4.mono hj) hr h.len hg h1 h2 h3 hdb
end
/-! ### the module's facts -/
structure Wd (fa : List He.Fa) (fn : List He.DefD) (ts : List Str) (T : Nat) (tl : List (Str × Str)) (xk : PySem.W.Frag → Bool) (K : PySem.W.Frag) (mg : Str → Option Value) (base : Heap) (tb : List Addr) : Prop where
  says : SaysT fa fn ts T (tl.map (·.1)) xk K
  kin : K.In base
  ns : base.Ns mainGlobals mg
  tabs : ∀ (j : Nat) p, tl[j]? = some p → TabW K mg base tb p.1 j
section
variable {fa : List He.Fa} {fn : List He.DefD} {ts : List Str} {T : Nat} {tl : List (Str × Str)} {xk : PySem.W.Frag → Bool} {tb : List Addr} {K : PySem.W.Frag} {mg : Str → Option Value} {base : Heap}
theorem Wd.free (W : Wd fa fn ts T tl xk K mg base tb) (i : Nat) {x : Str} (h : fa[i]? = some (.free x) := by rfl) : mg x = none := He.free_ok W.kin W.ns (W.says.1.fact i h)
theorem Wd.glo (W : Wd fa fn ts T tl xk K mg base tb) (i : Nat) {x : Str} (h : fa[i]? = some (.glo x) := by rfl) : mg x = some (.ref (He.ga K x)) := He.glo_ok W.kin W.ns (W.says.1.fact i h)
theorem Wd.int (W : Wd fa fn ts T tl xk K mg base tb) (i : Nat) {x : Str} {n : Int} (h : fa[i]? = some (.int x n) := by rfl) : ∃ t, mg x = some (.int n t) := He.int_ok W.kin W.ns (W.says.1.fact i h)
theorem Wd.str (W : Wd fa fn ts T tl xk K mg base tb) (i j : Nat) {x z : Str} (h : fa[i]? = some (.str x z) := by rfl) (h2 : ts[j]? = some x := by rfl) : ∃ t, mg x = some (.str z t) ∧ 0 < t ∧ t < T :=
  gstr_tok W.kin W.ns (W.says.1.fact i h) (List.all_eq_true.mp W.says.2.1 x (List.mem_of_getElem? h2))
theorem Wd.def_ (W : Wd fa fn ts T tl xk K mg base tb) (i : Nat) {d : He.DefD} (h : fn[i]? = some d := by rfl) : ∃ fd, FunD K d.name d.qual d.params d.body d.scope (d.dvs K) (d.kws K) (He.fAd K d.at_) fd := W.says.1.def_ i h
end
end DL
namespace DL
open PySem PySem.Spec PyProof.Rows L2
theorem Fn.none {P : Program} {w : World} {K : PySem.W.Frag} {mg : Str → Option Value} {base : Heap} {T : Tx} {k : Nat} {x qual : Str} {ps : List Str} {params : Arguments} {body : List Stmt} {scope : Scope} {f : Addr} {fd : FuncData}
    (g : mg x = some (.ref f)) (hF : FunD K x qual params body scope [] [] f fd) (bs : Binds K fd ps []) : Fn P w K mg base T k x ps fun _ _ => .bad :=
  ⟨⟨f, fd, g, hF.kp, ⟨⟨[], bs, fun _ _ => rfl⟩⟩, ⟨fun _ _ _ _ _ _ _ _ _ _ _ _ _ h => absurd rfl h⟩⟩, fun _ _ h => absurd rfl h⟩
theorem fn_mkC {P : Program} {w : World} {K : PySem.W.Frag} {mg : Str → Option Value} {base : Heap} {T : Tx} {x qual : Str} {ps : List Str} {params : Arguments} {body : List Stmt} {scope : Scope} {f : Addr} {fd : FuncData} {np n : Nat} (k : Nat) (N : List Str) (m : SM)
    (hF : FunD K x qual params body scope [] [] f fd) (S : FnScope N ps scope) (g : mg x = some (.ref f)) (bs : Binds K fd ps [])
    (hbody : ∀ (cdv : Value) (A : Around) (outer : List Env) (s : Shared) (G : Gh), (∀ c, codeAt K f = some c → cdv = .ref c) → Room k (A.deeper (envOfC qual scope s.heap.objs.size f cdv)) → DSs (BX P w K mg base N qual scope f cdv A outer s G.H) ⟨T, G, true, s.toks⟩ body m) (h1 : ps.length = np) (h2 : N.length = n) :
    Fn P w K mg base T (k + 1) x ps (fm np n m) := by
  subst h1 h2
  exact fn_makeC hF S g bs hbody
theorem fn_mk {P : Program} {w : World} {K : PySem.W.Frag} {mg : Str → Option Value} {base : Heap} {T : Tx} {x qual : Str} {ps : List Str} {params : Arguments} {body : List Stmt} {scope : Scope} {f : Addr} {fd : FuncData} {np n : Nat} (k : Nat) (N : List Str) (m : SM)
    (hF : FunD K x qual params body scope [] [] f fd) (S : FnScope N ps scope) (g : mg x = some (.ref f)) (bs : Binds K fd ps [])
    (hbody : ∀ (cdv : Value) (A : Around) (outer : List Env) (s : Shared) (G : Gh), Room k (A.deeper (envOfC qual scope s.heap.objs.size f cdv)) → DSs (BX P w K mg base N qual scope f cdv A outer s G.H) ⟨T, G, true, s.toks⟩ body m) (h1 : ps.length = np) (h2 : N.length = n) :
    Fn P w K mg base T (k + 1) x ps (fm np n m) := fn_mkC k N m hF S g bs (fun cdv A outer s G _ hr => hbody cdv A outer s G hr) h1 h2
theorem bb_abs : bootBuiltins "abs" = some (.builtin "abs") := by decide +kernel
theorem bb_len : bootBuiltins "len" = some (.builtin "len") := by decide +kernel
theorem bb_all : bootBuiltins "all" = some (.builtin "all") := by decide +kernel
theorem bb_any : bootBuiltins "any" = some (.builtin "any") := by decide +kernel
theorem bb_sum : bootBuiltins "sum" = some (.builtin "sum") := by decide +kernel
theorem bb_min : bootBuiltins "min" = some (.builtin "min") := by decide +kernel
theorem bb_max : bootBuiltins "max" = some (.builtin "max") := by decide +kernel
theorem bb_int : bootBuiltins "int" = some (.type "int") := by decide +kernel
theorem bb_bool : bootBuiltins "bool" = some (.type "bool") := by decide +kernel
theorem bb_list : bootBuiltins "list" = some (.type "list") := by decide +kernel
theorem bb_tuple : bootBuiltins "tuple" = some (.type "tuple") := by decide +kernel
theorem bb_str : bootBuiltins "str" = some (.type "str") := by decide +kernel
end DL
namespace DL
open PySem PySem.Spec PyProof.Rows L2
/-- a statement that is never reached -/
def sBad : SM := fun _ _ => .bad
theorem ds_bad {X : Cx} {T : Fx} {sm : Stmt} : DS X T sm sBad := .mk fun _ _ _ _ _ _ h => absurd rfl h
/-! ### plain laws of meanings -/
theorem compS_pure {g : AG} {t : EB} {me : EM} {ρ : Env_} {st : Store} {p : D → Bool} {f : D → D} : ∀ (xs acc : List D),
    (∀ x ∈ xs, ∃ ρ1, g x ρ = some ρ1 ∧ t ρ1 st = .ok (p x) st ∧ (p x = true → me ρ1 st = .ok (f x) st ∧ plain (frz (f x)) = true)) → acc.length + xs.length ≤ 1000000 →
    compS g t me ρ xs acc st = .ok (acc ++ (xs.filter p).map fun x => frz (f x)) st
  | [], acc, _, _ => by simp [compS]
  | x :: xs, acc, h, hl => by
    obtain ⟨ρ1, h1, h2, h3⟩ := h x (List.mem_cons_self ..)
    have hl' : acc.length + xs.length + 1 ≤ 1000000 := by simpa [Nat.add_assoc] using hl
    unfold compS
    rw [h1]
    simp only [h2, quietR, bind_ok]
    cases hp : p x with
    | false =>
      simp only [Bool.false_eq_true, if_false]
      rw [compS_pure xs acc (fun y hy => h y (List.mem_cons_of_mem _ hy)) (by omega), List.filter_cons_of_neg (by simp [hp])]
    | true =>
      obtain ⟨h4, h5⟩ := h3 hp
      simp only [if_true, h4, quietR, bind_ok]
      rw [if_pos ⟨h5, by omega⟩, compS_pure xs (acc ++ [frz (f x)]) (fun y hy => h y (List.mem_cons_of_mem _ hy)) (by simp; omega), List.filter_cons_of_pos (by simp [hp])]
      simp
theorem eComp_pure {own : List Nat} {mi : EL} {g : AG} {t : EB} {me : EM} {ρ : Env_} {st st1 : Store} {xs : List D} (p : D → Bool) (f : D → D) (hi : mi ρ st = .ok xs st1)
    (h : ∀ x ∈ xs, ∃ ρ1, g x (wipeD ρ own) = some ρ1 ∧ t ρ1 st1 = .ok (p x) st1 ∧ (p x = true → me ρ1 st1 = .ok (f x) st1 ∧ plain (frz (f x)) = true)) (hl : xs.length ≤ 1000000) :
    eComp own mi g t me ρ st = .ok (.new ((xs.filter p).map fun x => frz (f x))) st1 := by
  unfold eComp
  rw [hi, bind_ok, compS_pure xs [] h (by simpa using hl)]
  simp
/-- a loop with an invariant: it goes on, or it leaves with what Q says -/
theorem loop_inv {g : AG} {body : SM} (I : List D → Env_ → Store → Prop) (Q : RS → Prop)
    (h : ∀ x xs ρ st, I (x :: xs) ρ st → ∃ ρ1, g x ρ = some ρ1 ∧ ((∃ ρ2 st2, (body ρ1 st = .go .nx ρ2 st2 ∨ body ρ1 st = .go .ct ρ2 st2) ∧ I xs ρ2 st2) ∨ (∃ d ρ2 st2, body ρ1 st = .go (.rt d) ρ2 st2 ∧ Q (.go (.rt d) ρ2 st2)) ∨ ∃ ρ2 st2, body ρ1 st = .go .bk ρ2 st2 ∧ Q (.go .nx ρ2 st2)))
    (h0 : ∀ ρ st, I [] ρ st → Q (.go .nx ρ st)) : ∀ xs ρ st, I xs ρ st → Q (loopS g body xs ρ st)
  | [], ρ, st, i => h0 ρ st i
  | x :: xs, ρ, st, i => by
    obtain ⟨ρ1, h1, h2⟩ := h x xs ρ st i
    unfold loopS
    rw [h1]
    rcases h2 with ⟨ρ2, st2, e, i2⟩ | ⟨d, ρ2, st2, e, q⟩ | ⟨ρ2, st2, e, q⟩
    · have z := loop_inv I Q h h0 xs ρ2 st2 i2
      rcases e with e | e <;> simp only [e, aft] <;> exact z
    · simp only [e, aft]; exact q
    · simp only [e, aft]; exact q
/-- a loop that goes to its end -/
theorem loop_all {g : AG} {body : SM} (I : List D → Env_ → Store → Prop)
    (h : ∀ x xs ρ st, I (x :: xs) ρ st → ∃ ρ1 ρ2 st2, g x ρ = some ρ1 ∧ body ρ1 st = .go .nx ρ2 st2 ∧ I xs ρ2 st2) (xs : List D) (ρ : Env_) (st : Store) (i : I xs ρ st) :
    ∃ ρ' st', loopS g body xs ρ st = .go .nx ρ' st' ∧ I [] ρ' st' :=
  loop_inv I (fun r => ∃ ρ' st', r = .go .nx ρ' st' ∧ I [] ρ' st') (fun x xs ρ st i => by
    obtain ⟨ρ1, ρ2, st2, h1, h2, h3⟩ := h x xs ρ st i
    exact ⟨ρ1, h1, .inl ⟨ρ2, st2, .inl h2, h3⟩⟩) (fun ρ st i => ⟨ρ, st, rfl, i⟩) xs ρ st i
end DL
namespace DL
open PySem PySem.Spec PyProof.Rows L2
theorem compS_all {g : AG} {t : EB} {me : EM} {ρ : Env_} (I : List D → List D → Store → Prop)
    (h : ∀ x xs acc st, I (x :: xs) acc st → ∃ ρ1 d st2, g x ρ = some ρ1 ∧ t ρ1 st = .ok true st ∧ me ρ1 st = .ok d st2 ∧ plain (frz d) = true ∧ acc.length < 1000000 ∧ I xs (acc ++ [frz d]) st2) :
    ∀ (xs acc : List D) (st : Store), I xs acc st → ∃ ds st', compS g t me ρ xs acc st = .ok ds st' ∧ I [] ds st'
  | [], acc, st, i => ⟨acc, st, rfl, i⟩
  | x :: xs, acc, st, i => by
    obtain ⟨ρ1, d, st2, h1, h2, h3, h4, h5, h6⟩ := h x xs acc st i
    obtain ⟨ds, st', e, i'⟩ := compS_all I h xs (acc ++ [frz d]) st2 h6
    refine ⟨ds, st', ?_, i'⟩
    unfold compS
    rw [h1]
    simp only [h2, quietR, bind_ok, if_true, h3]
    rw [if_pos ⟨h4, h5⟩]
    exact e
/-! ### a law's source of draws: a cell of two whole numbers -/
/-- the cells that stay: the tables -/
def Keeps (S0 st : Store) : Prop := st.take S0.length = S0
theorem Keeps.len {S0 st : Store} (h : Keeps S0 st) : S0.length ≤ st.length := by
  have := congrArg List.length h
  rw [List.length_take] at this
  omega
theorem Keeps.at {S0 st : Store} (h : Keeps S0 st) {j : Nat} {c : Cell} (e : S0[j]? = some c) : st[j]? = some c := by
  have hj := (List.getElem?_eq_some_iff.mp e).1
  have h' : st.take S0.length = S0 := h
  rw [← h', List.getElem?_take_of_lt hj] at e
  exact e
theorem Keeps.set {S0 st : Store} (h : Keeps S0 st) {k : Nat} (hk : S0.length ≤ k) (c : Cell) : Keeps S0 (st.set k c) := by
  unfold Keeps
  rw [List.take_set_of_le hk]
  exact h
theorem Keeps.app {S0 st : Store} (h : Keeps S0 st) (c : Cell) : Keeps S0 (st ++ [c]) := by
  unfold Keeps
  rw [List.take_append_of_le_length h.len]
  exact h
def Src (S0 st : Store) (k : Nat) : Prop := (∃ a b : Int, st[k]? = some (.lst [.int a, .int b])) ∧ S0.length ≤ k ∧ Keeps S0 st
theorem Src.keeps {S0 st : Store} {k : Nat} (h : Src S0 st k) : Keeps S0 st := h.2.2
theorem Src.set {S0 st : Store} {k : Nat} (h : Src S0 st k) (a b : Int) : Src S0 (st.set k (.lst [.int a, .int b])) k := by
  obtain ⟨⟨_, _, e⟩, h1, h2⟩ := h
  have hk := (List.getElem?_eq_some_iff.mp e).1
  exact ⟨⟨a, b, by rw [List.getElem?_set_self hk]⟩, h1, h2.set h1 _⟩
end DL
namespace DL
open PySem PySem.Spec PyProof.Rows L2
section
variable {ρ : Env_} {st : Store} {m ma mb mc mo : EM} {ml mi : EL} {t u : EB} {k1 k2 body : SM} {f : Store → D → D → Option D} {p : Store → List D → Option D} {d x y : D} {ds : List D} {i n np : Nat} {F : FM} {α : Type}
@[simp] theorem ev_fm : fm np n k1 ds st = if ds.length = np then finR (k1 (startD n ds) st) else .bad := rfl
@[simp] theorem ev_start : startD n ds = ds.map some ++ List.replicate (n - ds.length) none := rfl
@[simp] theorem ev_seq : sSeq k1 k2 ρ st = (k1 ρ st).then k2 := rfl
@[simp] theorem ev_next : sNext ρ st = .go .nx ρ st := rfl
@[simp] theorem ev_if : sIf t k1 k2 ρ st = RS.ofE ρ (t ρ st) fun b st1 => if b = true then k1 ρ st1 else k2 ρ st1 := rfl
@[simp] theorem ev_ret : sRet m ρ st = RS.ofE ρ (m ρ st) fun d st1 => .go (.rt d) ρ st1 := rfl
@[simp] theorem ev_asg : sAsg i m ρ st = RS.ofE ρ (m ρ st) fun d st1 => if plain (frz d) = true then .go .nx (ρ.set i (some (frz d))) st1 else .bad := rfl
@[simp] theorem ev_setc {k : Nat} : sSetC i k m ρ st = RS.ofE ρ (m ρ st) fun d st1 => match (refAt ρ i).bind fun n => cellSet st1 n k (frz d) with
  | some st2 => .go .nx ρ st2
  | none => .bad := rfl
@[simp] theorem ev_for {g : AG} : sFor mi g body ρ st = RS.ofE ρ (mi ρ st) fun xs st1 => loopS g body xs ρ st1 := rfl
@[simp] theorem ev_ofe {a : α} {h : α → Store → RS} : RS.ofE ρ (.ok a st) h = h a st := rfl
@[simp] theorem ev_then_rt {ρ' : Env_} {k : SM} : (RS.go (.rt d) ρ' st).then k = .go (.rt d) ρ' st := rfl
@[simp] theorem ev_finR {ρ' : Env_} : finR (.go (.rt d) ρ' st) = .ok (retD d) st := rfl
@[simp] theorem ev_var : eVar i ρ st = R.of ((ρ[i]?).bind id) st := rfl
@[simp] theorem ev_c : eC d ρ st = .ok d st := rfl
@[simp] theorem ev_bin : eBin f ma mb ρ st = (ma ρ st).bind fun x st1 => (mb ρ st1).bind fun y st2 => R.of (f st2 x y) st2 := rfl
@[simp] theorem ev_idx : eIdx ma mb ρ st = (ma ρ st).bind fun x st1 => (mb ρ st1).bind fun y st2 => R.of (pIdx st2 x y) st2 := rfl
@[simp] theorem ev_callP : eCallP p ml ρ st = (ml ρ st).bind fun ds st1 => R.of (p st1 ds) st1 := rfl
@[simp] theorem ev_nil : eNil ρ st = .ok [] st := rfl
@[simp] theorem ev_cons : eCons m ml ρ st = (m ρ st).bind fun d st1 => (ml ρ st1).bind fun ds st2 => .ok (frz d :: ds) st2 := rfl
@[simp] theorem ev_tup : eTup ml ρ st = (ml ρ st).bind fun ds st1 => if ds.all plain = true ∧ ds.length ≤ 1000000 then .ok (.tup ds) st1 else .bad := rfl
@[simp] theorem ev_lst : eLst ml ρ st = (ml ρ st).bind fun ds st1 => if ds.all plain = true ∧ ds.length ≤ 1000000 then .ok (.new ds) st1 else .bad := rfl
@[simp] theorem ev_fn : eFn F ml ρ st = (ml ρ st).bind fun ds st1 => if ds.all plain = true then F ds st1 else .bad := rfl
@[simp] theorem ev_tV : tV m ρ st = (m ρ st).bind fun d st1 => R.of (truth d) st1 := rfl
@[simp] theorem ev_tAnd : tAnd t u ρ st = (t ρ st).bind fun c st1 => if c = true then u ρ st1 else .ok false st1 := rfl
@[simp] theorem ev_tOr : tOr t u ρ st = (t ρ st).bind fun c st1 => if c = true then .ok true st1 else u ρ st1 := rfl
@[simp] theorem ev_tNot : tNot t ρ st = (t ρ st).bind fun c st1 => .ok (!c) st1 := rfl
@[simp] theorem ev_and : eAnd ma mb ρ st = (ma ρ st).bind fun d st1 => (R.of (truth d) st1).bind fun c st1 => if c = true then mb ρ st1 else .ok d st1 := rfl
@[simp] theorem ev_or : eOr ma mb ρ st = (ma ρ st).bind fun d st1 => (R.of (truth d) st1).bind fun c st1 => if c = true then .ok d st1 else mb ρ st1 := rfl
@[simp] theorem ev_not : eNot m ρ st = (m ρ st).bind fun d st1 => (R.of (truth d) st1).bind fun c st1 => .ok (.bl (!c)) st1 := rfl
@[simp] theorem ev_eif : eIf t ma mb ρ st = (t ρ st).bind fun c st1 => if c = true then ma ρ st1 else mb ρ st1 := rfl
@[simp] theorem ev_isI {ty : String} : eIsI ty m ρ st = (m ρ st).bind fun d st1 => R.of ((isTy ty d).map .bl) st1 := rfl
@[simp] theorem ev_chain {q : Store → D → D → Option D} : eChain f q ma mb mc ρ st = (ma ρ st).bind fun x st1 => (mb ρ st1).bind fun y st2 => (R.of ((f st2 x y).bind asB) st2).bind fun c st2 => if c = true then (mc ρ st2).bind fun z st3 => R.of (q st3 y z) st3 else .ok (.bl false) st2 := rfl
@[simp] theorem ev_val : iVal m ρ st = (m ρ st).bind fun d st1 => R.of (itemsV d) st1 := rfl
@[simp] theorem ev_rng1 : iRng1D ml ρ st = (ml ρ st).bind fun ds st1 => R.of (rng1 ds) st1 := rfl
@[simp] theorem ev_cmp {g : Int → Int → Bool} {a b : Int} : pCmp g st (.int a) (.int b) = some (.bl (g a b)) := rfl
@[simp] theorem ev_add {a b : Int} : pAdd st (.int a) (.int b) = some (.int (a + b)) := rfl
@[simp] theorem ev_sub {a b : Int} : pSub st (.int a) (.int b) = some (.int (a - b)) := rfl
theorem ev_mul {a b : Int} (h : -(2 ^ 64) < b ∧ b < 2 ^ 64) : pMul st (.int a) (.int b) = some (.int (a * b)) := by
  show (if _ then _ else _) = _
  rw [if_pos (.inr h)]
theorem ev_mul' {a b : Int} (h : -(2 ^ 64) < a ∧ a < 2 ^ 64) : pMul st (.int a) (.int b) = some (.int (a * b)) := by
  show (if _ then _ else _) = _
  rw [if_pos (.inl h)]
theorem ev_mod {a b : Int} (h : 0 < b) : pMod st (.int a) (.int b) = some (.int (a % b)) := if_pos h
theorem ev_div {a b : Int} (h : 0 < b ∧ b < 1073741824) : pFdiv st (.int a) (.int b) = some (.int (a / b)) := if_pos h
@[simp] theorem ev_frz_int {a : Int} : frz (.int a) = .int a := rfl
@[simp] theorem ev_frz_str {l : List Nat} : frz (.str l) = .str l := rfl
@[simp] theorem ev_frz_cst {l : List Nat} : frz (.cst l) = .cst l := rfl
@[simp] theorem ev_frz_bl {b : Bool} : frz (.bl b) = .bl b := rfl
@[simp] theorem ev_frz_tup {l : List D} : frz (.tup l) = .tup l := rfl
@[simp] theorem ev_frz_lst {l : List D} : frz (.lst l) = .lst l := rfl
@[simp] theorem ev_frz_new {l : List D} : frz (.new l) = .lst l := rfl
@[simp] theorem ev_frz_ref : frz (.ref n) = .ref n := rfl
@[simp] theorem ev_frz_non : frz .non = .non := rfl
@[simp] theorem ix0 {k : Nat} : seqIndex? 0 (k + 1) = some 0 := by unfold seqIndex?; first | (simp; done) | (simp; omega)
@[simp] theorem ix1 {k : Nat} : seqIndex? 1 (k + 1 + 1) = some 1 := by unfold seqIndex?; first | (simp; done) | (simp; omega)
@[simp] theorem ix2 {k : Nat} : seqIndex? 2 (k + 1 + 1 + 1) = some 2 := by unfold seqIndex?; first | (simp; done) | (simp; omega)
@[simp] theorem pl_int {a : Int} : plain (.int a) = true := rfl
@[simp] theorem pl_str {l : List Nat} : plain (.str l) = true := rfl
@[simp] theorem pl_cst {l : List Nat} : plain (.cst l) = true := rfl
@[simp] theorem pl_ust {l : List Nat} : plain (.ust l) = true := rfl
@[simp] theorem pl_bl {b : Bool} : plain (.bl b) = true := rfl
@[simp] theorem pl_non : plain .non = true := rfl
@[simp] theorem pl_tup {l : List D} : plain (.tup l) = true := rfl
@[simp] theorem pl_lst {l : List D} : plain (.lst l) = true := rfl
@[simp] theorem pl_ref : plain (.ref n) = true := rfl
@[simp] theorem ev_truth_bl {b : Bool} : truth (.bl b) = some b := rfl
@[simp] theorem ev_int_int {a : Int} : p1 fInt st [.int a] = some (.int a) := rfl
theorem ev_cell0 {k : Nat} {a b : Int} (e : st[k]? = some (.lst [.int a, .int b])) : pIdx st (.ref k) (.int 0) = some (.int a) := by
  show itemV (match st[k]? with | some (.lst ds) => .lst ds | _ => .ref k) _ = _
  rw [e]
  rfl
theorem ev_cell1 {k : Nat} {a b : Int} (e : st[k]? = some (.lst [.int a, .int b])) : pIdx st (.ref k) (.int 1) = some (.int b) := by
  show itemV (match st[k]? with | some (.lst ds) => .lst ds | _ => .ref k) _ = _
  rw [e]
  rfl
end
end DL
namespace DL
open PySem PySem.Spec PyProof.Rows L2
/-! ### raise X('..') -/
/-- a class of errors of the module, over ValueError, without an own __init__ -/
structure ErrC (K : PySem.W.Frag) (mg : Str → Option Value) (x : Str) : Prop where
  g : mg x = some (.ref (He.ga K x))
  q : PySem.W.excIn K (He.ga K x) He.veBase "ValueError.__new__" = true
  k : PySem.W.keepIn K (.ref (He.ga K x)) = true
  b : PySem.W.subIn K (.ref (He.ga K x)) (.type "BaseException") = some true
  t : PySem.W.typeIn K (.ref (He.ga K x)) = some (.type "type")
theorem Wd.err {fa : List He.Fa} {fn : List He.DefD} {ts : List Str} {T : Nat} {tl : List (Str × Str)} {xk : PySem.W.Frag → Bool} {tb : List Addr} {K : PySem.W.Frag} {mg : Str → Option Value} {base : Heap} (W : Wd fa fn ts T tl xk K mg base tb) (i j : Nat) {x : Str} (h : fa[i]? = some (.glo x) := by rfl) (h2 : fa[j]? = some (.exc x) := by rfl) : ErrC K mg x :=
  let ⟨q1, q2, q3, q4⟩ := He.exc_ok (W.says.1.fact j h2)
  ⟨W.glo i h, q1, q2, q3, q4⟩
def sRaise (x : Str) : SM := fun ρ st => .exn ⟨x, none⟩ ρ st
section
variable {X : Cx} {T : Fx} {pins : List (Addr × Obj)} {G G1 : Gh} {ρ ρ1 : Env_} {st st1 : Store} {s sI s' : Shared} {x m : Str} {j : Nat} {p p2 pos pos' : Pos}
/-- a new exception is in the air -/
theorem air_new {a : Addr} {oe : Obj} {vs : Array Value} {cls : Value} {dd : Option Addr} {ex : Ex} (I : InvD X T pins G ρ st sI) (k : ∀ b o, sI.heap.get? b = some o → s'.heap.get? b = some o) (hne : sI.heap.get? a = none) (he : s'.heap.get? a = some oe)
    (hz : Zc cls dd oe) (hd : oe.data = .fields vs) (h1 : vs[1]? = some .none) (os : s'.os = sI.os) (ag : AllBare s'.gens) (tk : sI.toks ≤ s'.toks) (xo : ExOk X G ex cls dd) : Air X T pins G ρ st ex (.ref a) s' := by
  refine ⟨a, PySem.W.hideAll sI.heap (frs X.stack), sI, cls, dd, rfl, I, fun b o e hb => PySem.W.hideAll_get _ e hb, Heap.UpToSlots.of_keeps k, .inl ⟨fun b o e => k b o (PySem.W.of_hideAll _ e), ?_, ?_, oe, vs, he, hz, hd, h1⟩, I.inv.hok.gone hne, os, ag, tk, xo⟩
  · cases q : (PySem.W.hideAll sI.heap (frs X.stack)).get? a with
    | none => rfl
    | some o =>
      rw [PySem.W.of_hideAll _ q] at hne
      cases hne
  · exact Heap.FunFrames.of_keeps (fun b o e _ => ⟨o, k b o e, rfl⟩) (funFrames_none I.inv.stack fun b hb => PySem.W.hideAll_none _ hb)
theorem ds_raise (E : ErrC X.K X.mg x) (hc : X.calm = true) (hg : Gl X x) (hdb : (x == ("__debug__" : Str)) = false := by decide)
    (he : starEach [.Constant (.str m) j p2] X.env = [(false, eval (.Constant (.str m) j p2) X.env)] := by rfl) : DS X T (.Raise (some (.Call (.Name x p) [.Constant (.str m) j p2] [] pos)) none pos') (sRaise x) := .mk fun pins s G ρ st I _ => by
  show wpAny _ _ (do standAt pos'; raiseStmt X.env (some (do let v ← eval (.Call (.Name x p) [.Constant (.str m) j p2] [] pos) X.env; standAt pos'; pure v)) none) _ _ _
  refine wpAny_bind (wpAny_standAt (raise_made (I.inv.ok.hd hc) (wpAny_bind ?_)))
  refine wpAny_Call_Name_kw (ld_glob I.inv hg E.g ?_ hdb)
  refine PySem.W.callWith_K (h₀ := X.base) I.inv.ok.mod.kin E.k ?_ (by rw [he]; rfl) (by rfl)
  show wpAny _ _ (spliced ((false, eval (.Constant (.str m) j p2) X.env) :: backTo pos (starEach [] X.env))) _ _ s
  refine Calls.spliced_cons (Calls.Constant_str (Calls.spliced_nil ?_))
  have I1 : InvD X T pins G ρ st { s with toks := s.toks + 1 } := I.tk (Nat.le_succ _)
  refine ⟨I1.inv.kIn, ?_⟩
  obtain ⟨bm, N, nm, qn, bs, hdct, sn, sub, ab, col, dd, k0, k1, k2, k3, k5, mN, hC, hN, hni, TT⟩ := exc_obj I1.inv.kIn E.q
  refine wpAny_call_exc_subT PySem.F.excBase_ValueError TT hC hN hni (fun h' e hm => ?_) (by show 1 ≤ sizeLine; rw [sizeLine_eq]; omega)
  obtain ⟨t, he', _, _⟩ := hm.there
  refine wpAny_bind (wpAny_standAt (wpAny_pure ?_))
  obtain ⟨r1, r2⟩ := raises_own (X := X) E.b E.t (model X.prog X.w) h' (I1.inv.kIn.keeps hm.keeps)
  refine ⟨e, _, _, _, rfl, he', rfl, rfl, rfl, r1, r2, ⟨x, none⟩, ρ, st, G, rfl, SExt.refl G, ?_⟩
  exact air_new I1 hm.keeps hm.new he' ⟨rfl, rfl⟩ rfl rfl rfl I1.inv.bare (Nat.le_refl _) ⟨⟨_, E.g, rfl⟩, .inl ⟨rfl, rfl⟩⟩
end
end DL
namespace DL
open PySem PySem.Spec PyProof.Rows L2
/-! ### try: .. except X: .. -/
/-- a suite raises nothing -/
def quietS : RS → RS
  | .exn _ _ _ => .bad
  | r => r
/-- the first clause that names an error's class -/
def pick : List (Str × SM) → Ex → SM
  | [], ex => fun ρ st => .exn ex ρ st
  | (x, k) :: r, ex => if ex.cls = x then fun ρ st => quietS (k ρ st) else pick r ex
/-- es: the classes that may come -/
def sTry (es : List Str) (m : SM) (hs : List (Str × SM)) : SM := fun ρ st => match m ρ st with
  | .exn ex ρ1 st1 => if ex.cls ∈ es then pick hs ex ρ1 st1 else .bad
  | r => r
/-- the classes es by their clause x -/
structure Caught (K : PySem.W.Frag) (mg : Str → Option Value) (es : List Str) (x : Str) : Prop where
  g : mg x = some (.ref (He.ga K x))
  m : ∀ c ∈ es, mg c = some (.ref (He.ga K c)) ∧ PySem.W.exmOne K (.ref (He.ga K c)) (.ref (He.ga K x)) = some (decide (c = x))
inductive HdsD (X : Cx) (T : Fx) (es : List Str) : List ExceptHandler → List (Str × SM) → Prop
  | nil : HdsD X T es [] []
  | cons {x : Str} {k : SM} {b₀ : Stmt} {suite : List Stmt} {np pos' : Pos} {hds : List ExceptHandler} {l : List (Str × SM)} (c : Caught X.K X.mg es x) (hg : Gl X x) (hdb : (x == ("__debug__" : Str)) = false)
      (hsu : ∀ (a : Addr) (oe : Obj) (pn : List (Addr × Obj)), DSs (X.suite a ((a, oe) :: pn)) T (b₀ :: suite) k) (r : HdsD X T es hds l) :
      HdsD X T es (.ExceptHandler (some (.Name x np)) none (b₀ :: suite) pos' :: hds) ((x, k) :: l)
section
variable {X : Cx} {T : Fx} {pins : List (Addr × Obj)} {G G1 : Gh} {ρ ρ1 : Env_} {st st1 : Store} {s sI s' : Shared} {B : Heap}
/-- the exception lands: the state goes on without it -/
theorem InvD.landed (I : InvD X T pins G ρ st sI) (nb : ∀ b o, sI.heap.get? b = some o → b ∉ frs X.stack → B.get? b = some o) (stay : B.StaysIn s'.heap) (up : sI.heap.UpToSlots s'.heap) (os : s'.os = sI.os) (ag : AllBare s'.gens) (tk : sI.toks ≤ s'.toks) : InvD X T pins G ρ st s' := by
  have fr : ∀ b, b ∈ frs X.stack → ∀ o, sI.heap.get? b = some o → ∃ sl, s'.heap.get? b = some { o with slots := sl } := fun b hb o e => by
    obtain ⟨_, o', e', hd⟩ := I.inv.stack.mem hb
    have : o' = o := Option.some.inj (e'.symm.trans e)
    subst this
    exact up b o' e hd
  have un : Un (frs X.stack) [] G.H G.H sI.heap s'.heap := by
    refine ⟨fun b o e _ hb _ => stay b o (nb b o e hb), fun b o e _ hb _ => fr b hb o e, fun _ _ _ n _ => n, fun b o e _ => ?_, fun _ _ e => e, fun _ _ _ e => e, fun b ps e => ⟨#[], e.trans (by simp)⟩⟩
    by_cases hb : b ∈ frs X.stack
    · exact let ⟨_, q⟩ := fr b hb o e; ⟨_, q⟩
    · exact ⟨_, stay b o (nb b o e hb)⟩
  exact I.move (I.inv.landed nb stay up os ag) (Ext.refl G) tk (un_ns I.inv un) (un_cell I.inv un) (I.sto.mono (Ext.refl G) tk rfl fun _ _ _ q => q)
theorem InvD.suite (I : InvD X T pins G ρ st s) {a : Addr} {oe : Obj} {vs : Array Value} (ha : s.heap.get? a = some oe) (hd : oe.data = .fields vs) (na : G.H a = none) (nL : a ≠ X.env.locals) (nF : a ∉ X.fs) : InvD (X.suite a ((a, oe) :: (X.pn ++ pins))) T [] G ρ st s :=
  { I with inv := I.inv.suite ha hd na nL nF }
theorem InvD.unsuite {a : Addr} {q : Addr × Obj} {pn' : List (Addr × Obj)} (I : InvD (X.suite a (q :: (X.pn ++ pins))) T pn' G ρ st s) (ok : X.Ok) : InvD X T pins G ρ st s :=
  { I with inv := I.inv.unsuite ok }
theorem ds_try {body : List Stmt} {h₀ : ExceptHandler} {hds : List ExceptHandler} {l : List (Str × SM)} {es : List Str} {k : SM} {pos : Pos} (hs : X.stack = X.env :: X.outer) (hf : X.env.frame = some X.env.locals) (hb : DSs X T body k) (hh : HdsD X T es (h₀ :: hds) l) :
    DS X T (.Try body (h₀ :: hds) [] [] pos) (sTry es k l) := .mk fun pins s G ρ st I h => by
  have ok := I.inv.ok
  have hfr : X.A.frames = some (X.env :: X.outer) := by rw [ok.frames, hs]
  have hk : k ρ st ≠ .bad := fun z => h (by unfold sTry; rw [z])
  refine wpAny_Try_except (wpAny_mono (hb pins s G ρ st I hk) (fun f s1 z => ?_) fun e s1 z => ?_)
  · obtain ⟨fl, ρ1, st1, G1, e1, x1, I1, q⟩ := z
    have eq1 : sTry es k l ρ st = .go fl ρ1 st1 := by unfold sTry; rw [e1]
    rw [eq1]
    cases f with
    | next => exact wpAny_execs_nil ⟨fl, ρ1, st1, G1, rfl, x1, I1, q⟩
    | brk => exact ⟨fl, ρ1, st1, G1, rfl, x1, I1, q⟩
    | cont => exact ⟨fl, ρ1, st1, G1, rfl, x1, I1, q⟩
    | ret u => exact ⟨fl, ρ1, st1, G1, rfl, x1, I1, q⟩
  · obtain ⟨ex, ρ1, st1, G1, e1, x1, a, B, sI, cls, dd, rfl, J, nb, up, sky, na, os, ag, tk, xo⟩ := z
    have eq1 : sTry es k l ρ st = if ex.cls ∈ es then pick l ex ρ1 st1 else .bad := by unfold sTry; rw [e1]
    rw [eq1] at h ⊢
    by_cases hes : ex.cls ∈ es
    · rw [if_pos hes] at h ⊢
      have sky' : Sky B (X.env :: X.outer) a (Zc cls dd) X.env.locals s1.heap := by rw [← hs]; exact sky
      refine Sky.land Zc.steady hfr hf sky' fun h3 fl3 up3 => ?_
      have J3 : InvD X T pins G1 ρ1 st1 { s1 with heap := h3 } := J.landed nb fl3.1 (up.trans up3) os ag tk
      obtain ⟨oe3, vs3, he3, hz3, hd3⟩ := fl3.there
      have nfr : a ∉ frs (X.env :: X.outer) := fun hm => by
        obtain ⟨_, o', e', hnf⟩ := fl3.2.2.1.mem hm
        have : o' = oe3 := Option.some.inj (e'.symm.trans he3)
        subst this
        exact hnf _ hd3
      have nL : a ≠ X.env.locals := fun z => nfr (List.mem_filterMap.mpr ⟨X.env, List.mem_cons_self, by rw [hf, z]⟩)
      have nF : a ∉ X.fs := fun hm => by
        obtain ⟨e, he, q⟩ := List.mem_filterMap.mp hm
        exact nfr (List.mem_filterMap.mpr ⟨e, List.mem_cons_of_mem _ he, q⟩)
      have S3 := J3.suite he3 hd3 na nL nF
      have go : ∀ {hds' : List ExceptHandler} {l' : List (Str × SM)}, HdsD X T es hds' l' → pick l' ex ρ1 st1 ≠ .bad →
          wpAny (model X.prog X.w) X.A (handleBy (.ref a) X.env hds') (SkP X T pins G (pick l' ex ρ1 st1)) (SxP X T pins G (pick l' ex ρ1 st1)) { s1 with heap := h3 } := by
        intro hds' l' hk'
        induction hk' with
        | nil =>
          intro _
          refine wpAny_handleBy_nil ?_
          obtain ⟨_, _, _, oe, vs, Tr, _, _, he, _, hd, h1, _⟩ := id fl3
          unfold PySem.passOn
          refine wpAny_bind (wpAny_field he hd h1 ?_)
          rw [if_neg (show ¬ ((Value.ref Tr == Value.none) = true) from by simp)]
          have fin : wpAny (model X.prog X.w) X.A (setFlight (.ref a) X.env.frame) (fun _ s4 => wpAny (model X.prog X.w) X.A (throw (.ref a) : Sem Flow) (SkP X T pins G (.exn ex ρ1 st1)) (SxP X T pins G (.exn ex ρ1 st1)) s4) (SxP X T pins G (.exn ex ρ1 st1)) { s1 with heap := h3 } := by
            rw [hf]
            refine HandSPX.setFlight_upZ fl3 fun h4 hh4 up4 => wpAny_throw ?_
            exact ⟨ex, ρ1, st1, G1, rfl, x1, a, B, sI, cls, dd, rfl, J, nb, (up.trans up3).trans up4, .inr (.inr (by rw [hs]; exact hh4)), na, os, ag, tk, xo⟩
          first
            | exact wpAny_bind (wpAny_pure (wpAny_bind fin))
            | exact wpAny_bind fin
        | @cons x kx b₀ suite np pos' hds2 l2 c hg hdb hsu r ih =>
          intro hnb
          refine wpAny_handleBy_cons (codeAny_handlers_test ?_) (fun q => nomatch q)
          obtain ⟨mc, em⟩ := c.m ex.cls hes
          obtain ⟨C, c1, c2⟩ := xo.c
          rw [mc] at c1
          cases c1
          subst c2
          have LT : PySem.W.Looks (model X.prog X.w) h3 (typeOf (.ref a)) (.ref (He.ga X.K ex.cls)) := fun A Q E s k q => wpAny_typeOf_ref (k _ _ he3) (by rw [hz3.1]; exact q)
          have LM := PySem.W.exm_one (M := model X.prog X.w) (J3.inv.kIn) LT em
          refine ld_glob (X := X.suite a ((a, oe3) :: (X.pn ++ pins))) S3.inv hg c.g (LM.here ?_) hdb
          have ep : pick ((x, kx) :: l2) ex ρ1 st1 = if ex.cls = x then quietS (kx ρ1 st1) else pick l2 ex ρ1 st1 := by
            show (if ex.cls = x then (fun ρ st => quietS (kx ρ st)) else pick l2 ex) ρ1 st1 = _
            split <;> rfl
          rw [ep] at hnb ⊢
          by_cases hx : ex.cls = x
          · rw [if_pos hx] at hnb ⊢
            rw [decide_eq_true hx]
            refine codeAny_handlers_suite ?_
            refine HandSPX.lands_againZ fl3 fun h4 fl4 up4 => ?_
            have J4 : InvD X T pins G1 ρ1 st1 { s1 with heap := h4 } := J.landed nb fl4.1 ((up.trans up3).trans up4) os ag tk
            obtain ⟨oe4, vs4, he4, _, hd4⟩ := fl4.there
            have S4 := J4.suite he4 hd4 na nL nF
            have hnb' : kx ρ1 st1 ≠ .bad := fun z => hnb (by rw [z]; rfl)
            refine wpAny_mono (hsu a oe4 (X.pn ++ pins) [] _ G1 ρ1 st1 S4 hnb') (fun f s6 z => ?_) fun e6 s6 z => ?_
            · obtain ⟨fl, ρ6, st6, G6, q1, q2, q3, q4⟩ := z
              exact ⟨fl, ρ6, st6, G6, by rw [q1]; rfl, x1.trans q2, q3.unsuite ok, q4⟩
            · obtain ⟨_, _, _, _, q1, _⟩ := z
              exact absurd (by rw [q1]; rfl) hnb
          · rw [if_neg hx] at hnb ⊢
            rw [decide_eq_false hx]
            exact ih hnb
      exact go hh h
    · rw [if_neg hes] at h
      exact absurd rfl h
end
end DL
namespace DL
open PySem PySem.Spec PyProof.Rows L2
/-! ### a lambda is made -/
abbrev lamO (q : Str) (params : Arguments) (body : Expr) (scope : Scope) (cl : List (Str × Addr)) (pm : Value) (c' : Addr) (ctv : Value) : Obj := PySem.W.kla_obj "<lambda>" q params body scope cl pm c' ctv
section
variable {X : Cx} {T : Fx} {pins : List (Addr × Obj)} {G G1 : Gh} {ρ ρ1 : Env_} {st st1 : Store} {s sI s' : Shared} {c P : Addr} {params : Arguments} {body : Expr} {scope : Scope} {pos : Pos} {j : Nat}
/-- a lambda behind its making -/
structure LamP (X : Cx) (T : Fx) (pins : List (Addr × Obj)) (G : Gh) (ρ : Env_) (st : Store) (s : Shared) (params : Arguments) (body : Expr) (scope : Scope) (u : Value) (s' : Shared) : Prop where
  ex : ∃ f c' pm ctv G1, u = .ref f ∧ Ext G G1 ∧ InvD X T pins G1 ρ st s' ∧ s'.heap.get? f = some (lamO (X.env.qual ++ "<lambda>") params body scope (cloFrom X.env.cells scope.names []) pm c' ctv) ∧
    G1.H f = none ∧ f ∉ frs X.stack ∧ G1.H c' = some (LamX.CodeO c' (X.env.qual ++ "<lambda>")) ∧ c' ∉ G1.as
theorem lam_nofr (I : InvD X T pins G ρ st s) {f : Addr} (hf : s.heap.objs.size ≤ f) : f ∉ frs X.stack := fun z => by
  rcases List.mem_cons.mp (I.inv.stkSub _ z) with e | e
  · exact absurd (e ▸ I.inv.lt) (Nat.not_lt.mpr hf)
  · exact I.inv.nofs hf e
theorem lam_makeD (I : InvD X T pins G ρ st s) (TB : LamX.TabB X.base X.mg c P) (hcode : X.env.code = .ref c) (hj : G.as[j]? = some P) (hst : st[j]? = some (.tbl (X.env.qual ++ "<lambda>"))) (hdef : defaultsOf params X.env = ([], []))
    (hfree : ∀ y ∈ scope.names, y.2 = .free → ∃ c, X.env.cells.lookup y.1 = some c) {E : Value → Shared → Prop} {Q : Value → Shared → Prop} (h : ∀ u s', s.toks ≤ s'.toks → LamP X T pins G ρ st s params body scope u s' → Q u s') :
    wpAny (model X.prog X.w) X.A (eval (.Lambda params body scope pos) X.env) Q E s := by
  obtain ⟨q, eq⟩ : ∃ q, q = X.env.qual ++ "<lambda>" := ⟨_, rfl⟩
  obtain ⟨ps, hP, ht, ha⟩ := (show TabD G P (X.env.qual ++ "<lambda>") from I.sto.cell j P _ hj hst)
  have hP' : s.heap.get? P = some { cls := .none, data := .fields ps } := I.inv.hok P _ hP
  have bP : s.heap.BuiltinsAt X.mg P := TB.bm.keeps I.inv.bk
  have hPas : P ∈ G.as := List.mem_of_getElem? hj
  obtain ⟨m, hm, hl⟩ := I.loc
  have nLP : X.env.locals ≠ P := fun z => by
    have := I.inv.free
    rw [z, hP] at this
    cases this
  cases hc : codeAmong pos ps.toList with
  | none =>
    refine wpAny_mono (PySem.wpAny_toks (Q := fun u s' => ∃ (c' : Addr) (ctv : Value) (h' : Heap) (tk : Tok), u = .ref h'.objs.size ∧ s' = { s with heap := h'.push (lamO (X.env.qual ++ "<lambda>") params body scope (cloFrom X.env.cells scope.names []) ((X.mg "__name__").getD .none) c' ctv), toks := tk } ∧
        Heap.ExtBut P s.heap h' ∧ s.heap.objs.size ≤ c' ∧ c' < h'.objs.size ∧ h'.CodeRec (.ref c') (X.env.qual ++ "<lambda>") ∧ h'.get? P = some (PySem.W.tabObj (ps ++ #[rawInt pos.line, rawInt pos.col, .ref c']))) (E := fun _ _ => False)
      (PySem.W.kla_eval hdef (PySem.W.kla_makeFunction (mg := X.mg) (c := c) (P := P) (ps := ps) (closure_ok hfree) I.inv.ok.glob (I.inv.mod.glob.keeps I.inv.bk) hcode (TB.code.keeps I.inv.bk) hP' ht hc TB.gP bP fun c' ctv h' tk hx hge hlt hrec htb =>
        ⟨c', ctv, h', tk, rfl, rfl, hx, hge, hlt, hrec, htb⟩))) (fun u s' ⟨hn, c', ctv, h', tk, eu, es, hx, hge, hlt, hrec, htb⟩ => ?_) fun _ _ z => z.2.elim
    subst eu es
    refine h _ _ hn ⟨h'.objs.size, c', (X.mg "__name__").getD .none, ctv, ⟨upd (upd G.H P (.tbl (ps ++ #[rawInt pos.line, rawInt pos.col, .ref c']))) c' (LamX.CodeO c' (X.env.qual ++ "<lambda>")), G.as, G.ow, G.oa⟩, rfl, ?_⟩
    obtain ⟨c2, oc, vs, t, e2, hoc, hd, hv⟩ := hrec
    cases e2
    have hsz : s.heap.objs.size ≤ h'.objs.size := Nat.le_trans hge (Nat.le_of_lt hlt)
    have nC : G.H c' = none := I.inv.hok.fresh hge
    have nPc : P ≠ c' := ne_of_none hP nC
    have keep : ∀ b o, b ≠ P → s.heap.get? b = some o → (h'.push (lamO (X.env.qual ++ "<lambda>") params body scope (cloFrom X.env.cells scope.names []) ((X.mg "__name__").getD .none) c' ctv)).get? b = some o := fun b o hb e => Heap.get?_push_of_some _ (hx b o hb e)
    have J := LamX.inv_table (t' := tk) (more := #[rawInt pos.line, rawInt pos.col, .ref c']) (h' := h'.push (lamO (X.env.qual ++ "<lambda>") params body scope (cloFrom X.env.cells scope.names []) ((X.mg "__name__").getD .none) c' ctv)) I.inv hP keep
      (Heap.get?_push_of_some _ htb) hge ⟨oc, vs, t, Heap.get?_push_of_some _ hoc, hd, hv⟩
    have at_ : ∀ b, b ≠ P → b ≠ c' → upd (upd G.H P (.tbl (ps ++ #[rawInt pos.line, rawInt pos.col, .ref c']))) c' (LamX.CodeO c' (X.env.qual ++ "<lambda>")) b = G.H b := fun b h1 h2 => by rw [upd_ne h2, upd_ne h1]
    have x1 : Ext G ⟨upd (upd G.H P (.tbl (ps ++ #[rawInt pos.line, rawInt pos.col, .ref c']))) c' (LamX.CodeO c' (X.env.qual ++ "<lambda>")), G.as, G.ow, G.oa⟩ := by
      refine ⟨fun b o e => ?_, fun b u e hb => ?_, fun _ _ e => e, fun _ hb => .inl hb, fun b e => ?_, rfl, rfl⟩
      · refine (at_ b (fun z => ?_) (ne_of_none e nC)).trans e
        rw [z, hP] at e
        cases e
      · exact (at_ b (fun z => hb (z ▸ hPas)) (ne_of_none e nC)).trans e
      · by_cases h1 : b = c'
        · rw [h1]; exact nC
        · by_cases h2 : b = P
          · have e' : upd (upd G.H P (.tbl (ps ++ #[rawInt pos.line, rawInt pos.col, .ref c']))) c' (LamX.CodeO c' (X.env.qual ++ "<lambda>")) b = none := e
            rw [upd_ne h1, h2, upd_same] at e'
            cases e'
          · exact (at_ b h2 h1).symm.trans e
    have nCas : c' ∉ G.as := notin_as I nC
    have sto : StoOk T.T ⟨upd (upd G.H P (.tbl (ps ++ #[rawInt pos.line, rawInt pos.col, .ref c']))) c' (LamX.CodeO c' (X.env.qual ++ "<lambda>")), G.as, G.ow, G.oa⟩ tk st := by
      refine ⟨I.sto.len, I.sto.nd, fun k b cl k1 k2 => ?_⟩
      have k1 : G.as[k]? = some b := k1
      have q := I.sto.cell k b cl k1 k2
      have bP : b = P → k = j := fun z => nodup_addr I.sto.nd k1 (z ▸ hj)
      cases cl with
      | lst ds =>
        obtain ⟨o', us', q3, q4, q5⟩ := q
        refine ⟨o', us', (at_ b (fun z => ?_) (ne_of_none q3 nC)).trans q3, q4, Reps.mono x1 hn q5⟩
        have := bP z
        subst this
        rw [hst] at k2
        cases k2
      | tbl q' =>
        by_cases hk : k = j
        · subst hk
          rw [hst] at k2
          cases k2
          rw [hj] at k1
          cases k1
          refine ⟨ps ++ #[rawInt pos.line, rawInt pos.col, .ref c'], by show upd _ _ _ _ = _; rw [upd_ne nPc, upd_same], ?_, fun p' cv hcv => ?_⟩
          · have e : (ps ++ #[rawInt pos.line, rawInt pos.col, .ref c']).toList = ps.toList ++ [rawInt pos.line, rawInt pos.col, .ref c'] := by simp
            rw [e]
            exact PySem.TriplesOk_snoc _ _ _ _ ht
          · have e : (ps ++ #[rawInt pos.line, rawInt pos.col, .ref c']).toList = ps.toList ++ [rawInt pos.line, rawInt pos.col, .ref c'] := by simp
            rw [e] at hcv
            rcases LamX.among_app _ ht hcv with z | z
            · obtain ⟨c0, e1, e3, e4⟩ := ha p' cv z
              exact ⟨c0, e1, x1.keep c0 _ e3 e4, e4⟩
            · exact ⟨c', z, upd_same, nCas⟩
        · obtain ⟨ps', a1, a2, a3⟩ := q
          refine ⟨ps', (at_ b (fun z => hk (bP z)) (ne_of_none a1 nC)).trans a1, a2, fun p' cv hcv => ?_⟩
          obtain ⟨c0, e1, e3, e4⟩ := a3 p' cv hcv
          exact ⟨c0, e1, x1.keep c0 _ e3 e4, e4⟩
    refine ⟨x1, I.move (G' := ⟨upd (upd G.H P (.tbl (ps ++ #[rawInt pos.line, rawInt pos.col, .ref c']))) c' (LamX.CodeO c' (X.env.qual ++ "<lambda>")), G.as, G.ow, G.oa⟩) J x1 hn (fun m ⟨oL, es, ep, q1, q2⟩ => ⟨oL, es, ep, keep _ _ nLP q1, q2⟩) (fun y cc v e ⟨oc, q1, q2⟩ => ⟨oc, keep _ _ (fun z => ?_) q1, q2⟩) sto, Heap.get?_push_size _ rfl, ?_, lam_nofr I hsz, upd_same, nCas⟩
    · have := I.inv.freeC y cc e
      rw [z, hP] at this
      cases this
    · have n1 : h'.objs.size ≠ c' := Nat.ne_of_gt hlt
      have n2 : h'.objs.size ≠ P := Nat.ne_of_gt (Nat.lt_of_lt_of_le (Heap.lt_size hP') hsz)
      exact (at_ _ n2 n1).trans (I.inv.hok.fresh hsz)
  | some cv =>
    obtain ⟨c', e, hco, hca⟩ := ha pos cv hc
    subst e
    refine wpAny_mono (PySem.wpAny_toks (Q := fun u s' => ∃ (ctv : Value) (h' : Heap) (tk : Tok), u = .ref h'.objs.size ∧ s' = { s with heap := h'.push (lamO (X.env.qual ++ "<lambda>") params body scope (cloFrom X.env.cells scope.names []) ((X.mg "__name__").getD .none) c' ctv), toks := tk } ∧
        (∀ b o, s.heap.get? b = some o → h'.get? b = some o) ∧ s.heap.objs.size ≤ h'.objs.size) (E := fun _ _ => False)
      (PySem.W.kla_eval hdef (PySem.W.kla_makeFunctionHit (mg := X.mg) (c := c) (P := P) (ps := ps) (closure_ok hfree) I.inv.ok.glob (I.inv.mod.glob.keeps I.inv.bk) hcode (TB.code.keeps I.inv.bk) hP' ht hc bP fun ctv h' tk hx hsz =>
        ⟨ctv, h', tk, rfl, rfl, hx, hsz⟩))) (fun u s' ⟨hn, ctv, h', tk, eu, es, hx, hsz⟩ => ?_) fun _ _ z => z.2.elim
    subst eu es
    exact h _ _ hn ⟨h'.objs.size, c', (X.mg "__name__").getD .none, ctv, G, rfl, Ext.refl G, I.kept (fun b o e => Heap.get?_push_of_some _ (hx b o e)) hn, Heap.get?_push_size _ rfl, I.inv.hok.fresh hsz, lam_nofr I hsz, hco, hca⟩
end
end DL
namespace DL
open PySem PySem.Spec PyProof.Rows L2
/-! ### a lambda is called, in the def that got it -/
def plainE (ρ : Env_) : Env_ := ρ.map fun o => o.filter plain
theorem plainE_some {ρ : Env_} {i : Nat} {d : D} (h : (plainE ρ)[i]? = some (some d)) : ρ[i]? = some (some d) ∧ plain d = true := by
  unfold plainE at h
  rw [List.getElem?_map] at h
  cases q : ρ[i]? with
  | none => rw [q] at h; cases h
  | some o =>
    rw [q] at h
    have h2 : o.filter plain = some d := Option.some.inj h
    cases o with
    | none => cases h2
    | some e =>
      have h2 : (if plain e = true then some e else none) = some d := h2
      by_cases hp : plain e = true
      · rw [if_pos hp] at h2
        cases h2
        exact ⟨rfl, hp⟩
      · rw [if_neg hp] at h2
        cases h2
def eAct (i : Nat) (f : Addr) (th : Store → R D) : EM := fun ρ st => match ρ[i]? with
  | some (some (.adr f')) => if f' = f then th st else .bad
  | _ => .bad
theorem eAct_at {i : Nat} {f : Addr} {th : Store → R D} {ρ : Env_} {st : Store} (h : eAct i f th ρ st ≠ .bad) : ρ[i]? = some (some (.adr f)) ∧ eAct i f th ρ st = th st := by
  unfold eAct at h ⊢
  split at h
  · next f' e =>
    split at h
    · next e2 => subst e2; exact ⟨e, if_pos rfl⟩
    · exact absurd rfl h
  · exact absurd rfl h
section
variable {X : Cx} {T : Fx} {pins : List (Addr × Obj)} {G GZ : Gh} {ρ : Env_} {st stZ : Store} {s sZ : Shared} {params : Arguments} {body : Expr} {scope : Scope} {f c' : Addr} {A : Around} {outer : List Env} {mb : EM}
theorem entry_sto {T : Tx} {G : Gh} {n n' : Nat} {st : Store} (h : StoOk T G n st) (hn : n ≤ n') : StoOk T (entry G) n' st := ⟨h.len, h.nd, fun i a c h1 h2 => by
  have q := h.cell i a c h1 h2
  cases c with
  | lst es =>
    obtain ⟨o, ws, q1, q2, q3⟩ := q
    exact ⟨o, ws, q1, q2, Reps.smono (entry_sx G) hn q3⟩
  | tbl q' => exact q⟩
theorem lam_startD {h₁ : Heap} {tk : Nat} (I : InvD X T pins G ρ st s) (L : LamX.LamS X.env.scope scope) (c : CallSt X.prog X.w X.K X.mg X.base A outer T.T GZ stZ sZ) (hd : A.handled = none) (un : Un (frs X.stack) [] G.H GZ.H s.heap sZ.heap) (sx : SExt G GZ) (tks : s.toks ≤ sZ.toks)
    (hns : h₁.Ns sZ.heap.objs.size fun y => ([] : List (Str × Value)).reverse.lookup y) (kp : ∀ b o, sZ.heap.get? b = some o → h₁.get? b = some o) (htk : sZ.toks ≤ tk) :
    InvD (LamX.lamCx X A outer sZ GZ.H C8.E0 scope f c') ⟨T.T, entry GZ, false, sZ.toks⟩ [] (entry GZ) (plainE ρ) stZ { sZ with heap := h₁, toks := tk } := by
  have J := LamX.lam_start2 (E := C8.E0) (f := f) (c' := c') (tk := tk) I.inv L c.e0 hd un hns kp
  refine ⟨J, ⟨_, hns, fun i y d e1 e2 e3 => ?_⟩, entry_sto c.sto htk, Nat.le_trans c.tok htk, c.pos, ?_, c.owd, ⟨fun _ _ h => h, fun _ _ h _ => h, fun _ _ h => h, fun _ h => .inl h, fun _ h => h, fun _ h => h⟩, fun i d e => plain_notNew (plainE_some e).2, (fun _ _ h => nomatch h), (fun _ _ h => nomatch h), (fun _ _ _ h _ => nomatch h), (fun z => nomatch z), c.tb, htk⟩
  · obtain ⟨a2, hp⟩ := plainE_some e2
    have e3 : Vis scope y := e3
    have k : scope.names.lookup y = some .free := by
      rcases e3 with k | k | k
      · exact absurd rfl (L.own _ (PySem.mem_of_lookup k)).1
      · exact absurd rfl (L.own _ (PySem.mem_of_lookup k)).2
      · exact k
    have hy : (y, NameKind.free) ∈ scope.names := PySem.mem_of_lookup k
    have par := L.free _ hy rfl
    obtain ⟨m, hn, hl⟩ := I.loc
    obtain ⟨v, r, q⟩ := hl i y d e1 a2 (par.elim (fun k => .inr (.inl k)) (fun k => .inr (.inr k)))
    obtain ⟨c1, h1⟩ := L.has I.inv.ok _ hy rfl
    obtain ⟨c2, h2⟩ := mem_lookup (cloFrom_has (cells := X.env.cells) (acc := []) hy)
    have e12 : c2 = c1 := by
      rcases cloFrom_mem (PySem.mem_of_lookup h2) with hm | ⟨_, z⟩
      · cases hm
      · rw [z]
        have h1' : X.env.cells.lookup y = some c1 := h1
        rw [h1'] <;> rfl
    refine ⟨v, Rep.smono (sx.trans (entry_sx GZ)) (Nat.le_trans tks htk) hp r, .inr ⟨.inr k, c2, h2, ?_⟩⟩
    rw [e12]
    rcases q with ⟨k', _⟩ | ⟨_, c3, e', ⟨o, ho, hd'⟩⟩
    · have k' : X.env.scope.names.lookup y = some .local := k'
      rcases par with k2 | k2 <;> rw [show X.env.scope.names.lookup y = _ from k2] at k' <;> cases k'
    · have h1' : X.env.cells.lookup y = some c1 := h1
      rw [h1'] at e'
      cases e'
      obtain ⟨sl, z⟩ := un.any ho (I.inv.freeC y _ h1') (by simp)
      exact ⟨_, kp _ _ z, hd'⟩
  · show (plainE ρ).length = X.N.length
    unfold plainE
    rw [List.length_map]
    exact I.len
theorem ext_entry {G G' : Gh} (x : Ext (entry G) G') : FExt G G' := ⟨x.fr, x.keep, x.pre, x.new, x.dom, fun b h => by rw [x.ow]; exact h⟩
/-- the lambda's call -/
theorem lam_run {k : Nat} {pm ctv : Value} (I : InvD X T pins G ρ st s) (L : LamX.LamS X.env.scope scope) (hf : s.heap.get? f = some (lamO (X.env.qual ++ "<lambda>") params body scope (cloFrom X.env.cells scope.names []) pm c' ctv))
    (hco : G.H c' = some (LamX.CodeO c' (X.env.qual ++ "<lambda>"))) (hca : c' ∉ G.as) (hbind : bindArgs (PySem.W.kla_fn "<lambda>" (X.env.qual ++ "<lambda>") params body scope (cloFrom X.env.cells scope.names []) pm (.ref c') ctv) ⟨[], []⟩ = pure [])
    (hbody : ∀ (g0 : Gh), Room k (A.deeper (LamX.lamEnv X scope sZ.heap.objs.size f c')) → DE (LamX.lamCx X A outer sZ GZ.H C8.E0 scope f c') ⟨T.T, g0, false, sZ.toks⟩ body mb)
    (hr : Room (k + 1) A) (c : CallSt X.prog X.w X.K X.mg X.base A outer T.T GZ stZ sZ) (hfZ : sZ.heap.get? f = s.heap.get? f) (un : Un (frs X.stack) [] G.H GZ.H s.heap sZ.heap) (fx : FExt G GZ) (tks : s.toks ≤ sZ.toks) (hF : mb (plainE ρ) stZ ≠ .bad) :
    codeAny (model X.prog X.w) A (.call (.ref f) ⟨[], []⟩) (EndR X.prog X.w X.mg outer T.T GZ sZ (mb (plainE ρ) stZ)) sZ := by
  have hfz := hfZ.trans hf
  obtain ⟨⟨oc, vs, t, hoc, hdc, hvc⟩, _, _⟩ := c.e0.hok c' _ (fx.keep c' _ hco hca)
  have lim : sZ.heap.NoLimit := c.e0.mod.nolimit.keeps fun b o e => (c.e0.bs b o e).1
  refine PySem.W.kla_callFunE hr.depth hfz rfl L.co L.gen rfl ⟨c', oc, vs, t, rfl, hoc, hdc, hvc⟩ ?_
  rw [hbind]
  refine wpAny_pure (wpAny_newFunctionEnv (fun y hy => (L.own y hy).2) (fun y hy => absurd hy (by simp)) (fun h₁ hns hsb => ⟨lim.fresh _ hsb, ?_⟩) L.kind)
  show codeAny _ _ (.expr body (LamX.lamEnv X scope sZ.heap.objs.size f c')) _ _
  have kp : ∀ b o, sZ.heap.get? b = some o → h₁.get? b = some o := fun b o e => hsb.extBut b o (Nat.ne_of_lt (Heap.lt_size e)) (Heap.get?_push_of_some _ e)
  have J := lam_startD (f := f) (c' := c') I L c hr.hd un ⟨fx.fr, fx.pre⟩ tks hns kp (tk := sZ.toks + ([] : List (Str × Value)).length) (Nat.le_add_right _ _)
  refine PySem.W.kla_codeExpr (wpAny_mono (PySem.wpAny_toks (hbody (entry GZ) (hr.deeper _) [] _ (entry GZ) (plainE ρ) stZ J hF)) (fun u s' hs => ?_) fun e s' hs => ?_)
  · obtain ⟨hn, d, st', G', e1, x1, J', rd, hnew⟩ := hs
    refine ⟨d, st', leave GZ G', e1, J'.inv.os, J'.inv.bare, J'.inv.base, J'.inv.hok, leave_ext (ext_entry x1), leave_sto J'.sto (Nat.le_refl _), ?_, ?_⟩
    · cases d with
      | own i l =>
        obtain ⟨a, o, ws, q1, q2, q3, q4, q5, q6, q7⟩ := rd
        rw [x1.oa] at q5
        cases q5
      | new l =>
        obtain ⟨a, o, ws, q1, q2, q3, q4, q6, q7⟩ := rd
        have h0 := hnew l a rfl q1
        refine ⟨a, o, ws, q1, q2, q3, ?_, q6, Reps.smono (leave_sx GZ G') (Nat.le_refl _) q7⟩
        intro hw
        exact c.owd a hw h0
      | _ => exact Rep.smono (leave_sx GZ G') (Nat.le_refl _) rfl rd
    · intro es a h1 h2
      exact hnew es a h1 h2
  · obtain ⟨hn, ex, st', G', e1, x1, a, B, sI, cls, dd, rfl, J', nb, up, sky, na, os, ag, tk, xo⟩ := hs
    rw [e1]
    have hx : XE (LamX.lamCx X A outer sZ GZ.H C8.E0 scope f c') (fun cls dd _ H' => ∃ G' n, G'.H = H' ∧ FExt GZ G' ∧ StoOk T.T G' n st' ∧ n ≤ s'.toks ∧ ExOk X G' ex cls dd) (.ref a) s' :=
      ⟨a, B, sI, [], _, G'.H, cls, dd, rfl, J'.inv, nb, up, sky, na, os, ag, G', sI.toks, rfl, ext_entry x1, J'.sto, tk, ⟨xo.c, xo.p⟩⟩
    have lv := XE.leave (E := fun cls dd H' => ∃ G' n, G'.H = H' ∧ FExt GZ G' ∧ StoOk T.T G' n st' ∧ n ≤ s'.toks ∧ ExOk X G' ex cls dd) (E₁ := fun _ _ => False) rfl rfl rfl (fun _ _ _ _ q => q) hx
    refine wpAny_mono (PySem.wpAny_toks lv) (fun _ s2 z => ?_) fun _ _ z => z.2.elim
    obtain ⟨hn2, a2, B2, H2, cls2, d2, q1, q2, q3, q4, q5, q6, q7, G2, n2, q8, q9, q10, q11, q12⟩ := z
    subst q8
    exact ⟨a2, B2, _, cls2, d2, q1, q2, q3, q4, q5, q6, q7, ex, st', leave GZ G2, n2, rfl, rfl, leave_ext q9, leave_sto q10 (Nat.le_refl _), Nat.le_trans q11 hn2, q12.c, q12.p⟩
end
end DL
namespace DL
open PySem PySem.Spec PyProof.Rows L2
/-! ### f(lambda: e): the def f calls what it gets -/
/-- such a def, by its body: f the function's address, th what its call does -/
structure Fth (P : Program) (w : World) (K : PySem.W.Frag) (mg : Str → Option Value) (base : Heap) (T : Tx) (k : Nat) (x a : Str) (N : List Str) (m : Addr → (Store → R D) → SM) : Prop where
  ex : ∃ (g : Addr) (qual : Str) (params : Arguments) (body : List Stmt) (scope : Scope) (dV kV doc pm cdv ct oc : Value) (an od : Option Addr) (osl : Array (Option Value)), mg x = some (.ref g) ∧ PySem.W.keepIn K (.ref g) = true ∧
    K.lookup g = some ⟨oc, od, .func (PySem.W.fnOf x qual params body scope dV kV doc pm an cdv ct), osl⟩ ∧ PySem.W.codeIn K cdv qual = true ∧ FnScope N [a] scope ∧ Vis scope a ∧ Binds K (PySem.W.fnOf x qual params body scope dV kV doc pm an cdv ct) [a] [] ∧
    ∀ (A : Around) (outer : List Env) (s : Shared) (G : Gh) (f : Addr) (th : Store → R D), Room k (A.deeper (envOfC qual scope s.heap.objs.size g cdv)) →
      (∀ p1 p2 : Pos, DE (BX P w K mg base N qual scope g cdv A outer s G.H) ⟨T, G, true, s.toks⟩ (.Call (.Name a p1) [] [] p2) (eAct 0 f th)) → DSs (BX P w K mg base N qual scope g cdv A outer s G.H) ⟨T, G, true, s.toks⟩ body (m f th)
/-- q: the lambda's name; the j-th cell is the table of the def that makes it -/
def eLam (j : Nat) (q : Str) (F : (Store → R D) → Store → R D) (mb : EM) : EM := fun ρ st => match st[j]? with
  | some (.tbl q') => if q' = q then F (fun st' => mb (plainE ρ) st') st else .bad
  | _ => .bad
theorem eLam_at {j : Nat} {q : Str} {F : (Store → R D) → Store → R D} {mb : EM} {ρ : Env_} {st : Store} (h : eLam j q F mb ρ st ≠ .bad) : st[j]? = some (.tbl q) ∧ eLam j q F mb ρ st = F (fun st' => mb (plainE ρ) st') st := by
  unfold eLam at h ⊢
  split at h
  · next f' e =>
    split at h
    · next e2 => subst e2; exact ⟨e, if_pos rfl⟩
    · exact absurd rfl h
  · exact absurd rfl h
/-- where the lambda is made: the maker's code object and its table -/
structure Maker (X : Cx) (T : Fx) (j : Nat) (q : Str) : Prop where
  ex : ∃ c P, X.env.code = .ref c ∧ LamX.TabB X.base X.mg c P ∧ T.T.tb[j]? = some P
  q : X.env.qual ++ "<lambda>" = q
section
variable {X : Cx} {T : Fx} {params : Arguments} {body : Expr} {scope : Scope} {x a : Str} {N : List Str} {m : Addr → (Store → R D) → SM} {F : (Store → R D) → Store → R D} {mb : EM} {j k : Nat} {q : Str} {p lpos pos : Pos}
theorem de_lam (h : Fth X.prog X.w X.K X.mg X.base T.T (k + 1) x a N m) (hr : Room (k + 2) X.A) (hg : Gl X x) (M : Maker X T j q) (hN : N[0]? = some a) (L : LamX.LamS X.env.scope scope) (hdef : defaultsOf params X.env = ([], []) := by rfl)
    (hind : ∀ f th st, runB N.length (m f th) [.adr f] st = F th st)
    (hbody : ∀ (A : Around) (outer : List Env) (s : Shared) (H : Hp) (g0 : Gh) (f c' : Addr), Room k (A.deeper (LamX.lamEnv X scope s.heap.objs.size f c')) → DE (LamX.lamCx X A outer s H C8.E0 scope f c') ⟨T.T, g0, false, s.toks⟩ body mb)
    (hbind : ∀ (q : Str) (cl : List (Str × Addr)) (pm cv ctv : Value), bindArgs (PySem.W.kla_fn "<lambda>" q params body scope cl pm cv ctv) ⟨[], []⟩ = pure [] := by intro _ _ _ _ _; rfl)
    (hdb : (x == ("__debug__" : Str)) = false := by decide) (hd : (a == ("__debug__" : Str)) = false := by decide) (hcd : (a == ("__classdict__" : Str)) = false := by decide)
    (he : starEach [.Lambda params body scope lpos] X.env = [(false, eval (.Lambda params body scope lpos) X.env)] := by rfl) : DE X T (.Call (.Name x p) [.Lambda params body scope lpos] [] pos) (eLam j q F mb) := .mk fun pins s G ρ st I h0 => by
  obtain ⟨hst, eq⟩ := eLam_at h0
  rw [eq] at h0 ⊢
  obtain ⟨g, qual, params', body', sg, dV, kV, doc, pm, cdv, ct, oc, an, od, osl, mx, kp, lk, hcod, Sc, va, bi, hbd⟩ := h.ex
  obtain ⟨c, P, e1, TB, e3⟩ := M.ex
  have hq := M.q
  subst hq
  refine wpAny_Call_Name_kw (ld_glob I.inv hg mx ?_ hdb)
  refine PySem.W.callWith_K (h₀ := X.base) I.inv.ok.mod.kin kp ?_ (by rw [he]; rfl) (by rfl)
  rw [he]
  refine Calls.spliced_cons (lam_makeD I TB e1 (I.tb j P e3) hst hdef (L.has I.inv.ok) fun u s1 hn z => ?_)
  obtain ⟨f, c', pmv, ctv, G1, rfl, x1, I1, hf, hfn, hfr, hco, hca⟩ := z.ex
  refine Calls.spliced_nil ⟨I1.inv.kIn, ?_⟩
  rw [← hind f] at h0 ⊢
  have hact : ∀ p1 p2 : Pos, Room (k + 1) (X.A.deeper (envOfC qual sg s1.heap.objs.size g cdv)) → DE (BX X.prog X.w X.K X.mg X.base N qual sg g cdv X.A X.stack s1 G1.H) ⟨T.T, G1, true, s1.toks⟩ (.Call (.Name a p1) [] [] p2) (eAct 0 f fun st' => mb (plainE ρ) st') :=
    fun p1 p2 hr' => .mk fun pinsZ sZ GZ ρZ stZ IZ hz => by
      obtain ⟨ez, eqz⟩ := eAct_at hz
      rw [eqz] at hz ⊢
      refine wpAny_Call_Name_kw (name_ok IZ hN va hd hcd ez fun u r => ?_)
      obtain rfl : u = Value.ref f := r
      have hfz : sZ.heap.get? f = s1.heap.get? f := by
        rw [hf]
        exact IZ.inv.base.keep f _ hf hfn hfr (fun z => nomatch (show f ∈ ([] : List Addr) from z))
      refine PySem.W.callWith_F0 ⟨_, _, _, _, hfz.trans hf⟩ ?_
      have go : wpAny (model X.prog X.w) (X.A.deeper (envOfC qual sg s1.heap.objs.size g cdv)) (call (.ref f) []) (EndOk X.prog X.w (envOfC qual sg s1.heap.objs.size g cdv :: X.stack) T.T GZ sZ (mb (plainE ρ) stZ)) (EndX X.prog X.w X.mg (envOfC qual sg s1.heap.objs.size g cdv :: X.stack) T.T GZ sZ (mb (plainE ρ) stZ)) sZ := by
        refine wpAny_call (codeAny_mono (lam_run I1 L hf hco hca (hbind _ _ _ _ _) (fun g0 hr2 => hbody _ _ _ _ g0 f c' hr2) hr' IZ.callSt hfz IZ.inv.base IZ.ext IZ.tk0 hz) fun r s' hq => ?_)
        cases r with
        | error e => exact hq
        | ok fl =>
          cases fl with
          | ret u => exact hq
          | next => exact False.elim hq
          | brk => exact False.elim hq
          | cont => exact False.elim hq
      exact wpAny_mono (PySem.wpAny_toks go) (fun u s' ⟨hn, z⟩ => IZ.after hn z) fun x s' ⟨hn, z⟩ => IZ.afterX hn z
  have rp : Reps T.T G1 s1.toks [.adr f] [.ref f] := ⟨_, _, rfl, rfl, rfl, rfl⟩
  have go : wpAny (model X.prog X.w) X.A (call (.ref g) [.ref f]) (EndOk X.prog X.w X.stack T.T G1 s1 (runB N.length (m f fun st' => mb (plainE ρ) st') [.adr f] st)) (EndX X.prog X.w X.mg X.stack T.T G1 s1 (runB N.length (m f fun st' => mb (plainE ρ) st') [.adr f] st)) s1 := by
    refine wpAny_call (codeAny_mono (fnd_at lk hcod Sc (fun hr' => hbd X.A X.stack s1 G1 f _ hr' fun p1 p2 => hact p1 p2 hr') hr I1.callSt (bi s1 [.ref f] I1.inv.kIn rfl) rp rfl h0) fun r s' hq => ?_)
    cases r with
    | error e => exact hq
    | ok fl =>
      cases fl with
      | ret u => exact hq
      | next => exact False.elim hq
      | brk => exact False.elim hq
      | cont => exact False.elim hq
  exact wpAny_mono (PySem.wpAny_toks go) (fun u s' ⟨hn, z⟩ => (I1.after hn z).up x1 fun _ _ q => q) fun x s' ⟨hn, z⟩ => (I1.afterX hn z).up x1 fun _ _ q => q
end
end DL
namespace DL
open PySem PySem.Spec PyProof.Rows L2
/-! ### what the printed derivations lean on -/
abbrev CM (K : PySem.W.Frag) (mg : Str → Option Value) (es : List Str) (x : Str) : Prop := ∀ c ∈ es, mg c = some (.ref (He.ga K c)) ∧ PySem.W.exmOne K (.ref (He.ga K c)) (.ref (He.ga K x)) = some (decide (c = x))
theorem cm_nil {K : PySem.W.Frag} {mg : Str → Option Value} {x : Str} : CM K mg [] x := fun c h => nomatch h
theorem cm_cons {K : PySem.W.Frag} {mg : Str → Option Value} {es : List Str} {c x : Str} {b : Bool} (h1 : mg c = some (.ref (He.ga K c))) (h2 : PySem.W.exmOne K (.ref (He.ga K c)) (.ref (He.ga K x)) = some b) (r : CM K mg es x) (hb : b = decide (c = x) := by decide) : CM K mg (c :: es) x := fun c' h => by
  rcases List.mem_cons.mp h with e | e
  · subst e; exact ⟨h1, by rw [h2, hb]⟩
  · exact r c' e
section
variable {fa : List He.Fa} {fn : List He.DefD} {ts : List Str} {T : Nat} {tl : List (Str × Str)} {xk : PySem.W.Frag → Bool} {tb : List Addr} {K : PySem.W.Frag} {mg : Str → Option Value} {base : Heap}
theorem Wd.exm (W : Wd fa fn ts T tl xk K mg base tb) (i : Nat) {x y : Str} {b : Bool} (h : fa[i]? = some (.exm x y b) := by rfl) : PySem.W.exmOne K (.ref (He.ga K x)) (.ref (He.ga K y)) = some b := He.exm_ok (W.says.1.fact i h)
/-- the def that makes lambdas -/
theorem Wd.maker (W : Wd fa fn ts T tl xk K mg base tb) (j : Nat) {x q0 : Str} (h : tl[j]? = some (x, q0)) {P : Program} {w : World} {N : List Str} {qual : Str} {scope : Scope} {cdv : Value} {A : Around} {outer : List Env} {s : Shared} {H : Hp} {G : Gh} {fl : Bool} {n lo : Nat}
    (hc : ∀ c, codeAt K (He.fAd K (x, none)) = some c → cdv = .ref c) (hq : qual ++ ".<locals>." ++ "<lambda>" = q0 := by decide) : Maker (BX P w K mg base N qual scope (He.fAd K (x, none)) cdv A outer s H) ⟨⟨lo, mg, tb, w⟩, G, fl, n⟩ j q0 := by
  obtain ⟨c, Pa, h1, h2, h3⟩ := (W.tabs j _ h).ex
  exact ⟨⟨c, Pa, hc c h1, h2, h3⟩, hq⟩
end
/-- a def that calls what it gets -/
theorem fth_mk {P : Program} {w : World} {K : PySem.W.Frag} {mg : Str → Option Value} {base : Heap} {T : Tx} {x qual a : Str} {params : Arguments} {body : List Stmt} {scope : Scope} {f : Addr} {fd : FuncData} (k : Nat) (N : List Str) (m : Addr → (Store → R D) → SM)
    (hF : FunD K x qual params body scope [] [] f fd) (S : FnScope N [a] scope) (hv : Vis scope a) (g : mg x = some (.ref f)) (bs : Binds K fd [a] [])
    (hbody : ∀ (cdv : Value) (A : Around) (outer : List Env) (s : Shared) (G : Gh) (f' : Addr) (th : Store → R D), Room k (A.deeper (envOfC qual scope s.heap.objs.size f cdv)) →
      (∀ p1 p2 : Pos, DE (BX P w K mg base N qual scope f cdv A outer s G.H) ⟨T, G, true, s.toks⟩ (.Call (.Name a p1) [] [] p2) (eAct 0 f' th)) → DSs (BX P w K mg base N qual scope f cdv A outer s G.H) ⟨T, G, true, s.toks⟩ body (m f' th)) : Fth P w K mg base T k x a N m := by
  obtain ⟨oc, od, dV, kV, doc, pm, an, cdv, ct, osl, rfl, lk, hcd, _, _⟩ := hF.ex
  exact ⟨f, qual, params, body, scope, dV, kV, doc, pm, cdv, ct, oc, an, od, osl, g, hF.kp, lk, hcd, S, hv, bs, fun A outer s G f' th hr h => hbody cdv A outer s G f' th hr h⟩
end DL
namespace DL
open PySem PySem.Spec PyProof.Rows L2
/-! ### the least of texts -/
def strsOf : List D → Option (List (List Nat))
  | [] => some []
  | .str w :: r => (strsOf r).map (w :: ·)
  | _ => none
/-- which text is the least, the first of such -/
def bestS (ws : List (List Nat)) : Nat := argBest (fun i j => decide (ws.getD i [] < ws.getD j [])) (ws.length - 1)
def fMinS : D → Option D := onL fun l => match strsOf l with
  | some ws => if 0 < ws.length then some (.str (ws.getD (bestS ws) [])) else none
  | none => none
def pMinL : Store → List D → Option D := orP (p1 fMin) (p1 fMinS)
theorem CmpOf.strs_lt {prog : Program} {w : World} {A : Around} {P : Nat → Value → Prop} (val : Nat → List Nat) (hval : ∀ i v, P i v → ∃ t, v = .str (S (val i)) t) :
    CmpOf prog w A .Lt P (fun i j => decide (val i < val j)) := fun i j vi vj s Q E hi hj h => by
  obtain ⟨t, rfl⟩ := hval i vi hi
  obtain ⟨u, rfl⟩ := hval j vj hj
  exact PyProof.Rows.lt_str (x := S (val i)) (y := S (val j)) (by simpa using h)
theorem strs_at {T : Tx} {G : Gh} {n : Nat} : ∀ {l : List D} {ws : List (List Nat)} {us : List Value} {i : Nat} {v : Value}, strsOf l = some ws → Reps T G n l us → us[i]? = some v → Rep T G n (.str (ws.getD i [])) v ∧ us.length = ws.length
  | [], _, _, _, _, e, r, h => by
    cases e
    cases (show _ = [] from r)
    cases h
  | .str w :: l, ws, us, i, v, e, ⟨u, r', h1, _, h2, h3⟩, h => by
    obtain ⟨ws', e1, e2⟩ := Option.map_eq_some_iff.mp (show (strsOf l).map (w :: ·) = some ws from e)
    subst e2 h1
    have hlen : ∀ {l : List D} {ws : List (List Nat)} {us : List Value}, strsOf l = some ws → Reps T G n l us → us.length = ws.length := by
      intro l
      induction l with
      | nil => intro ws us e r; cases e; cases (show _ = [] from r); rfl
      | cons d l ih =>
        intro ws us e r
        obtain ⟨u, r', h1, _, _, h3⟩ := r
        cases d with
        | str w =>
          obtain ⟨ws', e1, e2⟩ := Option.map_eq_some_iff.mp (show (strsOf l).map (w :: ·) = some ws from e)
          subst e2 h1
          simp [ih e1 h3]
        | _ => cases e
    refine ⟨?_, by simp [hlen e1 h3]⟩
    cases i with
    | zero => cases h; exact h2
    | succ i => exact (strs_at e1 h3 h).1
section
variable {X : Cx} {T : Fx} {pins : List (Addr × Obj)} {G G1 : Gh} {ρ ρ1 : Env_} {st st1 : Store} {s s1 : Shared}
theorem c_minS (hc : X.calm = true) : CallD X T (.builtin "min") (p1 fMinS) := fun pins s G ρ st us ds d E I r h => by
  obtain ⟨l, o, vs, k, rfl, h1, g1, hf⟩ := one_list I r h
  split at hf
  case h_2 => cases hf
  next ws hw =>
  split at hf
  case isFalse => cases hf
  next hpos =>
  have hd := (Option.some.inj hf).symm
  subst hd
  have hlen : vs.length = ws.length := by
    cases vs with
    | nil =>
      cases l with
      | nil => cases hw; cases hpos
      | cons _ _ => obtain ⟨_, _, e, _⟩ := g1; cases e
    | cons v vs => exact (strs_at (i := 0) hw g1 rfl).2
  refine wpAny_mono (PySem.wpAny_toks (call_min_walk (Q := fun v s' => Rep T.T G s.toks (.str (ws.getD (bestS ws) [])) v ∧ ∃ h' tk, s' = { s with heap := h', toks := tk } ∧ ∀ b u, s.heap.get? b = some u → h'.get? b = some u) (iter_any (isList_of h1) fun s₂ e2 st' hne => ?_))) (fun v s' ⟨hn, h1, h', tk, h2, k⟩ => ?_) fun _ _ z => z.2
  · subst e2
    refine ⟨_, _, _, _, _, _, _, rfl, Walks.list (A := X.A.in1) (I.inv.ok.hd hc) _ o hne vs.toArray, st', ?_, by simpa [hlen] using hpos, CmpOf.strs_lt (fun i => ws.getD i []) (fun i v hv => ?_), fun v h' tk hP hk => ⟨?_, h', tk, rfl, fun b u eo => hk b u (fun hmem => ?_) (Heap.get?_push_of_some _ eo)⟩⟩
    · intro b hb
      show b < (s.heap.push _).objs.size
      rw [Heap.size_push]
      rcases List.mem_cons.mp hb with rfl | hb
      · exact Nat.lt_succ_self _
      · rcases List.mem_cons.mp hb with rfl | hb
        · exact Nat.lt_succ_of_lt (Heap.lt_size h1)
        · cases hb
    · obtain ⟨t, e, _⟩ := (strs_at (i := i) hw g1 (by simpa using hv)).1
      exact ⟨t, e⟩
    · have := (strs_at (i := bestS ws) hw g1 (v := v) (by
        unfold bestS
        rw [List.size_toArray, hlen] at hP
        simpa using hP)).1
      exact this
    · rcases List.mem_cons.mp hmem with e1 | hmem
      · exact absurd (e1 ▸ Heap.lt_size eo) (Nat.lt_irrefl _)
      · cases hmem
  · obtain ⟨t, rfl, a1, a2, a3⟩ := h1
    exact ⟨_, st, G, rfl, Ext.refl G, I.hk h2 k hn, ⟨t, rfl, a1, by subst h2; exact Nat.lt_of_lt_of_le a2 hn, a3⟩, NewOk.of rfl⟩
theorem c_minL (hc : X.calm = true) : CallD X T (.builtin "min") pMinL := CallD.or (c_min hc) (c_minS hc)
end
end DL
namespace DL
open PySem PySem.Spec PyProof.Rows L2
/-! ### methods of lists: index, count -/
def lstV (x : D) : Option (List D) := match x.vw with
  | some (.lst l) => some l
  | _ => none
def eMetL (p : Store → D → List D → Option D) (mo : EM) (ml : EL) : EM := fun ρ st => (mo ρ st).bind fun x st1 => if (lstV x).isSome = true then (ml ρ st1).bind fun ds st2 => R.of (p st2 x ds) st2 else .bad
def pIndex : Store → D → List D → Option D := fun _ x ds => match lstV x, ds with
  | some l, [.bl b] => (blsOf l).bind fun bs => if b ∈ bs then some (.int (bs.idxOf b : Nat)) else none
  | some l, [.int i] => (intsOf l).bind fun ns => if i ∈ ns then some (.int (ns.idxOf i : Nat)) else none
  | _, _ => none
def pCount : Store → D → List D → Option D := fun _ x ds => match lstV x, ds with
  | some l, [.bl b] => (blsOf l).bind fun bs => some (.int (bs.countP (· == b) : Nat))
  | _, _ => none
section
variable {X : Cx} {T : Fx} {pins : List (Addr × Obj)} {G G1 : Gh} {ρ ρ1 : Env_} {st st1 : Store} {s s1 : Shared} {e a b o : Expr} {es : List Expr} {m ma mb mo : EM} {ml : EL} {pos p apos : Pos} {bid : String}
theorem lst_is {x : D} {u : Value} {l : List D} (I : InvD X T pins G ρ st s) (r : Rep T.T G s.toks x u) (h : lstV x = some l) : ∃ a vs k, u = .ref a ∧ s.heap.get? a = some { cls := .type "list", data := .seq vs.toArray k } ∧ Reps T.T G s.toks l vs ∧ vs.length ≤ sizeLine := by
  unfold lstV at h
  split at h
  · next l' hv =>
    cases h
    have k := I.view r hv
    cases k with
    | @lst _ o vs n h1 z1 g1 => exact ⟨o, vs, n, rfl, h1, g1, z1⟩
  · cases h
theorem de_ml1 {pp : Store → D → List D → Option D} {name : Str} (slot : Slot "list" name bid) (hty : typeOf (.builtin bid) = pure (.type "method_descriptor")) (hp : MetD X T bid pp) (ho : DE X T o mo) (ha : DA X T [e] ml)
    (hs : starEach [e] X.env = [(false, eval e X.env)] := by rfl) (hbase : attributeBase o name X.env (eval o X.env) = eval o X.env := by rfl) (hline : (apos.endLine == pos.line) = true := by rfl) : DE X T (.Call (.Attribute o name apos) [e] [] pos) (eMetL pp mo ml) := .mk fun pins s G ρ st I hb => by
  refine PySem.Call_method1 hbase hs hline ?_
  refine ho.run I (bad_l hb) (fun u s1 x st1 G1 e1 x1 I1 r1 _ _ => ?_) fun x s1 z => z.up (Ext.refl G) fun ex st' e1 => by unfold eMetL; rw [e1]; rfl
  have eq1 : eMetL pp mo ml ρ st = if (lstV x).isSome = true then (ml ρ st1).bind fun ds st2 => R.of (pp st2 x ds) st2 else .bad := by unfold eMetL; rw [e1]; rfl
  rw [eq1] at hb ⊢
  by_cases hx : (lstV x).isSome = true
  · rw [if_pos hx] at hb ⊢
    obtain ⟨l, hl⟩ := Option.isSome_iff_exists.mp hx
    obtain ⟨q, vs, k, hu, hq, _⟩ := lst_is I1 r1 hl
    have hT : s1.TypeIs u "list" := by rw [hu]; exact ⟨_, hq, rfl⟩
    have go := ha.run (pos := pos) (Q := fun us s2 => wpAny (model X.prog X.w) X.A (call (.builtin bid) (u :: us)) (OkP X T pins G ρ ((ml ρ st1).bind fun ds st2 => R.of (pp st2 x ds) st2)) (ExP X T pins G ρ ((ml ρ st1).bind fun ds st2 => R.of (pp st2 x ds) st2)) s2) (E := ExP X T pins G ρ ((ml ρ st1).bind fun ds st2 => R.of (pp st2 x ds) st2)) I1 (bad_l hb) (fun us s2 ds st2 G2 e2 x2 I2 r2 hn => by
        rw [e2, bind_ok] at hb ⊢
        obtain ⟨d, hd⟩ := of_bad hb
        rw [hd]
        exact wpAny_mono (hp pins s2 G2 ρ st2 u us x ds d _ I2 (r1.mono x2 hn) r2 hd) (fun _ _ z => z.up (x1.trans x2) fun _ _ q => q) fun _ _ z => z) fun x s1 z => z.up x1 fun ex st' e1 => by rw [e1]; rfl
    rw [hs] at go
    exact ⟨"list", _, F.plainAttrs_list, slot, hty, hT, (fun a e => by rw [hu] at e; cases e; exact ⟨_, hq, rfl⟩), Calls.callWith_builtin (by rfl) (Calls.evalArgs_plain go)⟩
  · rw [if_neg hx] at hb
    exact absurd rfl hb
theorem m_index : MetD X T "list.index" pIndex := fun pins s G ρ st u us x ds d E I rx r h => by
  unfold pIndex at h
  split at h
  · next l b hl =>
    obtain ⟨q, vs, k, rfl, hq, g, z⟩ := lst_is I rx hl
    obtain ⟨v, rfl, rv⟩ := r.one
    cases (show v = .bool b from rv)
    obtain ⟨bs, e1, e2⟩ := Option.bind_eq_some_iff.mp h
    split at e2
    · next hm =>
      cases e2
      have hv := blsOf_eq e1 g
      subst hv
      refine wpAny_mono (PySem.wpAny_toks (SeqAt.call_list_index (ks := bs) (k := b) (Q := fun v s' => (∃ t, v = .int (bs.idxOf b : Nat) t) ∧ ∃ tk, s' = { s with toks := tk }) (isList_of hq) ⟨by simp, fun j h1 h2 => ?_⟩ (by simpa using z) hm ⟨⟨_, rfl⟩, _, rfl⟩)) (fun v s' ⟨hn, ⟨t, h1⟩, tk, h2⟩ => ?_) fun _ _ z => z.2
      · have := SeqAt.EqAt.bool_bool (A := X.A.in1) (s := s) bs[j] b
        rw [show (bs[j] == b) = decide (bs[j] = b) by rw [Bool.eq_iff_iff]; simp] at this
        simpa using this
      · subst h1 h2
        exact ok_int I hn
    · cases e2
  · next l b hl =>
    obtain ⟨q, vs, k, rfl, hq, g, z⟩ := lst_is I rx hl
    obtain ⟨v, rfl, t0, rfl⟩ := r.one
    obtain ⟨bs, e1, e2⟩ := Option.bind_eq_some_iff.mp h
    split at e2
    · next hm =>
      cases e2
      have hv := intsOf_eq e1 g
      have hat : ∀ j (h1 : j < vs.length) (h2 : j < bs.length), ∃ t, vs[j] = .int bs[j] t := by
        clear h hq e1 g z hm
        induction hv with
        | nil => intro j h1; cases h1
        | cons a t r ih =>
          intro j h1 h2
          cases j with
          | zero => exact ⟨t, rfl⟩
          | succ j => exact ih j (Nat.lt_of_succ_lt_succ h1) (Nat.lt_of_succ_lt_succ h2)
      refine wpAny_mono (PySem.wpAny_toks (SeqAt.call_list_index (ks := bs) (k := b) (Q := fun v s' => (∃ t, v = .int (bs.idxOf b : Nat) t) ∧ ∃ tk, s' = { s with toks := tk }) (isList_of hq) ⟨hv.length, fun j h1 h2 => ?_⟩ (by rw [← hv.length]; exact z) hm ⟨⟨_, rfl⟩, _, rfl⟩)) (fun v s' ⟨hn, ⟨t, h1⟩, tk, h2⟩ => ?_) fun _ _ z => z.2
      · obtain ⟨t, e⟩ := hat j h1 h2
        have := SeqAt.EqAt.int_int (A := X.A.in1) (s := s) bs[j] t b t0
        rw [show (bs[j] == b) = decide (bs[j] = b) by rw [Bool.eq_iff_iff]; simp] at this
        rw [e]
        exact this
      · subst h1 h2
        exact ok_int I hn
    · cases e2
  · cases h
theorem m_count : MetD X T "list.count" pCount := fun pins s G ρ st u us x ds d E I rx r h => by
  unfold pCount at h
  split at h
  · next l b hl =>
    obtain ⟨q, vs, k, rfl, hq, g, z⟩ := lst_is I rx hl
    obtain ⟨v, rfl, rv⟩ := r.one
    cases (show v = .bool b from rv)
    obtain ⟨bs, e1, e2⟩ := Option.bind_eq_some_iff.mp h
    cases e2
    have hv := blsOf_eq e1 g
    subst hv
    refine wpAny_mono (PySem.wpAny_toks (Q := fun v s' => (∃ t, v = .int (bs.countP (· == b) : Nat) t) ∧ ∃ tk, s' = { s with toks := tk }) (call_meets F.slot_list_count ⟨_, hq, rfl⟩ F.entry_list_count (F.args_list_count_2 _ _) (SeqAt.list_countAt q (bs.map Value.bool).toArray k none #[] (.bool b) (fun v => match v with | .bool c => c == b | _ => false)) ⟨hq, fun y hy => ?_, ?_⟩)) (fun v s' ⟨hn, ⟨t, h1⟩, tk, h2⟩ => ?_) fun _ _ z => z.2
    · obtain ⟨c, hc, rfl⟩ := List.mem_map.mp (show y ∈ bs.map Value.bool from List.mem_toArray.mp hy)
      exact SeqAt.EqAt.bool_bool (A := X.A.in1) (s := s) c b
    · refine ⟨⟨s.toks, ?_⟩, _, rfl⟩
      rw [show (bs.map Value.bool).toArray.toList = bs.map Value.bool from rfl, List.countP_map]
      rfl
    · subst h1 h2
      exact ok_int I hn
  · cases h
end
end DL
namespace DL
open PySem PySem.Spec PyProof.Rows L2
/-! ### list(range(..)) -/
def rgSmall (a b : Int) : Option (List D) := if -1000000 ≤ a ∧ a ≤ 1000000 ∧ -1000000 ≤ b ∧ b ≤ 1000000 then some ((List.range (b - a).toNat).map fun (i : Nat) => D.int (a + (i : Int))) else none
def rgV' : List D → Option (List D)
  | [.int j] => rgSmall 0 j
  | _ => none
def rgV2 : List D → Option (List D)
  | [.int i, .int j] => rgSmall i j
  | _ => none
def eLRg2 (ml : EL) : EM := fun ρ st => (ml ρ st).bind fun ds st1 => R.of ((rgV2 ds).map .new) st1
def eLRg (ml : EL) : EM := fun ρ st => (ml ρ st).bind fun ds st1 => R.of ((rgV' ds).map .new) st1
section
variable {X : Cx} {T : Fx} {pins : List (Addr × Obj)} {G G1 : Gh} {ρ ρ1 : Env_} {st st1 : Store} {s s1 : Shared} {e a b o : Expr} {es : List Expr} {m ma mb mo : EM} {ml : EL} {pos p p2 pos2 : Pos}
theorem reps_rg {T : Tx} {G : Gh} {n : Nat} {a : Int} : ∀ (us : List Value) (k : Nat), (∀ j u, us[j]? = some u → ∃ t, u = Value.int (a + ((k + j : Nat) : Int)) t) → Reps T G n ((List.range us.length).map fun (i : Nat) => D.int (a + ((k + i : Nat) : Int))) us
  | [], _, _ => rfl
  | u :: r, k, h => by
    rw [List.length_cons, List.range_succ_eq_map, List.map_cons, List.map_map]
    obtain ⟨t, ht⟩ := h 0 u rfl
    refine ⟨u, r, rfl, rfl, ⟨t, ht⟩, ?_⟩
    have := reps_rg (T := T) (G := G) (n := n) (a := a) r (k + 1) fun j v e => by
      obtain ⟨t, q⟩ := h (j + 1) v e
      exact ⟨t, by rw [q, show k + 1 + j = k + (j + 1) by omega]⟩
    have e : ((fun (i : Nat) => D.int (a + ((k + i : Nat) : Int))) ∘ Nat.succ) = fun (i : Nat) => D.int (a + ((k + 1 + i : Nat) : Int)) := by
      funext i
      show D.int (a + ((k + (i + 1) : Nat) : Int)) = _
      rw [show k + (i + 1) = k + 1 + i by omega]
    rw [e]
    exact this
theorem list_rg {r : Addr} {a b : Int} {t u v : Tok} {xs : List D} (hc : X.calm = true) (I : InvD X T pins G ρ st s) (hr : IsRange s.heap r a b 1 t u v) (h : rgSmall a b = some xs) {E : Value → Shared → Prop} :
    wpAny (model X.prog X.w) X.A (call (.type "list") [.ref r]) (OkP X T pins G ρ (.ok (.new xs) st)) E s := by
  unfold rgSmall at h
  split at h
  · next hh =>
    obtain ⟨h1, h2, h3, h4⟩ := hh
    cases h
    refine wpAny_mono (PySem.wpAny_toks (call_list_range (n := (b - a).toNat) (I.inv.ok.hd hc) hr (small_one (by omega) (by omega) (by omega) (by omega)) (rangeSize_nat a b) (by omega) (Q := fun v s' => ∃ h' tk acc c', v = .ref s.heap.objs.size ∧ s' = { s with heap := h', toks := tk } ∧ (∀ b o, s.heap.get? b = some o → h'.get? b = some o) ∧ h'.get? s.heap.objs.size = some { cls := .type "list", data := .seq acc c' } ∧ ItemsOf (fun i v => ∃ t, v = .int (a + i * 1) t) acc (b - a).toNat) fun h' tk acc c' hk e' hi => ⟨h', tk, acc, c', rfl, rfl, hk, e', hi⟩)) (fun v s' ⟨hn, h', tk, acc, c', g1, g2, hk, e', hi⟩ => ?_) fun _ _ z => z.2
    subst g1 g2
    have hl : acc.toList.length = (b - a).toNat := by rw [Array.length_toList]; exact hi.1
    have rp := reps_rg (T := T.T) (G := G) (n := tk) (a := a) acc.toList 0 fun j u hj => by
      obtain ⟨t, q⟩ := hi.2 j u (by rw [← hj, Array.getElem?_toList])
      exact ⟨t, by rw [q, Int.mul_one, Nat.zero_add]⟩
    rw [hl] at rp
    simp only [Nat.zero_add] at rp
    exact ok_newG I hk (Nat.le_refl _) (by simpa using e') hn rp (by rw [hl, sizeLine_eq]; omega)
  · cases h
theorem de_listRg1 (hc : X.calm = true) (hg : Gl X "list") (hm : X.mg "list" = none) (hg2 : Gl X "range") (hm2 : X.mg "range" = none) (ha : DA X T [a] ml) (hs : starEach [a] X.env = [(false, eval a X.env)] := by rfl)
    (na : starEach [.Call (.Name "range" p2) [a] [] pos2] X.env = (false, eval (.Call (.Name "range" p2) [a] [] pos2) X.env) :: starEach [] X.env := by rfl) : DE X T (.Call (.Name "list" p) [.Call (.Name "range" p2) [a] [] pos2] [] pos) (eLRg ml) := .mk fun pins s G ρ st I hb => by
  refine Call_ (ld_blt I.inv hg hm boot_list (PyProof.Rows.callWith_type1 (args_cons (Call_ (ld_blt I.inv hg2 hm2 boot_range (PyProof.Rows.callWith_type1 (ha.run (pos := pos2) I (bad_l hb) (fun us s1 ds st1 G1 e1 x1 I1 r1 hn1 => ?_) fun x s1 z => z.up (Ext.refl G) fun ex st' e1 => by unfold eLRg; rw [e1]; rfl) hs rfl))) na) na))
  have eq1 : eLRg ml ρ st = R.of ((rgV' ds).map .new) st1 := by unfold eLRg; rw [e1]; rfl
  rw [eq1] at hb ⊢
  obtain ⟨d, hd⟩ := of_bad hb
  rw [hd]
  obtain ⟨xs, hx, rfl⟩ := Option.map_eq_some_iff.mp hd
  unfold rgV' at hx
  split at hx
  · next j =>
    obtain ⟨u, rfl, t, rfl⟩ := r1.one
    refine call_range_1 (args_nil ?_)
    have I2 : InvD X T pins G1 ρ st1 { s1 with heap := s1.heap.push { cls := .type "range", data := .fields #[.int 0 s1.toks, .int j t, .int 1 (s1.toks + 1)] }, toks := s1.toks + 2 } := I1.kept (fun b u e => Heap.get?_push_of_some _ e) (Nat.le_add_right _ 2)
    exact wpAny_mono (list_rg hc I2 (IsRange.new _ _ _ _ _ _ _) hx) (fun _ _ z => z.up x1 fun _ _ q => q) fun _ _ z => z
  · cases hx
theorem de_listRg2 (hc : X.calm = true) (hg : Gl X "list") (hm : X.mg "list" = none) (hg2 : Gl X "range") (hm2 : X.mg "range" = none) (ha : DA X T [a, b] ml) (hs : starEach [a, b] X.env = [(false, eval a X.env), (false, eval b X.env)] := by rfl) (hs2 : starEach [b] X.env = [(false, eval b X.env)] := by rfl)
    (na : starEach [.Call (.Name "range" p2) [a, b] [] pos2] X.env = (false, eval (.Call (.Name "range" p2) [a, b] [] pos2) X.env) :: starEach [] X.env := by rfl) : DE X T (.Call (.Name "list" p) [.Call (.Name "range" p2) [a, b] [] pos2] [] pos) (eLRg2 ml) := .mk fun pins s G ρ st I hb => by
  refine Call_ (ld_blt I.inv hg hm boot_list (PyProof.Rows.callWith_type1 (args_cons (Call_ (ld_blt I.inv hg2 hm2 boot_range (PyProof.Rows.callWith_type1 (ha.run (pos := pos2) I (bad_l hb) (fun us s1 ds st1 G1 e1 x1 I1 r1 hn1 => ?_) fun x s1 z => z.up (Ext.refl G) fun ex st' e1 => by unfold eLRg2; rw [e1]; rfl) (by rw [hs, hs2]) (by rw [hs2]; rfl)))) na) na))
  have eq1 : eLRg2 ml ρ st = R.of ((rgV2 ds).map .new) st1 := by unfold eLRg2; rw [e1]; rfl
  rw [eq1] at hb ⊢
  obtain ⟨d, hd⟩ := of_bad hb
  rw [hd]
  obtain ⟨xs, hx, rfl⟩ := Option.map_eq_some_iff.mp hd
  unfold rgV2 at hx
  split at hx
  · next i j =>
    obtain ⟨u, v, rfl, ⟨t, rfl⟩, ⟨t2, rfl⟩⟩ := r1.two
    refine call_range_2 (args_nil ?_)
    have I2 : InvD X T pins G1 ρ st1 { s1 with heap := s1.heap.push { cls := .type "range", data := .fields #[.int i t, .int j t2, .int 1 s1.toks] }, toks := s1.toks + 1 } := I1.kept (fun b u e => Heap.get?_push_of_some _ e) (Nat.le_add_right _ 1)
    exact wpAny_mono (list_rg hc I2 (IsRange.new _ _ _ _ _ _ _) hx) (fun _ _ z => z.up x1 fun _ _ q => q) fun _ _ z => z
  · cases hx
end
end DL
namespace DL
open PySem PySem.Spec PyProof.Rows L2
/-! ### a def that is handed over as a value, and called by a parameter's name -/
def eCallV (tbl : List (Str × FM)) (i : Nat) (ml : EL) : EM := fun ρ st => match ρ[i]? with
  | some (some (.fn y)) => match tbl.lookup y with
    | some F => eFn F ml ρ st
    | none => .bad
  | _ => .bad
theorem eCallV_at {tbl : List (Str × FM)} {i : Nat} {ml : EL} {ρ : Env_} {st : Store} (h : eCallV tbl i ml ρ st ≠ .bad) : ∃ y F, ρ[i]? = some (some (.fn y)) ∧ tbl.lookup y = some F ∧ eCallV tbl i ml ρ st = eFn F ml ρ st := by
  unfold eCallV at h ⊢
  split at h
  · next y e =>
    split at h
    · next F e2 => exact ⟨y, F, e, e2, by simp [e2]⟩
    · exact absurd rfl h
  · exact absurd rfl h
/-- the defs that may come -/
def TabFns (P : Program) (w : World) (K : PySem.W.Frag) (mg : Str → Option Value) (base : Heap) (T : Tx) (k : Nat) (tbl : List (Str × FM)) : Prop := ∀ y F, tbl.lookup y = some F → ∃ ps, Fn P w K mg base T k y ps F
theorem tf_nil {P : Program} {w : World} {K : PySem.W.Frag} {mg : Str → Option Value} {base : Heap} {T : Tx} {k : Nat} : TabFns P w K mg base T k [] := fun y F h => nomatch h
theorem tf_cons {P : Program} {w : World} {K : PySem.W.Frag} {mg : Str → Option Value} {base : Heap} {T : Tx} {j k : Nat} {y : Str} {ps : List Str} {F : FM} {tbl : List (Str × FM)} (h : Fn P w K mg base T j y ps F) (r : TabFns P w K mg base T k tbl) (hj : j ≤ k := by decide) : TabFns P w K mg base T k ((y, F) :: tbl) := fun z G hz => by
  rw [List.lookup_cons] at hz
  split at hz
  · next e =>
    cases hz
    rw [eq_of_beq e]
    exact ⟨ps, h.mono hj⟩
  · exact r z G hz
section
variable {X : Cx} {T : Fx} {e : Expr} {es : List Expr} {ml : EL} {x : Str} {k : Nat} {pos p : Pos} {tbl : List (Str × FM)} {i : Nat}
theorem de_gfn {a : Addr} (hT : T.T.mg = X.mg) (hg : Gl X x) (hm : X.mg x = some (.ref a)) (hd : (x == ("__debug__" : Str)) = false := by decide) : DE X T (.Name x pos) (eC (.fn x)) := .mk fun pins s G ρ st I _ =>
  ld_glob I.inv hg hm ⟨_, st, G, rfl, Ext.refl G, I, ⟨a, rfl, by rw [hT]; exact hm⟩, NewOk.of rfl⟩ hd
theorem de_callV (htb : TabFns X.prog X.w X.K X.mg X.base T.T k tbl) (hT : T.T.mg = X.mg) (hr : Room k X.A) (hN : X.N[i]? = some x) (hv : Vis X.env.scope x) (ha : DA X T (e :: es) ml)
    (hdb : (x == ("__debug__" : Str)) = false := by decide) (hcd : (x == ("__classdict__" : Str)) = false := by decide) (he : starEach (e :: es) X.env = (false, eval e X.env) :: starEach es X.env := by rfl) (hpl : (backTo pos (starEach es X.env)).any (·.1) = false := by rfl) : DE X T (.Call (.Name x p) (e :: es) [] pos) (eCallV tbl i ml) := .mk fun pins s G ρ st I h => by
  obtain ⟨y, F, e1, e2, e3⟩ := eCallV_at h
  rw [e3] at h ⊢
  obtain ⟨ps, hF⟩ := htb y F e2
  obtain ⟨f, fd, m1, hk, hb, Fn⟩ := hF.ex
  refine wpAny_Call_Name_kw (name_ok I hN hv hdb hcd e1 fun u r => ?_)
  obtain ⟨a, rfl, ra⟩ := r
  rw [hT, m1] at ra
  cases ra
  refine PySem.W.callWith_K (h₀ := X.base) I.inv.ok.mod.kin hk (ha.run I (bad_l (f := fun ds st1 => if ds.all plain = true then F ds st1 else .bad) h) (fun us s1 ds st1 G1 q1 x1 I1 r1 _ => ⟨I1.inv.kIn, ?_⟩) fun x s1 z => z.up (Ext.refl G) fun ex st' q1 => by unfold eFn; rw [q1]; rfl) he hpl
  have eq1 : eFn F ml ρ st = if ds.all plain = true then F ds st1 else .bad := by unfold eFn; rw [q1]; rfl
  rw [eq1] at h ⊢
  by_cases hp : ds.all plain = true
  · rw [if_pos hp] at h ⊢
    have h' : F (ds ++ []) st1 ≠ .bad := by rw [List.append_nil]; exact h
    have z := call_run Fn hr hb hF.len I1 (r1.reps hp) h'
    rw [List.append_nil] at z
    exact wpAny_mono z (fun _ _ z => z.up x1 fun _ _ q => q) fun _ _ z => z.up x1 fun _ _ q => q
  · rw [if_neg hp] at h
    exact absurd rfl h
end
end DL
namespace DL
open PySem PySem.Spec PyProof.Rows L2
/-! ### a name's own list is made known to all: from here on it is only read -/
def sFrz (i : Nat) (k : SM) : SM := fun ρ st => k (frzAt ρ i) st
section
variable {X : Cx} {T : Fx} {pins : List (Addr × Obj)} {G : Gh} {ρ : Env_} {st : Store} {s : Shared} {x : Str} {i : Nat} {l : List D} {sm : Stmt} {sms : List Stmt} {k : SM}
theorem own_frz (I : InvD X T pins G ρ st s) (hf : T.fn = true) (hi : X.N[i]? = some x) (hv : Vis X.env.scope x) (hl : ownAt ρ i = some l) : ∃ G', SExt G G' ∧ InvD X T pins G' (ρ.set i (some (.lst l))) st s := by
  have hρ := ownAt_some hl
  have hlt : i < ρ.length := (List.getElem?_eq_some_iff.mp hρ).1
  obtain ⟨m, h1, h2⟩ := I.loc
  obtain ⟨u0, r0, l0⟩ := h2 i x _ hi hρ hv
  obtain ⟨a, ob, us, rfl, g1, g2, g3, g4, g5, g6⟩ := r0
  have ht := I.oaT i a g4
  have net : ∀ {b : Addr} {u : HO}, T.g.H b = some u → b ≠ a := fun q => ne_of_none q ht
  have dom : ∀ b, (kn G a ob).H b = none → G.H b = none := fun b q => by
    by_cases hb : b = a
    · subst hb
      unfold kn at q
      simp only [upd_same] at q
      cases q
    · exact (upd_ne hb).symm.trans q
  have J := I.inv.write (x := a) (e := a) (o := fz ob) (h' := s.heap) (t' := s.toks) (by rw [g1]; exact True.intro) (.inl rfl) (fun _ _ _ q => q) ⟨_, I.atM g1⟩ (ok_fz (I.atM g1))
  have get : ∀ (j : Nat) (d : D), (ρ.set i (some (.lst l)))[j]? = some (some d) → (j = i ∧ d = .lst l) ∨ (j ≠ i ∧ ρ[j]? = some (some d)) := fun j d e => by
    by_cases hj : j = i
    · subst hj
      rw [List.getElem?_set_self hlt] at e
      cases e
      exact .inl ⟨rfl, rfl⟩
    · rw [List.getElem?_set_ne (Ne.symm hj)] at e
      exact .inr ⟨hj, e⟩
  refine ⟨kn G a ob, ⟨fun b o' q => kn_fz g1 q, fun _ _ q => q⟩, ⟨J, ⟨m, h1, fun j y d a1 a2 a3 => ?_⟩, ⟨I.sto.len, I.sto.nd, fun k b c q1 q2 => ?_⟩, I.tok, I.pos, by rw [List.length_set]; exact I.len, fun b hb q => I.owd b hb (dom b q), ?_, fun j d e => ?_, I.oaT, I.oaw, I.oai, fun hf j k c e => ?_, I.tb, I.tk0⟩⟩
  · rcases get j d a2 with ⟨rfl, rfl⟩ | ⟨hj, a2⟩
    · rw [hi] at a1
      cases a1
      exact ⟨.ref a, ⟨a, ob, us, rfl, upd_same, g5, Reps.kn g1 g6⟩, l0⟩
    · obtain ⟨u, r, lk⟩ := h2 j y d a1 a2 a3
      refine ⟨u, ?_, lk⟩
      have hn := I.nn j d a2
      cases d with
      | new l => cases hn
      | own k l =>
        have hk := I.so hf j k l a2
        subst hk
        obtain ⟨b, o', us, q1, q2, q3, q4, q7, q5, q6⟩ := r
        have hb : b ≠ a := fun z => hj (I.oai k i a (z ▸ q7) g4)
        exact ⟨b, o', us, q1, (upd_ne hb).trans q2, q3, q4, q7, q5, Reps.kn g1 q6⟩
      | _ => exact Rep.kn g1 rfl r
  · have q := I.sto.cell k b c q1 q2
    cases c with
    | lst ds =>
      obtain ⟨o', us, q3, q4, q5⟩ := q
      have hb : b ≠ a := fun z => g2 (z ▸ List.mem_of_getElem? q1)
      exact ⟨o', us, (upd_ne hb).trans q3, q4, Reps.kn g1 q5⟩
    | tbl q' =>
      obtain ⟨ps, q3, q4, q5⟩ := q
      have hb : b ≠ a := fun z => g2 (z ▸ List.mem_of_getElem? q1)
      refine ⟨ps, (upd_ne hb).trans q3, q4, fun pos cv hc => ?_⟩
      obtain ⟨c, e1, e2, e3⟩ := q5 pos cv hc
      have hca : c ≠ a := fun z => by
        rw [z, g1] at e2
        exact codeO_mu (Option.some.inj e2).symm
      exact ⟨c, e1, (upd_ne hca).trans e2, e3⟩
  · exact ⟨fun b o' q => kn_fz g1 (I.ext.fr b o' q), fun b u q hb => (upd_ne (net q)).trans (I.ext.keep b u q hb), I.ext.pre, I.ext.new, fun b q => I.ext.dom b (dom b q), I.ext.ow⟩
  · rcases get j d e with ⟨rfl, rfl⟩ | ⟨_, e⟩
    · rfl
    · exact I.nn j d e
  · rcases get j _ e with ⟨rfl, e'⟩ | ⟨_, e⟩
    · cases e'
    · exact I.so hf j k c e
theorem ds_frz (hfn : T.fn = true) (hi : X.N[i]? = some x) (hv : Vis X.env.scope x) (h : DS X T sm k) : DS X T sm (sFrz i k) := .mk fun pins s G ρ st I hb => by
  unfold sFrz at hb ⊢
  unfold frzAt at hb ⊢
  cases hl : ownAt ρ i with
  | none =>
    rw [hl] at hb
    exact h pins s G ρ st I hb
  | some l =>
    rw [hl] at hb
    obtain ⟨G', x1, I'⟩ := own_frz I hfn hi hv hl
    exact wpAny_mono (h pins s G' _ st I' hb) (fun _ _ z => z.up x1 fun _ _ _ q => q) fun _ _ z => z.up x1 fun _ _ _ q => q
end
theorem ev_frzS {i : Nat} {k : SM} {ρ : Env_} {st : Store} {l : List D} (h : ρ[i]? = some (some (.own i l))) : sFrz i k ρ st = k (ρ.set i (some (.lst l))) st := by
  unfold sFrz frzAt ownAt
  rw [h]
  simp
theorem ev_frzN {i : Nat} {k : SM} {ρ : Env_} {st : Store} {d : D} (h : ρ[i]? = some (some d)) (n : plain d = true) : sFrz i k ρ st = k ρ st := by
  unfold sFrz frzAt ownAt
  rw [h]
  cases d <;> first | rfl | cases n
end DL
namespace DL
open PySem PySem.Spec PyProof.Rows L2
/-! ### str(e), x.split(sep), xs.index(e) -/
def digits (i : Int) : List Nat := (Str.ofString (toString i)).cps.toList
def fStrN : D → Option D
  | .int i => if i.natAbs ≤ 100000 then some (.str (digits i)) else none
  | .str l => some (.str l)
  | .cst l => some (.cst l)
  | .ust l => some (.ust l)
  | _ => none
def splitS (a b : List Nat) : List (List Nat) := (Txt.split (S a) (S b)).map fun p => p.cps.toList
def pSplit : Store → D → List D → Option D := fun _ x ds => match x, ds with
  | .str a, [y] => match txt y with
    | some b => if b ≠ [] ∧ a.length ≤ 100000 then some (.new ((splitS a b).map .str)) else none
    | none => none
  | _, _ => none
def eqAll (x : D) : List D → Option (List Bool)
  | [] => some []
  | d :: ds => match eqF 50 d x, eqAll x ds with
    | some b, some bs => some (b :: bs)
    | _, _ => none
def pIndexE : Store → D → List D → Option D := fun _ x ds => match lstV x, ds with
  | some l, [d] => (eqAll d l).bind fun bs => if true ∈ bs then some (.int (bs.idxOf true : Nat)) else none
  | _, _ => none
theorem S_toList (p : Str) : S p.cps.toList = p := by cases p; simp
section
variable {X : Cx} {T : Fx} {pins : List (Addr × Obj)} {G G1 : Gh} {ρ ρ1 : Env_} {st st1 : Store} {s s1 : Shared}
theorem c_str : CallD X T (.type "str") (p1 fStrN) := fun pins s G ρ st us ds d E I r h => by
  have z0 := sizeLine_eq
  unfold p1 at h
  split at h
  · next x =>
    obtain ⟨u, rfl, r1⟩ := r.one
    cases x with
    | int i =>
      obtain ⟨t, rfl⟩ := r1
      have h : (if i.natAbs ≤ 100000 then some (D.str (digits i)) else none) = some d := h
      split at h
      · next hi =>
        cases h
        have hlog : i.natAbs.log2 < 1920 := by
          rcases Nat.eq_zero_or_pos i.natAbs with h0 | h0
          · rw [h0]; decide
          · have := (Nat.log2_lt (n := i.natAbs) (k := 1920) (by omega)).mpr (Nat.lt_of_le_of_lt hi (Nat.lt_of_lt_of_le (show 100000 < 2 ^ 17 by decide) (Nat.pow_le_pow_right (by decide) (show 17 ≤ 1920 by decide))))
            exact this
        have hlen := len_str_of_int i
        refine P.str_of_int hlog (ok_str I (S_toList _).symm ?_ (Nat.lt_succ_self _))
        unfold digits
        rw [Array.length_toList]
        have e : (Str.ofString (toString i)).length = (Str.ofString (toString i)).cps.size := rfl
        rw [← e]
        omega
      · cases h
    | str l =>
      cases h
      have r1' := r1
      obtain ⟨t, rfl, _⟩ := r1
      exact P.str_of_str (ok_same I r1' rfl)
    | cst l =>
      cases h
      have r1' := r1
      obtain ⟨t, rfl, _⟩ := r1
      exact P.str_of_str (ok_same I r1' rfl)
    | ust l =>
      cases h
      have r1' := r1
      obtain ⟨t, rfl, _⟩ := r1
      exact P.str_of_str (ok_same I r1' rfl)
    | _ => cases h
  · cases h
theorem reps_strsFrom {T : Tx} {G : Gh} : ∀ (xs : List Str) (tk n : Nat), T ≤ tk → tk + xs.length ≤ n → (∀ x ∈ xs, x.length ≤ sizeLine) → Reps T G n (xs.map fun p => D.str p.cps.toList) (strsFrom tk xs)
  | [], _, _, _, _, _ => rfl
  | x :: xs, tk, n, h1, h2, h3 => by
    rw [List.length_cons] at h2
    have ht : tk < n := by omega
    refine ⟨_, _, rfl, rfl, ⟨tk, by rw [S_toList], h1, ht, ?_⟩, reps_strsFrom xs (tk + 1) n (Nat.le_succ_of_le h1) (by omega) fun y hy => h3 y (List.mem_cons_of_mem _ hy)⟩
    rw [Array.length_toList]
    exact h3 x (List.mem_cons_self ..)
theorem m_split : MetD X T "str.split" pSplit := fun pins s G ρ st u us x ds d E I rx r h => by
  have z0 := sizeLine_eq
  unfold pSplit at h
  split at h
  · next a y =>
    split at h
    · next b hy =>
      split at h
      · next hc =>
        cases h
        obtain ⟨v, rfl, rv⟩ := r.one
        obtain ⟨w, rfl, _⟩ := txt_view rv hy
        obtain ⟨t, rfl, t1, t2, t3⟩ := rx
        have hb : ((S b).length == 0) = false := by
          show ((b.toArray).size == 0) = false
          rw [List.size_toArray]
          cases b with
          | nil => exact absurd rfl hc.1
          | cons _ _ => rfl
        have ha : (S a).length = a.length := by show a.toArray.size = _; rw [List.size_toArray]
        have hl : (Txt.split (S a) (S b)).length ≤ sizeLine := Nat.le_trans (PyProof.Rows.split_le (S a) (S b)) (by rw [ha]; omega)
        have fin : ∀ (l : List Str) (tk' : Nat) (us : List Value), Txt.split (S a) (S b) = l → s.toks ≤ tk' → Reps T.T G tk' (l.map fun p => D.str p.cps.toList) us → us.length ≤ sizeLine →
            OkP X T pins G ρ (.ok (.new ((splitS a b).map .str)) st) (.ref s.heap.objs.size) { s with toks := tk', heap := s.heap.push { cls := .type "list", data := .seq us.toArray } } := fun l tk' us e hn g z => by
          have q := ok_newG (k := 0) (t' := tk') (h' := s.heap.push { cls := .type "list", data := .seq us.toArray }) (ds := l.map fun p => D.str p.cps.toList) I (fun b u e => Heap.get?_push_of_some _ e) (Nat.le_refl _) (Heap.get?_push_size _ rfl) hn g z
          unfold splitS
          rw [e, List.map_map]
          exact q
        have one : Reps T.T G s.toks ([S a].map fun p => D.str p.cps.toList) [.str (S a) t] := ⟨_, _, rfl, rfl, ⟨t, by rw [S_toList], t1, t2, by simpa using t3⟩, rfl⟩
        have hn : (Builtin.Str.partsBetween (S a) (Builtin.Str.occurrences (S a) (S b) 0 (S a).length ((S a).length + 1)) (S b).length).length ≤ sizeLine := by
          have e1 := StrLaws.occ_length_le (S a) (S b) 0 (S a).length ((S a).length + 1)
          rw [length_partsBetween]; omega
        cases h1 : (decide ((S a).length < (S b).length) || decide (Builtin.Str.strKind (S a) < Builtin.Str.strKind (S b)))
        · cases hf : (Builtin.Str.occurrences (S a) (S b) 0 (S a).length ((S a).length + 1)).isEmpty
          · refine call_meets F.slot_str_split (typeIs_str _ _ _) F.entry_str_split (F.args_str_split_2 _ _) (meets_str_split_sep (S a) (S b) t w h1 hb hf (by omega) hn) ?_
            refine fin _ _ _ ((if_neg (ne_true_of_eq_false h1)).trans (if_neg (ne_true_of_eq_false hf))) (Nat.le_add_right _ _) (reps_strsFrom _ _ _ I.tok (Nat.le_refl _) fun p hp => ?_) (by rw [strsFrom_length]; exact hn)
            simp only [Builtin.Str.partsBetween, List.mem_map] at hp
            obtain ⟨⟨i, j⟩, _, rfl⟩ := hp
            exact Nat.le_trans (strSub_length_le ..) (by omega)
          · refine call_meets F.slot_str_split (typeIs_str _ _ _) F.entry_str_split (F.args_str_split_2 _ _) (meets_str_split_not_found (S a) (S b) t w h1 hb hf) ?_
            exact fin _ _ _ ((if_neg (ne_true_of_eq_false h1)).trans (if_pos hf)) (Nat.le_refl _) one (by rw [z0]; simp)
        · refine call_meets F.slot_str_split (typeIs_str _ _ _) F.entry_str_split (F.args_str_split_2 _ _) (meets_str_split_cannot_occur (S a) (S b) t w h1) ?_
          exact fin _ _ _ (if_pos h1) (Nat.le_refl _) one (by rw [z0]; simp)
      · cases h
    · cases h
  · cases h
theorem eq_at (I : InvD X T pins G ρ st s) (hu : X.A.units + 64 < cLine) {x d : D} {u v : Value} {b : Bool} (r1 : Rep T.T G s.toks x u) (q1 : Rep T.T G s.toks d v) (q2 : eqF 50 d x = some b) : SeqAt.EqAt X.A.in1 s v u b := by
  obtain ⟨va, vb, ea, eb⟩ := eqF_vw q2
  refine eqAt_rc (I.view q1 ea) (I.view r1 eb) (rc_at I 50 (by show X.A.units + 1 + 50 < cLine; omega) q1 r1 q2).1 fun z => ?_
  subst z
  exact eqF_same I 50 q1 r1 q2
theorem eqAll_at (I : InvD X T pins G ρ st s) (hu : X.A.units + 64 < cLine) {x : D} {u : Value} (r1 : Rep T.T G s.toks x u) : ∀ {l : List D} {us : List Value} {bs : List Bool}, Reps T.T G s.toks l us → eqAll x l = some bs →
    us.length = bs.length ∧ ∀ j (h1 : j < us.length) (h2 : j < bs.length), SeqAt.EqAt X.A.in1 s us[j] u bs[j]
  | [], us, bs, g, e => by
    cases e
    cases (show us = [] from g)
    exact ⟨rfl, fun j h1 => absurd h1 (by simp)⟩
  | d :: l, _, bs, ⟨v, us, h1, _, h2, h3⟩, e => by
    subst h1
    unfold eqAll at e
    split at e
    · next b bs' e1 e2 =>
      cases e
      obtain ⟨g1, g2⟩ := eqAll_at I hu r1 h3 e2
      refine ⟨by rw [List.length_cons, List.length_cons, g1], fun j k1 k2 => ?_⟩
      cases j with
      | zero => exact eq_at I hu r1 h2 e1
      | succ j => exact g2 j (by simpa using k1) (by simpa using k2)
    · cases e
theorem m_indexE (hu : X.A.units + 64 < cLine) : MetD X T "list.index" pIndexE := fun pins s G ρ st u us x ds d E I rx r h => by
  have z0 := sizeLine_eq
  unfold pIndexE at h
  split at h
  · next l y hl =>
    obtain ⟨q, vs, k, rfl, hq, g, z⟩ := lst_is I rx hl
    obtain ⟨v, rfl, rv⟩ := r.one
    obtain ⟨bs, e1, e2⟩ := Option.bind_eq_some_iff.mp h
    split at e2
    · next hm =>
      cases e2
      obtain ⟨g1, g2⟩ := eqAll_at I hu rv g e1
      refine wpAny_mono (PySem.wpAny_toks (SeqAt.call_list_index (vs := vs) (ks := bs) (k := true) (Q := fun v s' => (∃ t, v = .int (bs.idxOf true : Nat) t) ∧ ∃ tk, s' = { s with toks := tk }) (isList_of hq) ⟨g1, fun j h1 h2 => ?_⟩ (by omega) hm ⟨⟨_, rfl⟩, _, rfl⟩)) (fun v s' ⟨hn, ⟨t, h1⟩, tk, h2⟩ => ?_) fun _ _ z => z.2
      · have := g2 j h1 h2
        rw [show decide (bs[j] = true) = bs[j] by cases bs[j] <;> rfl]
        exact this
      · subst h1 h2
        exact ok_int I hn
    · cases e2
  · cases h
end
end DL
namespace DL
open PySem PySem.Spec PyProof.Rows L2
/-! ### for i, x in enumerate(xs) -/
def enumL (l : List D) : List D := l.zipIdx.map fun p => .tup [.int (p.2 : Int), p.1]
def enumDs : List D → Option (List D)
  | [.lst l] => some (enumL l)
  | _ => none
def iEnumD (ml : EL) : EL := fun ρ st => (ml ρ st).bind fun ds st1 => R.of (enumDs ds) st1
theorem enumL_at {l : List D} {i : Nat} (h : i < l.length) : (enumL l)[i]? = some (.tup [.int (i : Int), l[i]]) := by
  unfold enumL
  rw [List.getElem?_map, List.getElem?_zipIdx, List.getElem?_eq_getElem h]
  simp
theorem enumL_len (l : List D) : (enumL l).length = l.length := by unfold enumL; rw [List.length_map, List.length_zipIdx]
structure EnOk (T : Tx) (G : Gh) (n : Nat) (e it : Addr) (h : Heap) (xs : List D) (i : Nat) : Prop where
  ex : ∃ a o us, G.H a = some (fz o) ∧ LstO o us ∧ Reps T G n xs us ∧ (∃ old, IsEnum h e it ((i : Nat) : Int) old) ∧ h.IsListIter it a i ∧ e ≠ it
theorem EnOk.keep {T : Tx} {G G' : Gh} {n n' : Nat} {e it : Addr} {h h' : Heap} {xs : List D} {i : Nat} (k : EnOk T G n e it h xs i) (x : SExt G G') (hn : n ≤ n') (hk : ∀ b ∈ [e, it], ∀ o, h.get? b = some o → h'.get? b = some o) : EnOk T G' n' e it h' xs i := by
  obtain ⟨a, o, us, h1, h2, h3, ⟨old, h4⟩, h5, h6⟩ := k.ex
  exact ⟨a, o, us, x.fr _ _ h1, h2, Reps.smono x hn h3, ⟨old, hk e (by simp) _ h4⟩, h5.at fun o q => hk it (by simp) o q, h6⟩
theorem EnOk.obj {T : Tx} {G : Gh} {n : Nat} {e it : Addr} {h : Heap} {xs : List D} {i : Nat} (k : EnOk T G n e it h xs i) : ∀ b ∈ [e, it], ∃ o, h.get? b = some o ∧ ∀ v, o.data ≠ .cell v := fun b hb => by
  obtain ⟨a, o, us, h1, h2, h3, ⟨old, h4⟩, ⟨ob, e1, c, d⟩, h6⟩ := k.ex
  have e' : b = e ∨ b = it := by simpa using hb
  rcases e' with z | z
  · rw [z]; exact ⟨_, h4, fun v q => nomatch q⟩
  · rw [z]; exact ⟨ob, e1, fun v q => by rw [d] at q; cases q⟩
section
variable {X : Cx} {T : Fx} {pins : List (Addr × Obj)} {G G1 : Gh} {ρ ρ1 : Env_} {st st1 : Store} {s s1 : Shared} {e₀ tg : Expr} {m : EM} {k : SM} {pos p q q1 : Pos} {sms body : List Stmt} {e it : Addr} {xs : List D} {i : Nat} {g : AG} {elts : List Expr} {kk : Nat}
theorem InvD.pinnedL {fp : List Addr} (I : InvD X T pins G ρ st s) (hf : ∀ b ∈ fp, FpOk X pins G.H b) (ho : ∀ b ∈ fp, ∃ o, s.heap.get? b = some o ∧ ∀ v, o.data ≠ .cell v) : InvD X T (pins ++ pinsAt fp s.heap) G ρ st s :=
  { I with inv := I.inv.pinned (fp := fp) hf ho }
theorem pin_atL {fp : List Addr} {b : Addr} (I : InvD X T (pins ++ pinsAt fp s.heap) G ρ st s1) (hb : b ∈ fp) {ob : Obj} (e : s.heap.get? b = some ob) : s1.heap.get? b = some ob ∧ G.H b = none :=
  have q := I.inv.pin (b, ob) (List.mem_append_right _ (List.mem_append_right _ (mem_pinsAt hb e)))
  ⟨q.1, q.2.1⟩
/-- the next pair -/
theorem en_next {E : Value → Shared → Prop} (I : InvD X T pins G ρ st s) (k : EnOk T.T G s.toks e it s.heap xs i) (f : ∀ b ∈ [e, it], FpOk X pins G.H b) (hi : i < xs.length) :
    wpAny (model X.prog X.w) X.A (pyNext (.ref e)) (fun r s1 => ∃ u, r = some u ∧ wpAny (model X.prog X.w) X.A (letOwnedTupleGo (.Tuple elts kk pos) (.ref e) u) (fun _ s2 => ∃ G', Ext G G' ∧ InvD X T pins G' ρ st s2 ∧ s.toks ≤ s2.toks ∧ Rep T.T G' s2.toks (.tup [.int (i : Int), xs[i]]) u ∧ EnOk T.T G' s2.toks e it s2.heap xs (i + 1) ∧ ∀ b ∈ [e, it], G'.H b = none) E s1) E s := by
  obtain ⟨a, o, us, ha, hl, r, ⟨old, he⟩, hit, hne⟩ := k.ex
  obtain ⟨w, w1, w2, w3⟩ := r.get (List.getElem?_eq_getElem hi)
  obtain ⟨n, ho⟩ := hl.d
  have ha' := I.atF ha
  rw [ho] at ha'
  have hel : e < s.heap.objs.size := Heap.lt_size he
  have hil : it < s.heap.objs.size := by obtain ⟨_, q, _⟩ := hit; exact Heap.lt_size q
  refine wpAny_pyNext_enum_item he hit (isList_of ha') (x := w) (by simpa using w1) hne fun h' ho' hit' hT hsz hk => ?_
  refine ⟨_, rfl, wpAny_letOwnedTupleGo_enum (s := { s with heap := h', toks := s.toks + 1 }) ho' fun h'' he' sb => ?_⟩
  have hT2 : h''.get? s.heap.objs.size = some { cls := .type "tuple", data := .seq #[.int i s.toks, w] } := (sb.2 _ (Nat.ne_of_gt hel)).trans hT
  have hn := I.free (Nat.le_refl s.heap.objs.size)
  have x1 : Ext G ⟨upd G.H s.heap.objs.size (fz { cls := .type "tuple", data := .seq #[.int i s.toks, w] }), G.as, G.ow, G.oa⟩ := Ext.laid hn
  have kp : ∀ b ob, b ∉ [e, it] → s.heap.get? b = some ob → h''.get? b = some ob := fun b ob hb q => (sb.2 b (fun z => hb (by simp [z]))).trans (hk b ob (fun z => hb (by simp [z])) (fun z => hb (by simp [z])) q)
  have J := I.inv.turnedNew (t' := s.toks + 1) (ch := [e, it]) kp f (Nat.le_refl _) (ok_fz hT2)
  have fe := f e (by simp)
  have fi := f it (by simp)
  have I1 : InvD X T pins ⟨upd G.H s.heap.objs.size (fz { cls := .type "tuple", data := .seq #[.int i s.toks, w] }), G.as, G.ow, G.oa⟩ ρ st { s with heap := h'', toks := s.toks + 1 } := by
    refine I.move (G' := ⟨upd G.H s.heap.objs.size (fz { cls := .type "tuple", data := .seq #[.int i s.toks, w] }), G.as, G.ow, G.oa⟩) (s' := { s with heap := h'', toks := s.toks + 1 }) J x1 (Nat.le_succ _) (fun m hm => ?_) (fun y c v ec z => ?_) (I.sto.mono x1 (Nat.le_succ _) rfl fun b u _ q => ?_)
    · obtain ⟨ob, es, ep, ho, r⟩ := hm
      exact ⟨ob, es, ep, kp _ ob (by simp; exact ⟨Ne.symm fe.2.1, Ne.symm fi.2.1⟩) ho, r⟩
    · obtain ⟨ob, h1, h2⟩ := z
      exact ⟨ob, kp c ob (by simp; exact ⟨fe.2.2.2.2.1 y c ec, fi.2.2.2.2.1 y c ec⟩) h1, h2⟩
    · show upd G.H _ _ b = _
      rw [upd_ne (ne_of_none q hn)]
      exact q
  have nb : ∀ b, b < s.heap.objs.size → upd G.H s.heap.objs.size (fz { cls := .type "tuple", data := .seq #[.int i s.toks, w] }) b = G.H b := fun b hb => upd_ne (Nat.ne_of_lt hb)
  refine ⟨_, x1, I1, Nat.le_succ _, ⟨s.heap.objs.size, _, [.int i s.toks, w], rfl, upd_same, ⟨rfl, ⟨0, rfl⟩, by rw [sizeLine_eq]; simp⟩, ⟨_, _, rfl, rfl, ⟨_, rfl⟩, ⟨_, _, rfl, w3, Rep.mono x1 (Nat.le_succ _) w2, rfl⟩⟩⟩, ⟨a, o, us, x1.fr _ _ ha, hl, Reps.mono x1 (Nat.le_succ _) r, ⟨w, ?_⟩, hit'.at fun o q => (sb.2 it (Ne.symm hne)).trans q, hne⟩, fun b hb => ?_⟩
  · have e1 : ((i + 1 : Nat) : Int) = (i : Int) + 1 := by omega
    rw [e1]; exact he'
  · have e' : b = e ∨ b = it := by simpa using hb
    rcases e' with z | z
    · subst z; exact (nb _ hel).trans fe.1
    · subst z; exact (nb _ hil).trans fi.1
theorem en_end {E : Value → Shared → Prop} (hc : X.calm = true) (I : InvD X T pins G ρ st s) (k : EnOk T.T G s.toks e it s.heap xs i) (f : ∀ b ∈ [e, it], FpOk X pins G.H b) (hi : xs.length ≤ i) :
    wpAny (model X.prog X.w) X.A (pyNext (.ref e)) (fun r s1 => r = none ∧ InvD X T pins G ρ st s1) E s := by
  obtain ⟨a, o, us, ha, hl, r, ⟨old, he⟩, hit, hne⟩ := k.ex
  obtain ⟨n, ho⟩ := hl.d
  have ha' := I.atF ha
  rw [ho] at ha'
  have hlen := r.length
  exact wpAny_pyNext_enum_end (I.inv.ok.hd hc) he hit (isList_of ha') (by simp; omega) fun h' eb => ⟨rfl, I.turned (t' := s.toks) (f it (by simp)) (fun b o hb q => eb b o hb q) (Nat.le_refl _)⟩
def ItPE (X : Cx) (T : Fx) (pins : List (Addr × Obj)) (G : Gh) (ρ : Env_) (r : R (List D)) (itv : Value) (s' : Shared) : Prop :=
  ∃ e it xs st' G', r = .ok (enumL xs) st' ∧ Ext G G' ∧ InvD X T pins G' ρ st' s' ∧ itv = .ref e ∧ EnOk T.T G' s'.toks e it s'.heap xs 0 ∧ ∀ b ∈ [e, it], FpOk X pins G'.H b
theorem di_enum {ml : EL} (hg : Gl X "enumerate") (hm : X.mg "enumerate" = none) (ha : DA X T [e₀] ml) (I : InvD X T pins G ρ st s) (h : iEnumD ml ρ st ≠ .bad) (hs : starEach [e₀] X.env = [(false, eval e₀ X.env)] := by rfl) :
    wpAny (model X.prog X.w) X.A (eval (.Call (.Name "enumerate" p) [e₀] [] q) X.env) (fun v s1 => wpAny (model X.prog X.w) X.A (pyIter v) (ItPE X T pins G ρ (iEnumD ml ρ st)) (ExP X T pins G ρ (iEnumD ml ρ st)) s1) (ExP X T pins G ρ (iEnumD ml ρ st)) s := by
  refine Call_ (ld_blt I.inv hg hm boot_enumerate (PyProof.Rows.callWith_type1 (ha.run (pos := q) I (bad_l h) (fun us s1 ds st1 G1 e1 x1 I1 r1 _ => ?_) fun x s1 z => z.up (Ext.refl G) fun ex st' e1 => by unfold iEnumD; rw [e1]; rfl) hs rfl))
  have eq1 : iEnumD ml ρ st = R.of (enumDs ds) st1 := by unfold iEnumD; rw [e1]; rfl
  rw [eq1] at h ⊢
  obtain ⟨xs, hx⟩ := of_bad h
  rw [hx]
  unfold enumDs at hx
  split at hx
  · next l =>
    cases hx
    obtain ⟨u, rfl, r2⟩ := r1.one
    obtain ⟨a, ob, us, rfl, h1, h2, h3⟩ := r2
    obtain ⟨n, ho⟩ := h2.d
    have ha' := I1.atF h1
    rw [ho] at ha'
    refine call_enumerate_list (isList_of ha') fun h' he hit hsz hk => wpAny_pyIter_enum he ?_
    have I2 : InvD X T pins G1 ρ st1 { s1 with heap := h' } := I1.kept (t' := s1.toks) hk (Nat.le_refl _)
    refine ⟨_, _, l, st1, G1, rfl, x1, I2, rfl, ⟨a, ob, us, h1, h2, h3, ⟨_, he⟩, hit, Nat.succ_ne_self _⟩, fun b hb => ?_⟩
    have e' : b = s1.heap.objs.size + 1 ∨ b = s1.heap.objs.size := by simpa using hb
    have hle : s1.heap.objs.size ≤ b := by
      rcases e' with z | z
      · rw [z]; exact Nat.le_add_right _ _
      · rw [z]; exact Nat.le_refl _
    exact I1.inv.fpOk hle (I1.free hle)
  · cases hx
theorem ds_forE {ml : EL} (hs : X.stack = X.env :: X.outer) (hf : X.env.frame = some X.env.locals) (hc : X.calm = true) (hge : Gl X "enumerate") (hme : X.mg "enumerate" = none) (hm : DA X T [e₀] ml) (hg : DG X T (.Tuple elts kk q1) g) (hb : DSs X T body k) (hse : starEach [e₀] X.env = [(false, eval e₀ X.env)] := by rfl)
    (hfs : ∀ x, foldedSetIterable (.Call (.Name "enumerate" p) [e₀] [] q) X.env x = pure x := by intro _; rfl) : DS X T (.For (.Tuple elts kk q1) (.Call (.Name "enumerate" p) [e₀] [] q) body [] pos) (sFor (iEnumD ml) g k) := .mk fun pins s G ρ st I h => by
  have hp := fun (r : RS) => air_owns (T := T) (pins := pins) (G := G) hs hf r
  refine wpAny_For (wpAny_mono (di_enum hge hme hm I (ofE_l h) hse) (fun v s1 h1 => wpAny_mono h1 (fun itv s2 h2 => ?_) fun x s2 z => z.sx fun ex st' e1 => by unfold sFor; rw [e1]; rfl) fun x s2 z => z.sx fun ex st' e1 => by unfold sFor; rw [e1]; rfl) hfs
  obtain ⟨e, it, xs, st2, G2, e2, x2, I2, rfl, k2, f2⟩ := h2
  have eq1 : sFor (iEnumD ml) g k ρ st = loopS g k (enumL xs) ρ st2 := by unfold sFor; rw [e2]; rfl
  rw [eq1] at h ⊢
  generalize hr : loopS g k (enumL xs) ρ st2 = r at h ⊢
  have hpr := hp r
  have hlen := enumL_len xs
  refine codeAny_forLoop_any (fun n s' => ∃ i ρ' st' G', n = xs.length - i ∧ i ≤ xs.length ∧ SExt G G' ∧ InvD X T pins G' ρ' st' s' ∧ EnOk T.T G' s'.toks e it s'.heap xs i ∧ (∀ b ∈ [e, it], G'.H b = none) ∧ loopS g k ((enumL xs).drop i) ρ' st' = r) ?_ xs.length ⟨0, ρ, st2, G2, rfl, Nat.zero_le _, x2.sx, I2, k2, fun b hb => (f2 b hb).1, hr⟩
  rintro n s3 ⟨i, ρ3, st3, G3, hn, hi3, x3, I3, k3, n3, r3⟩
  have f3 : ∀ b ∈ [e, it], FpOk X pins G3.H b := fun b hb => ⟨n3 b hb, (f2 b hb).2⟩
  by_cases hlt : i < xs.length
  · refine wpAny_passesOwn hpr (wpAny_mono (en_next (elts := elts) (kk := kk) (pos := q1) I3 k3 f3 hlt) (fun r s4 ⟨u, hr4, h4⟩ => ?_) fun _ _ z => z)
    subst hr4
    refine wpAny_passesOwn hpr (wpAny_mono h4 (fun _ s5 ⟨G5, x5, I5', hn5, r5, k5, n5⟩ => ?_) fun _ _ z => z)
    have f5 : ∀ b ∈ [e, it], FpOk X pins G5.H b := fun b hb => ⟨n5 b hb, (f2 b hb).2⟩
    have I5 := I5'.pinnedL f5 k5.obj
    have hat : (enumL xs)[i]'(by omega) = .tup [.int (i : Int), xs[i]] := by
      have := enumL_at hlt
      rw [List.getElem?_eq_getElem (by omega)] at this
      exact Option.some.inj this
    rw [List.drop_eq_getElem_cons (by omega), hat] at r3
    have r3' : (match g (.tup [.int (i : Int), xs[i]]) ρ3 with | some ρ1 => aft (k ρ1 st3) (loopS g k ((enumL xs).drop (i + 1))) | none => .bad) = r := r3
    cases hg3 : g (.tup [.int (i : Int), xs[i]]) ρ3 with
    | none => rw [hg3] at r3'; exact absurd r3'.symm h
    | some ρ5 =>
    rw [hg3] at r3'
    have r3'' : aft (k ρ5 st3) (loopS g k ((enumL xs).drop (i + 1))) = r := r3'
    refine wpAny_passesOwn hpr (wpAny_mono (PySem.wpAny_toks (hg _ s5 G5 ρ3 ρ5 st3 u _ _ I5 r5 hg3)) (fun _ s6 ⟨hn6, I6⟩ => ?_) fun _ _ z => z.2)
    have hk5 : k ρ5 st3 ≠ .bad := fun z => h (by rw [← r3'', z]; rfl)
    refine wpAny_passesOwn hpr (wpAny_mono (PySem.wpAny_toks (hb _ s6 G5 ρ5 st3 I6 hk5)) (fun f s7 ⟨hn7, fl, ρ7, st7, G7, e7, x7, I7, hf7⟩ => ?_) fun x s7 ⟨_, ex, ρ7, st7, G7, e7, x7, z⟩ => ?_)
    · have again : loopS g k ((enumL xs).drop (i + 1)) ρ7 st7 = r → ∃ m, m < n ∧ ∃ i ρ' st' G', m = xs.length - i ∧ i ≤ xs.length ∧ SExt G G' ∧ InvD X T pins G' ρ' st' s7 ∧ EnOk T.T G' s7.toks e it s7.heap xs i ∧ (∀ b ∈ [e, it], G'.H b = none) ∧ loopS g k ((enumL xs).drop i) ρ' st' = r := fun q => by
        refine ⟨xs.length - (i + 1), by omega, i + 1, ρ7, st7, G7, rfl, hlt, (x3.trans x5.sx).trans x7, I7.unpinned, k5.keep x7 (Nat.le_trans hn6 hn7) fun b hb o' ho' => (pin_atL I7 hb ho').1, fun b hb => ?_, q⟩
        obtain ⟨ob, hob, _⟩ := k5.obj b hb
        exact (pin_atL I7 hb hob).2
      rw [e7] at r3''
      cases fl with
      | nx => cases (show f = .next from hf7); exact again r3''
      | ct => cases (show f = .cont from hf7); exact again r3''
      | bk => cases (show f = .brk from hf7); exact ⟨.nx, ρ7, st7, G7, r3''.symm, (x3.trans x5.sx).trans x7, I7.unpinned, rfl⟩
      | rt d =>
        obtain ⟨u7, rfl, h7⟩ := hf7
        exact ⟨.rt d, ρ7, st7, G7, r3''.symm, (x3.trans x5.sx).trans x7, I7.unpinned, u7, rfl, h7⟩
    · rw [e7] at r3''
      obtain ⟨a, B, sI, cls, dd, q1, q2, q3⟩ := z
      exact ⟨ex, ρ7, st7, G7, r3''.symm, (x3.trans x5.sx).trans x7, a, B, sI, cls, dd, q1, q2.unpinned, q3⟩
  · have hie : i = xs.length := by omega
    subst hie
    rw [← hlen, List.drop_length] at r3
    have r3' : RS.go .nx ρ3 st3 = r := r3
    refine wpAny_passesOwn hpr (wpAny_mono (en_end hc I3 k3 f3 (Nat.le_refl _)) (fun r s4 ⟨hr4, I4⟩ => ?_) fun _ _ z => z)
    subst hr4
    exact wpAny_execs_nil ⟨.nx, ρ3, st3, G3, r3'.symm, x3, I4, rfl⟩
end
end DL
namespace DL
open PySem PySem.Spec PyProof.Rows L2
/-! ### dict([(text, number), ..]), e in d, d[e] -/
def pairOf : D → Option (List Nat × Int)
  | .tup [k, .int n] => (txt k).map fun l => (l, n)
  | _ => none
def pairsOf : List D → Option (List (List Nat × Int))
  | [] => some []
  | d :: ds => match pairOf d, pairsOf ds with
    | some p, some ps => some (p :: ps)
    | _, _ => none
def fDict (x : D) : Option D := match x.vw with
  | some (.lst ds) => (pairsOf ds).bind fun l => if (l.map (·.1)).Nodup then some (.dic l) else none
  | _ => none
def pInD : Store → D → D → Option D := fun _ x y => match txt x, y with
  | some k, .dic l => some (.bl (l.any fun p => p.1 == k))
  | _, _ => none
def pGetD : Store → D → D → Option D := fun _ x y => match x, txt y with
  | .dic l, some k => (l.find? fun p => p.1 == k).map fun p => .int p.2
  | _, _ => none
theorem pairOf_some {d : D} {p : List Nat × Int} (h : pairOf d = some p) : ∃ k, d = .tup [k, .int p.2] ∧ txt k = some p.1 := by
  unfold pairOf at h
  split at h
  · next k n =>
    obtain ⟨l, e, rfl⟩ := Option.map_eq_some_iff.mp h
    exact ⟨k, rfl, e⟩
  · cases h
theorem pairs_swap {P P' : Program} {w : World} {es : List DictEntry} {kvs : List (Key × Value)} (h : Pairs (mixKind P w) es kvs) : Pairs (mixKind P' w) es kvs := by
  induction h with
  | nil => exact .nil
  | cons h1 h2 _ ih => exact .cons h1 h2 ih
theorem S_inj {a b : List Nat} (h : S a = S b) : a = b := by
  have h2 : a.toArray = b.toArray := congrArg Str.cps h
  simpa using congrArg Array.toList h2
section
variable {w : World} {l : List (List Nat × Int)} {o : Obj} {tk : List Nat → Tok}
abbrev kvsOf (l : List (List Nat × Int)) (tk : List Nat → Tok) : List (Key × Value) := l.map fun p => ((.inr (S p.1) : Key), Value.int p.2 (tk p.1))
theorem valueAt_kvs (k : List Nat) : ∀ l : List (List Nat × Int), valueAt (kvsOf l tk) (.inr (S k)) = (l.find? fun p => p.1 == k).map fun p => Value.int p.2 (tk p.1)
  | [] => rfl
  | p :: l => by
    have ih := valueAt_kvs k l
    unfold valueAt kvsOf at ih ⊢
    rw [List.map_cons, List.find?_cons, List.find?_cons]
    by_cases h : p.1 = k
    · have h1 : decide ((.inr (S p.1) : Key) = .inr (S k)) = true := by rw [h]; simp
      have h2 : (p.1 == k) = true := by simpa using h
      simp only [h1, h2]
      rfl
    · have h1 : decide ((.inr (S p.1) : Key) = .inr (S k)) = false := decide_eq_false fun e => h (S_inj (Sum.inr.inj e))
      have h2 : (p.1 == k) = false := by simpa using h
      simp only [h1, h2]
      exact ih
theorem merged_new : ∀ (more acc : List (Key × Value)), ((acc ++ more).map (·.1)).Nodup → merged acc more = acc ++ more
  | [], acc, _ => by simp [merged]
  | kv :: more, acc, h => by
    have hn : (acc.any fun p => decide (p.1 = kv.1)) = false := by
      rw [List.any_eq_false]
      intro p hp
      rw [List.map_append, List.nodup_append] at h
      have := h.2.2 p.1 (List.mem_map.mpr ⟨p, hp, rfl⟩) kv.1 (List.mem_map.mpr ⟨kv, List.mem_cons_self .., rfl⟩)
      simpa using this
    have e : merged acc (kv :: more) = merged (stored acc kv.1 kv.2) more := rfl
    have e2 : stored acc kv.1 kv.2 = acc ++ [kv] := by unfold stored; rw [hn]; rfl
    rw [e, e2, merged_new more (acc ++ [kv]) (by rw [List.append_assoc]; exact h), List.append_assoc]
    rfl
theorem kvs_nodup (h : (l.map (·.1)).Nodup) : ((kvsOf l tk).map (·.1)).Nodup := by
  unfold kvsOf
  rw [List.map_map]
  rw [show ((fun p : Key × Value => p.1) ∘ fun p : List Nat × Int => ((.inr (S p.1) : Key), Value.int p.2 (tk p.1))) = (fun k => (.inr (S k) : Key)) ∘ (fun p : List Nat × Int => p.1) from rfl, ← List.map_map]
  rw [List.nodup_iff_pairwise_ne] at h ⊢
  exact h.map _ fun a b hab e => hab (S_inj (Sum.inr.inj e))
end
section
variable {X : Cx} {T : Fx} {pins : List (Addr × Obj)} {G G1 : Gh} {ρ ρ1 : Env_} {st st1 : Store} {s s1 : Shared} {a b : Expr} {ma mb : EM} {pos : Pos}
/-- pairs in the heap -/
theorem pairs_at (I : InvD X T pins G ρ st s) : ∀ {ds : List D} {us : List Value} {l : List (List Nat × Int)}, Reps T.T G s.toks ds us → pairsOf ds = some l → (l.map (·.1)).Nodup →
    ∃ tk : List Nat → Tok, us.length = l.length ∧ ∀ (j : Nat) (q : Key × Value), (kvsOf l tk)[j]? = some q → ∃ (b : Addr) (u : Value), us[j]? = some (.ref b) ∧ IsTup s.heap b #[u, q.2] ∧ keyIs q.1 u = true
  | [], us, l, g, e, _ => by
    cases e
    cases (show us = [] from g)
    exact ⟨fun _ => 0, rfl, fun j q h => by simp [kvsOf] at h⟩
  | d :: ds, _, l, ⟨u, us, h1, _, h2, h3⟩, e, nd => by
    subst h1
    unfold pairsOf at e
    split at e
    · next p ps e1 e2 =>
      cases e
      rw [List.map_cons, List.nodup_cons] at nd
      obtain ⟨tk, g1, g2⟩ := pairs_at I h3 e2 nd.2
      obtain ⟨lk, n⟩ := p
      obtain ⟨k, rfl, ek⟩ := pairOf_some e1
      · obtain ⟨b, o, vs, rfl, hb, ⟨hc, ⟨n0, hd⟩, hz⟩, gv⟩ := h2
        obtain ⟨v1, vr, rfl, _, r1, v2, vr2, rfl, _, ⟨t, rfl⟩, hnil⟩ := gv
        cases (show vr2 = [] from hnil)
        obtain ⟨tv, rfl, _⟩ := txt_view r1 ek
        refine ⟨fun x => if x = lk then t else tk x, by simp [g1], fun j q hq => ?_⟩
        cases j with
        | zero =>
          have hq' : ((.inr (S lk) : Key), Value.int n (if lk = lk then t else tk lk)) = q := Option.some.inj hq
          rw [if_pos rfl] at hq'
          subst hq'
          exact ⟨b, _, rfl, ⟨_, I.atF hb, hc, n0, hd⟩, keyIs_str _ _⟩
        | succ j =>
          have hq' : (kvsOf ps fun x => if x = lk then t else tk x)[j]? = some q := hq
          have e3 : (kvsOf ps fun x => if x = lk then t else tk x) = kvsOf ps tk := by
            refine List.map_congr_left fun p hp => ?_
            have hz : (if p.1 = lk then t else tk p.1) = tk p.1 := if_neg fun z => nd.1 (List.mem_map.mpr ⟨p, hp, z⟩)
            show ((.inr (S p.1) : Key), Value.int p.2 (if p.1 = lk then t else tk p.1)) = _
            rw [hz]
          rw [e3] at hq'
          exact g2 j q hq'
    · cases e
theorem c_dict (hc : X.calm = true) (hw : T.T.w = X.w) : CallD X T (.type "dict") (p1 fDict) := fun pins s G ρ st us ds d E I r h => by
  unfold p1 at h
  split at h
  · next x =>
    obtain ⟨u, rfl, r1⟩ := r.one
    unfold fDict at h
    split at h
    · next dl hv =>
      obtain ⟨l, e1, e2⟩ := Option.bind_eq_some_iff.mp h
      split at e2
      · next hnd =>
        cases e2
        have k := I.view r1 hv
        cases k with
        | @lst _ ad vs n ho z g =>
          obtain ⟨tk, g1, g2⟩ := pairs_at I g e1 hnd
          refine wpAny_mono (PySem.wpAny_toks (call_dict_pairs (prs := kvsOf l tk) (Q := fun v s' => ∃ h' t', v = .ref s.heap.objs.size ∧ s' = { s with heap := h', toks := t' } ∧ h'.DictOf (mixKind X.prog X.w) s.heap.objs.size (merged [] (kvsOf l tk)) ∧ ∀ b o, s.heap.get? b = some o → h'.get? b = some o)
            (I.inv.ok.hd hc) ho rfl rfl rfl (by simp [kvsOf]; exact g1) (by simp [kvsOf]; rw [← g1]; exact z) (fun j q hq => by
              obtain ⟨b, u, q1, q2, q3⟩ := g2 j q hq
              exact ⟨b, u, by simpa using q1, q2, q3⟩) fun h' t' hd hk => ⟨h', t', rfl, rfl, hd, hk⟩)) (fun v s' ⟨hn, h', t', h1, h2, hd, hk⟩ => ?_) fun _ _ z => z.2
          subst h1 h2
          rw [merged_new _ [] (by rw [List.nil_append]; exact kvs_nodup hnd), List.nil_append] at hd
          obtain ⟨o, es, ep, k1, k2, k3, k4, k5, k6⟩ := hd
          have hn0 := I.free (Nat.le_refl s.heap.objs.size)
          have big := I.inv.big
          refine ⟨_, st, _, rfl, Ext.laid (u := fz o) hn0, I.laid hk (Nat.le_refl _) (ok_fz k1) hn, ⟨s.heap.objs.size, o, rfl, ?_, upd_same, ⟨hnd, tk, fun P h a ha => ?_⟩⟩, NewOk.of rfl⟩
          · exact beq_eq_false_iff_ne.mpr (Nat.ne_of_gt big)
          · rw [hw]
            exact ⟨o, es, ep, ha, k2, k3, k4, pairs_swap k5, k6⟩
      · cases e2
    · cases h
  · cases h
theorem dic_at (I : InvD X T pins G ρ st s) (hw : T.T.w = X.w) {l : List (List Nat × Int)} {u : Value} (r : Rep T.T G s.toks (.dic l) u) : ∃ a tk, u = .ref a ∧ (a == sysModules) = false ∧ s.heap.DictOf (mixKind X.prog X.w) a (kvsOf l tk) := by
  obtain ⟨a, o, rfl, h0, h1, ⟨nd, tk, h2⟩⟩ := r
  rw [hw] at h2
  exact ⟨a, tk, rfl, h0, h2 X.prog s.heap a (I.atF h1)⟩
theorem op_inD (hw : T.T.w = X.w) : OpD X T (compareOp .In) pInD := fun pins s G ρ st u v x y d E I r1 r2 e => by
  unfold pInD at e
  split at e
  · next k l hk =>
    cases e
    obtain ⟨t, rfl, _⟩ := txt_view r1 hk
    obtain ⟨a, tk, rfl, h0, hd⟩ := dic_at I hw r2
    refine wpAny_in_of (knd := mixKind X.prog X.w) (k := (.inr (S k) : Key)) (keyIs_str _ t) h0 hd.mapOf ?_
    rw [valueAt_kvs]
    refine ⟨_, st, G, rfl, Ext.refl G, I.tk (Nat.le_succ _), ?_, NewOk.of rfl⟩
    show Value.bool _ = Value.bool _
    congr 1
    rw [Option.isSome_map, Bool.eq_iff_iff]
    simp [List.find?_isSome]
  · cases e
def eGetD (ma mb : EM) : EM := eBin pGetD ma mb
theorem de_getD (hw : T.T.w = X.w) (hs : NoSl b) (ha : DE X T a ma) (hb : DE X T b mb) : DE X T (.Subscript a b pos) (eGetD ma mb) := .mk fun pins s G ρ st I h => by
  refine subD_of PySem.F.slot_dict_getitem.lookup hs ?_
  refine ha.run I (bad_l h) (fun u s1 x st1 G1 e1 x1 I1 r1 n1 _ => ?_) fun x s1 z => z.up (Ext.refl G) fun ex st' e1 => by unfold eGetD eBin; rw [e1]; rfl
  have eq1 : eGetD ma mb ρ st = (mb ρ st1).bind fun y st2 => R.of (pGetD st2 x y) st2 := by unfold eGetD eBin; rw [e1]; rfl
  rw [eq1] at h ⊢
  refine hb.run I1 (bad_l h) (fun v s2 y st2 G2 e2 x2 I2 r2 n2 hn => ?_) fun x s1 z => z.up x1 fun ex st' e1 => by rw [e1]; rfl
  rw [e2, bind_ok] at h ⊢
  obtain ⟨d, hd⟩ := of_bad h
  rw [hd]
  unfold pGetD at hd
  split at hd
  · next l k hk =>
    obtain ⟨p, hp, rfl⟩ := Option.map_eq_some_iff.mp hd
    obtain ⟨t, rfl, _⟩ := txt_view r2 hk
    obtain ⟨ad, tk, rfl, h0, hdd⟩ := dic_at I2 hw (Rep.mono x2 hn r1)
    refine ⟨hdd.typeIs, wpAny_getItem_of (knd := mixKind X.prog X.w) (k := (.inr (S k) : Key)) (v := Value.int p.2 (tk p.1)) (keyIs_str _ t) hdd.mapOf (by rw [valueAt_kvs, hp]; rfl) ?_⟩
    exact ⟨_, st2, G2, rfl, x1.trans x2, I2.tk (Nat.le_succ _), ⟨_, rfl⟩, NewOk.of rfl⟩
  · cases hd
end
end DL
/-! own errors that carry a number: class X(P): def __init__(self, n): P.__init__(self, 'm'); self.f = n -/
namespace NumX
open PySem PySem.W PySem.Calls PyProof.Rows PySem.HandSPX
def iA (par : Str) (p1 p2 : Pos) : Arguments := { posonlyargs := [], args := [{ arg := "self", annotation := none, pos := p1 }, { arg := par, annotation := none, pos := p2 }], vararg := none, kwonlyargs := [], kw_defaults := [], kwarg := none, defaults := [] }
def iB (P f par m : Str) (j : Nat) (q1 q2 q3 q4 q5 q6 q7 q8 q9 q10 : Pos) : List Stmt :=
  [.Expr (.Call (.Attribute (.Name P q1) "__init__" q2) [.Name "self" q3, .Constant (.str m) j q4] [] q5) q6, .Assign [.Attribute (.Name "self" q7) f q8] (.Name par q9) q10]
def iS (P par : Str) : Scope := { kind := .function, names := [(PySem.Str.ofString "self", .local), (par, .local), (P, .globalImplicit)], isGenerator := false, isCoroutine := false, more := [] }
/-- names that differ -/
def apartB (P par : Str) : Bool := !(par == "self") && (!(P == "self") && (!(P == par) && (!(P == "__debug__") && !(par == "__debug__"))))
/-- what the names' texts say -/
structure NumP (P f par m : Str) : Prop where
  bd : ∀ (qn : Str) (kV doc pm : Value) (an : Option Addr) (cdv ct : Value) (j : Nat) (p1 p2 q1 q2 q3 q4 q5 q6 q7 q8 q9 q10 : Pos) (e : Addr) (v : Value),
    bindArgs (fnOf "__init__" qn (iA par p1 p2) (iB P f par m j q1 q2 q3 q4 q5 q6 q7 q8 q9 q10) (iS P par) .none kV doc pm an cdv ct) ⟨[.ref e, v], []⟩ = pure [(PySem.Str.ofString "self", .ref e), (par, v)]
  ap : apartB P par = true
  ms : m.length ≤ sizeLine
/-- how P.__init__(self, 'm') is evaluated -/
def EvI (P par m qn : Str) (j : Nat) (q1 q2 q3 q4 q5 : Pos) : Prop := ∀ (L fa : Addr) (cdv : Value), ∃ pl : Sem Bool, eval (.Call (.Attribute (.Name P q1) "__init__" q2) [.Name "self" q3, .Constant (.str m) j q4] [] q5) (envOfC qn (iS P par) L fa cdv) = (do
      let ov ← eval (.Name P q1) (envOfC qn (iS P par) L fa cdv)
      standAt q2.atName
      let (f, first) ← holding [ov] (getMethod ov "__init__" pl)
      callWith q5 f first (backTo q5 (starEach [.Name "self" q3, .Constant (.str m) j q4] (envOfC qn (iS P par) L fa cdv))) (backToKw q5 (keywordEach [] (envOfC qn (iS P par) L fa cdv))))
structure NumTxt (K : Frag) (mg : Str → Option Value) (x P f par m : Str) (C C0 fI : Addr) : Prop where
  gC : mg x = some (.ref C)
  gP : mg P = some (.ref C0)
  cls : ∃ nm q N bs bm sn sub ab col dd k0 k1 k2 k3 k5, K.lookup C = some (excClassObj nm q C N bs bm true sn sub ab col dd k0 k1 k2 k3 k5 "ValueError.__new__") ∧ refsVE bm = true
  rP : readsIn K C0 (.type "type") = true
  sP : specialIn K (.ref C0) "__getattribute__" = some (some (.builtin "type.__getattribute__"))
  vP : findCls K (.ref C0) (.type "type") "__init__" = some (.val (.builtin "ValueError.__init__"))
  sa : findIn K (.ref C) "__setattr__" = some (some (.builtin "object.__setattr__"))
  ga : findIn K (.ref C) "__getattribute__" = some (some (.builtin "BaseException.__getattribute__"))
  gg : findIn K (.ref C) "__getattr__" = some none
  noN : findIn K (.ref C) f = some none
  iC : findIn K (.ref C) "__init__" = some (some (.ref fI))
  tC : typeIn K (.ref fI) = some (.type "function")
  kC : keepIn K (.ref C) = true
  exC : subIn K (.ref C) (.type "BaseException") = some true
  tyC : typeIn K (.ref C) = some (.type "type")
  hdC : hasDictIn K C = true
  tx : NumP P f par m
  fn : ∃ (oc : Value) (od : Option Addr) (qn : Str) (kV doc pm : Value) (an : Option Addr) (cdv ct : Value) (osl : Array (Option Value)) (j : Nat) (p1 p2 q1 q2 q3 q4 q5 q6 q7 q8 q9 q10 : Pos),
    K.lookup fI = some ⟨oc, od, .func (fnOf "__init__" qn (iA par p1 p2) (iB P f par m j q1 q2 q3 q4 q5 q6 q7 q8 q9 q10) (iS P par) .none kV doc pm an cdv ct), osl⟩ ∧ codeIn K cdv qn = true ∧ EvI P par m qn j q1 q2 q3 q4 q5
theorem one_size (v : Value) : [v].length ≤ sizeLine := by
  rw [sizeLine_eq]
  exact (by decide : 1 ≤ 16777216)
theorem ldC {M : Model} {s : Shared} {env : Env} {m : Str → Option Value} {x : Str} {pos : Pos} {v : Value} {Q : Value → Shared → Prop} {A : Around} {E : Value → Shared → Prop} (hn : s.heap.Ns env.locals m) (hv : m x = some v) (h : Q v s)
    (hk : env.scope.kind = .function) (hl : env.kindOf x = some .local) (hd : (x == ("__debug__" : Str)) = false) :
    wpAny M A (eval (.Name x pos) env) Q E s := wpAny_Name (wpAny_loadName_local hk hl hn hv h) hd
structure InitEnd (h h' : Heap) (x C dx : Addr) (f : Str) (v : Value) : Prop where
  keep : ∀ b o, b ≠ x → h.get? b = some o → h'.get? b = some o
  obj : ∃ t1 : Addr, h'.get? x = some { cls := .ref C, dict := some dx, data := .fields #[.ref t1, .none, .none, .none, .bool false, .none] }
  dbig : h.objs.size ≤ dx
  dne : dx ≠ x
  ns : h'.Ns1 dx (fun y => if y = f then some v else none)
structure OwnMade (h h' : Heap) (e C d : Addr) (f : Str) (v : Value) : Prop where
  keep : ∀ b o, h.get? b = some o → h'.get? b = some o
  new : h.objs.size ≤ e
  obj : ∃ oe vs, h'.get? e = some oe ∧ oe.cls = .ref C ∧ oe.dict = some d ∧ oe.data = .fields vs ∧ vs[1]? = some .none
  dbig : h.objs.size ≤ d
  dne : d ≠ e
  ns : h'.Ns1 d (fun y => if y = f then some v else none)
section
variable {prog : Program} {w : World} {A : Around} {E : Value → Shared → Prop} {R : Result → Shared → Prop} {s : Shared} {K : Frag} {mg : Str → Option Value} {x P f par m : Str} {C C0 fI : Addr}
theorem num_init (T : NumTxt K mg x P f par m C C0 fI) {e t0 : Addr} {v : Value} (X : K.In s.heap) (G : s.heap.Ns mainGlobals mg) (hlim : s.heap.NoLimit) (hx : s.heap.get? e = some (excO C t0)) (hnx : K.lookup e = none) (hroom : A.depth < recursionLimit)
    (hq : ∀ h' tk dx, InitEnd s.heap h' e C dx f v → R (.ok (.ret .none)) { s with heap := h', toks := tk }) :
    codeAny (model prog w) A (.call (.ref fI) ⟨[.ref e, v], []⟩) R s := by
  obtain ⟨oc, od, qn, kV, doc, pm, an, cdv, ct, osl, j, p1, p2, q1, q2, q3, q4, q5, q6, q7, q8, q9, q10, ho, hcd, hEv⟩ := T.fn
  obtain ⟨nm, q, N, bs, bm, sn, sub, ab, col, dd, k0, k1, k2, k3, k5, hC, hbm⟩ := T.cls
  have hap := T.tx.ap
  simp only [apartB, Bool.and_eq_true, Bool.not_eq_true', beq_eq_false_iff_ne] at hap
  obtain ⟨a1, a2, a3, a4, a5⟩ := hap
  have hcl : clsIn K C = some { name := nm, bases := bs, mro := .ref C :: bm, ns := N, qualname := q, hasDict := true, slotNames := sn, subclasses := sub, abstract := ab, collection := col, hasDel := false } := by unfold clsIn; rw [hC] <;> rfl
  have lp : (iS P par).names.lookup par = some NameKind.local := by
    show List.lookup par [(PySem.Str.ofString "self", NameKind.local), (par, .local), (P, .globalImplicit)] = _
    rw [List.lookup_cons, show (par == PySem.Str.ofString "self") = false from by simpa using a1, List.lookup_cons, beq_self_eq_true]
  have ls : (iS P par).names.lookup (PySem.Str.ofString "self") = some NameKind.local := by
    show List.lookup (PySem.Str.ofString "self") [(PySem.Str.ofString "self", NameKind.local), (par, .local), (P, .globalImplicit)] = _
    rw [List.lookup_cons, beq_self_eq_true]
  have lP : (iS P par).names.lookup P = some NameKind.globalImplicit := by
    show List.lookup P [(PySem.Str.ofString "self", NameKind.local), (par, .local), (P, .globalImplicit)] = _
    rw [List.lookup_cons, show (P == PySem.Str.ofString "self") = false from by simpa using a2, List.lookup_cons, show (P == par) = false from by simpa using a3, List.lookup_cons, beq_self_eq_true]
  refine Att.call_fn (binds := [("self", .ref e), (par, v)]) X hlim ho hcd hroom (BindsTo.of_eq (T.tx.bd ..)) ?_ (fun s₁ IC => ?_) rfl rfl rfl
  · show (([(PySem.Str.ofString "self", Value.ref e), (par, v)] : List (Str × Value)).all fun y => (iS P par).names.lookup y.1 == some .local || (iS P par).names.lookup y.1 == some .cell) = true
    rw [List.all_cons, List.all_cons, List.all_nil, show (iS P par).names.lookup (PySem.Str.ofString "self") = some .local from ls, lp]
    rfl
  obtain ⟨h₁, tk₁, rfl⟩ := IC.toInCall.same
  have k : ∀ b o, s.heap.get? b = some o → h₁.get? b = some o := IC.toInCall.keep
  have hn := IC.toInCall.ns
  have hxL : s.heap.objs.size ≠ e := Nat.ne_of_gt (Heap.lt_size hx)
  have X₁ : K.In h₁ := X.keeps k
  have G₁ : h₁.Ns mainGlobals mg := G.keeps k
  have hx₁ := k _ _ hx
  have ks : (envOfC qn (iS P par) s.heap.objs.size fI cdv).kindOf (PySem.Str.ofString "self") = some .local := ls
  have kp : (envOfC qn (iS P par) s.heap.objs.size fI cdv).kindOf par = some .local := lp
  have kP : (envOfC qn (iS P par) s.heap.objs.size fI cdv).kindOf P = some .globalImplicit := lP
  obtain ⟨pl, hev⟩ := hEv s.heap.objs.size fI cdv
  have nd2 : ([PySem.Str.ofString "self", par] : List Str).Nodup := by
    rw [List.nodup_cons]
    exact ⟨by simpa using Ne.symm a1, by simp⟩
  have bs' : bindL (envOfC qn (iS P par) s.heap.objs.size fI cdv).kindOf [(PySem.Str.ofString "self", Value.ref e), (par, v)] (fun _ => none) (PySem.Str.ofString "self") = some (.ref e) :=
    L2.bindL_get (P := [PySem.Str.ofString "self", par]) (vs := [.ref e, v]) (i := 0) nd2 rfl rfl ks
  have bp' : bindL (envOfC qn (iS P par) s.heap.objs.size fI cdv).kindOf [(PySem.Str.ofString "self", Value.ref e), (par, v)] (fun _ => none) par = some v :=
    L2.bindL_get (P := [PySem.Str.ofString "self", par]) (vs := [.ref e, v]) (i := 1) nd2 rfl rfl kp
  -- P.__init__(self, 'm')
  show wpAny _ _ (execs _ _) _ _ _
  refine wpAny_execs_cons (wpAny_Expr_any ?_ (by rfl) (by rfl))
  refine PySem.W.methodCall_KW (PySem.Calls.Name_function_global (by rfl) kP (PySem.Calls.loadGlobal_global (by exact G₁) T.gP ?_) (by simpa using a4)) hev
  refine method_cls (K := K) X₁ T.sP (cls_value (K := K) X₁ T.rP T.vP (by decide +kernel) ?_)
  refine PyProof.Rows.callWith_method1 ?_ (by rfl) (by rfl)
  show wpAny _ _ (spliced ((false, eval (.Name "self" q3) (envOfC qn (iS P par) s.heap.objs.size fI cdv)) :: (false, eval (.Constant (.str m) j q4) (envOfC qn (iS P par) s.heap.objs.size fI cdv)) :: backTo q5 (starEach [] (envOfC qn (iS P par) s.heap.objs.size fI cdv)))) _ _ _
  refine Calls.spliced_cons (ldC (v := .ref e) (by exact hn) bs' ?_ rfl ks (by decide))
  refine Calls.spliced_cons (Calls.Constant_str (Calls.spliced_nil ?_))
  have sz : ∀ u : Value, [u].length ≤ sizeLine := one_size
  show wpAny _ _ (call (.builtin "ValueError.__init__") [.ref e, _]) _ _ _
  refine wpAny_call (init_base F.excBase_ValueError (fun Y => refsVE_contains Y bm hbm) (X₁ _ _ hC) hx₁ (sz _) fun h₂ t1 k₂ hx₂ => ?_)
  have X₂ : K.In h₂ := fun a o ea => k₂ a o (fun z => by rw [z, hnx] at ea; cases ea) (X₁ a o ea)
  have hn₂ : h₂.Ns s.heap.objs.size _ := hn.at fun o q => k₂ _ _ hxL q
  -- self.f = n
  show wpAny _ _ (execs _ _) _ _ _
  refine wpAny_execs_cons (plainObj_wpAny_Assign_Attribute ?_)
  refine ldC (v := v) (by exact hn₂) bp' (ldC (v := .ref e) (by exact hn₂) bs' ?_ rfl ks (by decide)) rfl kp (by simpa using a5)
  refine set_plain X₂ (ox := excO C t1) (od := none) ⟨hx₂, rfl, rfl, trivial⟩ T.sa ?_
  refine exc_osa X₂ hx₂ hcl (show refsVE (.ref C :: bm) = true from hbm) rfl T.noN (fun h₃ tk₃ dx k₃ dn dne hx₃ hn₃ => ?_)
  show wpAny _ _ (execs _ _) _ _ _
  exact wpAny_execs_nil (hq h₃ tk₃ dx ⟨fun b o hb eb => k₃ b o hb (k₂ b o hb (k b o eb)), ⟨t1, hx₃⟩, Nat.le_of_lt (Nat.lt_of_lt_of_le hn₂.lt dn), dne, hn₃⟩)
theorem num_made (T : NumTxt K mg x P f par m C C0 fI) {v : Value} (X : K.In s.heap) (G : s.heap.Ns mainGlobals mg) (hlim : s.heap.NoLimit) (hroom : A.depth + 1 < recursionLimit)
    (hq : ∀ h' tk e d, OwnMade s.heap h' e C d f v → R (.ok (.ret (.ref e))) { s with heap := h', toks := tk }) :
    codeAny (model prog w) A (.call (.ref C) ⟨[v], []⟩) R s := by
  obtain ⟨nm, q, N, bs, bm, sn, sub, ab, col, dd, k0, k1, k2, k3, k5, hC, hbm⟩ := T.cls
  obtain ⟨hp, g, dr, tk, os⟩ := s
  have k : ∀ b o, hp.get? b = some o → ((hp.push (kdv_tup [v])).push (excO C hp.objs.size)).get? b = some o := fun b o e => Heap.get?_push_of_some _ (Heap.get?_push_of_some _ e)
  have hget : ((hp.push (kdv_tup [v])).push (excO C hp.objs.size)).get? (hp.objs.size + 1) = some (excO C hp.objs.size) := by heap_get
  have hnx : K.lookup (hp.objs.size + 1) = none := by
    cases e : K.lookup (hp.objs.size + 1) with
    | none => rfl
    | some o =>
      have z : hp.get? (hp.objs.size + 1) = some o := X _ _ e
      exact absurd (Nat.lt_of_succ_lt (Heap.lt_size z)) (Nat.lt_irrefl _)
  refine call_own F.excBase_ValueError (fun X => refsVE_contains X bm hbm) (X _ _ hC) (looks_findIn X T.iC) (fun self => bind_fn X self T.tC) (one_size v) ?_
  refine num_init (s := ⟨(hp.push (kdv_tup [v])).push (excO C hp.objs.size), g, dr, tk, os⟩) T (X.keeps k) (G.keeps k) (hlim.keeps k) hget hnx ?_ fun h' tk' dx ⟨k', ⟨t1, hx⟩, dn, dne, hns⟩ => ?_
  · show A.depth + 1 < recursionLimit
    exact hroom
  · have old : ∀ b o, hp.get? b = some o → h'.get? b = some o := fun b o e => k' b o (Nat.ne_of_lt (Nat.lt_succ_of_lt (Heap.lt_size e))) (k b o e)
    have z : hp.objs.size + 1 + 1 ≤ dx := by
      first
        | (simpa only [Heap.size_push] using dn)
        | exact dn
        | (have q := dn; rw [Heap.size_push, Heap.size_push] at q; exact q)
    exact ⟨rfl, hq h' tk' (hp.objs.size + 1) dx ⟨old, Nat.le_succ _, ⟨_, _, hx, rfl, rfl, rfl, rfl⟩, Nat.le_trans (Nat.le_trans (Nat.le_succ _) (Nat.le_succ _)) z, dne, hns⟩⟩
end
end NumX
namespace DL
open PySem PySem.Spec PyProof.Rows L2
/-! ### raise X(e), X with a number -/
def numEx (x f : Str) (ρ : Env_) : List D → Store → RS
  | [.int i], st => .exn ⟨x, some (f, i)⟩ ρ st
  | _, _ => .bad
def sRaiseN (x f : Str) (ml : EL) : SM := fun ρ st => RS.ofE ρ (ml ρ st) (numEx x f ρ)
theorem numEx_at {x f : Str} {ρ : Env_} {ds : List D} {st : Store} (h : numEx x f ρ ds st ≠ .bad) : ∃ i, ds = [.int i] ∧ numEx x f ρ ds st = .exn ⟨x, some (f, i)⟩ ρ st := by
  unfold numEx at h ⊢
  split at h
  · next i => exact ⟨i, rfl, rfl⟩
  · exact absurd rfl h
theorem relO_num {f : Str} {v : V} {v' : Value} (r : RelV v v') (g : Str) : RelO (List.lookup g [(f, v)]) (if g = f then some v' else none) := by
  by_cases hw : g = f
  · subst hw
    rw [if_pos rfl, List.lookup_cons, beq_self_eq_true]
    exact r
  · rw [if_neg hw, List.lookup_cons, show (g == f) = false from by simpa using hw]
    trivial
section
variable {X : Cx} {T : Fx} {pins : List (Addr × Obj)} {G G1 : Gh} {ρ ρ1 : Env_} {st st1 : Store} {s sI s' : Shared} {x P f par m : Str} {C C0 fI : Addr} {ml : EL} {e : Expr} {p p2 pos pos' : Pos} {k : Nat}
theorem ds_raiseN (N : NumX.NumTxt X.K X.mg x P f par m C C0 fI) (hr : Room k X.A) (hk : 1 ≤ k) (hc : X.calm = true) (hg : Gl X x) (ha : DA X T [e] ml) (hdb : (x == ("__debug__" : Str)) = false := by decide)
    (he : starEach [e] X.env = [(false, eval e X.env)] := by rfl) : DS X T (.Raise (some (.Call (.Name x p) [e] [] pos)) none pos') (sRaiseN x f ml) := .mk fun pins s G ρ st I hb => by
  show wpAny _ _ (do standAt pos'; raiseStmt X.env (some (do let v ← eval (.Call (.Name x p) [e] [] pos) X.env; standAt pos'; pure v)) none) _ _ _
  have hm : ml ρ st ≠ .bad := fun z => hb (by unfold sRaiseN; rw [z]; rfl)
  refine wpAny_bind (wpAny_standAt (raise_made (I.inv.ok.hd hc) (wpAny_bind ?_)))
  refine wpAny_Call_Name_kw (ld_glob I.inv hg N.gC ?_ hdb)
  refine PySem.W.callWith_K (h₀ := X.base) I.inv.ok.mod.kin N.kC (ha.run (pos := pos) I hm (fun us s1 ds st1 G1 e1 x1 I1 r1 _ => ⟨I1.inv.kIn, ?_⟩) fun z s1 h1 => ?_) (by rw [he]; rfl) (by rfl)
  · have eq1 : sRaiseN x f ml ρ st = numEx x f ρ ds st1 := by
      unfold sRaiseN
      rw [e1]
      rfl
    rw [eq1] at hb ⊢
    obtain ⟨i, rfl, eq2⟩ := numEx_at hb
    rw [eq2]
    obtain ⟨v, rfl, t, rfl⟩ := r1.one
    · skip
      have go : wpAny (model X.prog X.w) X.A (call (.ref C) [.int i t]) (fun r s2 => ∃ h' tk' a d, r = .ref a ∧ s2 = { s1 with heap := h', toks := tk' } ∧ NumX.OwnMade s1.heap h' a C d f (.int i t)) (fun _ _ => False) s1 :=
        wpAny_call (NumX.num_made N I1.inv.kIn (I1.inv.ok.mod.glob.keeps I1.inv.bk) I1.inv.nolimit (by have := hr.dp; omega) fun h' tk' a d M => ⟨h', tk', a, d, rfl, rfl, M⟩)
      refine wpAny_mono (PySem.wpAny_toks go) (fun r s2 ⟨hn, h', tk', a, d, e2, e3, M⟩ => ?_) fun _ _ z => z.2.elim
      subst e2 e3
      refine wpAny_bind (wpAny_standAt (wpAny_pure ?_))
      obtain ⟨oe, fv, hoe, hcl, hd, hdat, h1⟩ := M.obj
      obtain ⟨r1, r2⟩ := raises_own (X := X) N.exC N.tyC (model X.prog X.w) h' (I1.inv.kIn.keeps M.keep)
      obtain ⟨G', g1, g2⟩ := restrict h' fun b => decide (b ≠ a)
      have gk : ∀ b, b ≠ a → G'.get? b = h'.get? b := fun b hb => g1 b (decide_eq_true hb)
      have ge : G'.get? a = none := g2 a (by simp)
      have old : ∀ b o, s1.heap.get? b = some o → G'.get? b = some o := fun b o q => (gk b (Nat.ne_of_lt (Nat.lt_of_lt_of_le (Heap.lt_size q) M.new))).trans (M.keep b o q)
      have ob : ObjOk X.prog X.w (upd G1.H d (.xd [(f, V.int i)])) G' d (.xd [(f, V.int i)]) :=
        ⟨_, M.ns.at (fun o q => (gk d M.dne).trans q), fun g => relO_num (v := V.int i) (v' := .int i t) ⟨t, rfl⟩ g⟩
      have J : InvD X T pins ⟨upd G1.H d (.xd [(f, V.int i)]), G1.as, G1.ow, G1.oa⟩ ρ st1 { s1 with heap := G', toks := tk' } := I1.laid old M.dbig ob hn
      have xl : Ext G1 ⟨upd G1.H d (.xd [(f, V.int i)]), G1.as, G1.ow, G1.oa⟩ := Ext.laid (I1.free M.dbig)
      refine ⟨a, oe, fv, .ref C, rfl, hoe, hcl, hdat, h1, r1, r2, ⟨x, some (f, i)⟩, ρ, st1, _, rfl, (x1.trans xl).sx, ?_⟩
      exact air_new (cls := .ref C) (dd := some d) (s' := { s1 with heap := h', toks := tk' }) J (fun b o q => by
        by_cases hba : b = a
        · have q' : G'.get? b = some o := q
          rw [hba, ge] at q'; cases q'
        · exact (gk b hba).symm.trans q) ge hoe ⟨hcl, hd⟩ hdat h1 rfl J.inv.bare (Nat.le_refl _) ⟨⟨C, N.gC, rfl⟩, .inr ⟨d, f, i, rfl, rfl, upd_same⟩⟩
  · obtain ⟨ex, st', G', e1, x1, ar⟩ := h1
    exact ⟨ex, ρ, st', G', by unfold sRaiseN; rw [e1]; rfl, x1.sx, ar⟩
end
end DL
namespace DL
open PySem PySem.Spec PyProof.Rows L2
/-! ### try: .. except X as n: .. n.f .. -/
def noOwn (ρ : Env_) : Bool := ρ.all fun o => match o with
  | some (.own _ _) => false
  | _ => true
def wipeS (i : Nat) : RS → RS
  | .go fl ρ st => .go fl (ρ.set i none) st
  | r => r
/-- a clause's suite: without a name, or with n in slot i, of which n.f alone is read -/
inductive Hm where
  | pl (k : SM)
  | nm (i : Nat) (f : Str) (k : Int → SM)
def nmRun (i : Nat) (f : Str) (k : Int → SM) (o : Option (Str × Int)) : SM := fun ρ st => match o with
  | some (g, v) => if g = f ∧ noOwn ρ = true then wipeS i (quietS (k v (ρ.set i none) st)) else .bad
  | none => .bad
def pickA : List (Str × Hm) → Ex → SM
  | [], ex => fun ρ st => .exn ex ρ st
  | (x, .pl k) :: r, ex => if ex.cls = x then fun ρ st => quietS (k ρ st) else pickA r ex
  | (x, .nm i f k) :: r, ex => if ex.cls = x then nmRun i f k ex.fld else pickA r ex
def sTryA (es : List Str) (m : SM) (hs : List (Str × Hm)) : SM := fun ρ st => match m ρ st with
  | .exn ex ρ1 st1 => if ex.cls ∈ es then pickA hs ex ρ1 st1 else .bad
  | r => r
/-- n.f, n holding the exception at a -/
def eFldA (i : Nat) (a : Addr) (v : Int) : EM := fun ρ st => match ρ[i]? with
  | some (some (.adr b)) => if b = a then .ok (.int v) st else .bad
  | _ => .bad
theorem eFldA_at {i : Nat} {a : Addr} {v : Int} {ρ : Env_} {st : Store} (h : eFldA i a v ρ st ≠ .bad) : ρ[i]? = some (some (.adr a)) ∧ eFldA i a v ρ st = .ok (.int v) st := by
  unfold eFldA at h ⊢
  split at h
  · next b e =>
    split at h
    · next e2 => subst e2; exact ⟨e, if_pos rfl⟩
    · exact absurd rfl h
  · exact absurd rfl h
/-- the ghost where a suite begins -/
def bare (G : Gh) : Gh := ⟨G.H, G.as, G.ow, fun _ => none⟩
theorem bare_sx (G : Gh) : SExt G (bare G) := ⟨fun _ _ h => h, fun _ _ h => h⟩
inductive HdsA (X : Cx) (T : Fx) (es : List Str) : List ExceptHandler → List (Str × Hm) → Prop
  | nil : HdsA X T es [] []
  | cons {x : Str} {k : SM} {b₀ : Stmt} {suite : List Stmt} {np pos' : Pos} {hds : List ExceptHandler} {l : List (Str × Hm)} (c : Caught X.K X.mg es x) (hg : Gl X x) (hdb : (x == ("__debug__" : Str)) = false)
      (hsu : ∀ (a : Addr) (oe : Obj) (pn : List (Addr × Obj)), DSs (X.suite a ((a, oe) :: pn)) T (b₀ :: suite) k) (r : HdsA X T es hds l) :
      HdsA X T es (.ExceptHandler (some (.Name x np)) none (b₀ :: suite) pos' :: hds) ((x, .pl k) :: l)
  | as_ {x n P f par m : Str} {C C0 fI : Addr} {i : Nat} {kn : Addr → Int → SM} {k : Int → SM} {b₀ : Stmt} {suite : List Stmt} {np pos' : Pos} {hds : List ExceptHandler} {l : List (Str × Hm)} (c : Caught X.K X.mg es x) (hg : Gl X x) (hdb : (x == ("__debug__" : Str)) = false)
      (hN : X.N.Nodup) (hi : X.N[i]? = some n) (hln : X.env.kindOf n = some .local) (hnd : (n == ("__debug__" : Str)) = false) (hncd : (n == ("__classdict__" : Str)) = false) (N : NumX.NumTxt X.K X.mg x P f par m C C0 fI) (hf : ∀ (env : Env) (q1 : Pos), attributeBase (.Name n q1) f env (eval (.Name n q1) env) = eval (.Name n q1) env)
      (hsu : ∀ (a : Addr) (oe : Obj) (pn : List (Addr × Obj)) (g : Gh) (v : Int), (∀ q1 q2 : Pos, DE (X.suite a ((a, oe) :: pn)) ⟨T.T, g, T.fn, T.n0⟩ (.Attribute (.Name n q1) f q2) (eFldA i a v)) → DSs (X.suite a ((a, oe) :: pn)) ⟨T.T, g, T.fn, T.n0⟩ (b₀ :: suite) (kn a v))
      (hind : ∀ (a : Addr) (v : Int) (ρ : Env_) (st : Store), ρ.length = X.N.length → wipeS i (quietS (kn a v (ρ.set i (some (.adr a))) st)) = wipeS i (quietS (k v (ρ.set i none) st))) (r : HdsA X T es hds l) :
      HdsA X T es (.ExceptHandler (some (.Name x np)) (some n) (b₀ :: suite) pos' :: hds) ((x, .nm i f k) :: l)
section
variable {X : Cx} {T : Fx} {pins : List (Addr × Obj)} {G G1 : Gh} {ρ ρ1 : Env_} {st st1 : Store} {s sI s' : Shared} {B : Heap}
theorem noOwn_plain (I : InvD X T pins G ρ st s) (h : noOwn ρ = true) {j : Nat} {d : D} (e : ρ[j]? = some (some d)) : plain d = true := by
  have h1 := List.all_eq_true.mp h (some d) (List.mem_of_getElem? e)
  have h2 := I.nn j d e
  cases d with
  | new l => cases h2
  | own j l => cases h1
  | _ => rfl
theorem InvD.toBare (I : InvD X T pins G ρ st s) (h : noOwn ρ = true) : InvD X ⟨T.T, bare G, T.fn, T.n0⟩ pins (bare G) ρ st s := by
  obtain ⟨m, h1, h2⟩ := I.loc
  refine ⟨I.inv, ⟨m, h1, fun j y d a1 a2 a3 => ?_⟩, ⟨I.sto.len, I.sto.nd, fun k b c q1 q2 => ?_⟩, I.tok, I.pos, I.len, I.owd, ⟨fun _ _ q => q, fun _ _ q _ => q, fun _ _ q => q, fun _ q => .inl q, fun _ q => q, fun _ q => q⟩, I.nn, (fun _ _ q => nomatch q), (fun _ _ q => nomatch q), (fun _ _ _ q _ => nomatch q), I.so, I.tb, I.tk0⟩
  · obtain ⟨u, r, l⟩ := h2 j y d a1 a2 a3
    exact ⟨u, Rep.smono (bare_sx G) (Nat.le_refl _) (noOwn_plain I h a2) r, l⟩
  · have q := I.sto.cell k b c q1 q2
    cases c with
    | lst ds =>
      obtain ⟨o', us, q3, q4, q5⟩ := q
      exact ⟨o', us, q3, q4, Reps.smono (bare_sx G) (Nat.le_refl _) q5⟩
    | tbl q' => exact q
theorem InvD.ofBare {G2 : Gh} {ρ2 : Env_} {st2 : Store} (I0 : InvD X T pins G ρ st s) (I : InvD X ⟨T.T, bare G, T.fn, T.n0⟩ pins G2 ρ2 st2 s') : InvD X T pins G2 ρ2 st2 s' :=
  ⟨I.inv, I.loc, I.sto, I.tok, I.pos, I.len, I.owd, I0.ext.trans ⟨I.ext.fr, I.ext.keep, I.ext.pre, I.ext.new, I.ext.dom, I.ext.ow⟩, I.nn, fun i a h => I0.ext.dom a (I.oaT i a h), I.oaw, I.oai, I.so, I.tb, I.tk0⟩
/-- the name of a clause goes -/
theorem gone_run {E : Value → Shared → Prop} {i : Nat} {n : Str} {pos : Pos} {Q : Unit → Shared → Prop} (I : InvD X T pins G ρ st s) (hN : X.N.Nodup) (hi : X.N[i]? = some n) (hl : X.env.kindOf n = some .local)
    (h : ∀ s', InvD X T pins G (ρ.set i none) st s' → s.toks ≤ s'.toks → Q () s') : wpAny (model X.prog X.w) X.A (do bindName X.env n .none; unbindBehindTheSuite X.env n pos) Q E s := by
  obtain ⟨m, hn, hlk⟩ := id I.loc
  have hcls : (X.env.scope.kind == .class || (X.env.scope.kind == .module && X.env.locals != X.env.globals)) = false := by rw [I.inv.ok.kind]; rfl
  refine wpAny_nameGoes_keeps hl hn hcls fun h' v hn' hs => h _ ?_ (Nat.le_succ _)
  have J0 := I.inv
  have neL : ∀ b o, X.s_0.heap.get? b = some o → b ≠ X.env.locals := fun b o e => Nat.ne_of_lt (Nat.lt_of_lt_of_le (Heap.lt_size e) J0.ok.above)
  have J : Inv X pins (blank X.N) G.H { s with heap := h', toks := s.toks + 1 } := by
    refine ⟨J0.ok, J0.os, J0.bare, ⟨fun b o e n hb hx => ?_, fun b o e n hb hx => ?_, J0.base.free, fun b o e hx => ?_, J0.base.tups, J0.base.frzs, J0.base.tbls⟩, ⟨_, hn', fun j y v' e1 e2 e3 => (blank_get e2).elim⟩, fun y c e => ?_, J0.free, J0.freeC, fun p hp => ?_, fun b ob e => ?_, J0.len⟩
    · exact (hs.2 b (neL b o e)).trans (J0.base.keep b o e n hb hx)
    · obtain ⟨sl, e1⟩ := J0.base.slot b o e n hb hx
      exact ⟨sl, (hs.2 b (neL b o e)).trans e1⟩
    · obtain ⟨o', e1⟩ := J0.base.there b o e hx
      exact ⟨o', (hs.2 b (neL b o e)).trans e1⟩
    · obtain ⟨w', z⟩ := J0.cell y c e
      exact ⟨w', z.sameBut hs (J0.cne y c e)⟩
    · obtain ⟨e, n, ne, nf, d⟩ := J0.pin p hp
      exact ⟨(hs.2 p.1 ne).trans e, n, ne, nf, d⟩
    · refine (J0.hok b ob e).stay (fun c w' hc q => (hs.2 c ?_).trans q) (fun _ q => q) fun _ _ q => q
      intro z
      subst z
      rcases hc with hc | hc
      · rw [← hc, J0.free] at e; cases e
      · rw [J0.free] at hc; cases hc
  have get : ∀ (j : Nat) (d : D), (ρ.set i none)[j]? = some (some d) → j ≠ i ∧ ρ[j]? = some (some d) := fun j d e => by
    by_cases hj : j = i
    · subst hj
      rw [List.getElem?_set] at e
      simp at e
    · rw [List.getElem?_set_ne (Ne.symm hj)] at e
      exact ⟨hj, e⟩
  refine ⟨J, ⟨_, hn', fun j y d a1 a2 a3 => ?_⟩, sto_mono (h' := h') I (Nat.le_succ _), Nat.le_succ_of_le I.tok, I.pos, by rw [List.length_set]; exact I.len, I.owd, I.ext, fun j d e => I.nn j d (get j d e).2, I.oaT, I.oaw, I.oai, fun hf j k c e => I.so hf j k c (get j _ e).2, I.tb, Nat.le_succ_of_le I.tk0⟩
  obtain ⟨hj, a2⟩ := get j d a2
  obtain ⟨u, r, l⟩ := hlk j y d a1 a2 a3
  refine ⟨u, Rep.mono (Ext.refl G) (Nat.le_succ _) r, ?_⟩
  rcases l with ⟨k, e⟩ | ⟨k, c, e, z⟩
  · have ny : y ≠ n := fun e => hj (nodup_ix hN a1 (e ▸ hi))
    exact .inl ⟨k, (if_neg ny).trans e⟩
  · exact .inr ⟨k, c, e, z.sameBut hs (J0.cne y c e)⟩
/-- n.f -/
theorem de_fldA {n x P f par m : Str} {C C0 fI a dx : Addr} {oe : Obj} {pn : List (Addr × Obj)} {i : Nat} {v : Int} {vs : Array Value} {g : Gh} (N : NumX.NumTxt X.K X.mg x P f par m C C0 fI) (hi : X.N[i]? = some n) (hln : X.env.kindOf n = some .local) (hnd : (n == ("__debug__" : Str)) = false) (hncd : (n == ("__classdict__" : Str)) = false)
    (hz : Zc (.ref C) (some dx) oe) (hd : oe.data = .fields vs) (hx : g.H dx = some (.xd [(f, V.int v)])) (hxa : dx ∉ g.as) (hb : ∀ (env : Env) (q1 : Pos), attributeBase (.Name n q1) f env (eval (.Name n q1) env) = eval (.Name n q1) env) (q1 q2 : Pos) :
    DE (X.suite a ((a, oe) :: pn)) ⟨T.T, g, T.fn, T.n0⟩ (.Attribute (.Name n q1) f q2) (eFldA i a v) := .mk fun pins s G ρ st I h => by
  obtain ⟨e1, e2⟩ := eFldA_at h
  rw [e2]
  refine attr_of (hb _ _) (name_ok (X := X.suite a ((a, oe) :: pn)) I hi (.inl hln) hnd hncd e1 fun u r => ?_)
  obtain rfl : u = Value.ref a := r
  have ea := I.ext.keep dx _ hx hxa
  obtain ⟨ha, _⟩ := I.inv.pin (a, oe) (List.mem_append_left _ List.mem_cons_self)
  have ho : ObjOk X.prog X.w G.H s.heap dx (.xd [(f, V.int v)]) := I.inv.hok dx _ ea
  obtain ⟨mA, hns, hr⟩ := ho
  obtain ⟨od, ho, hl⟩ := lookIn_ns hns
  have l : List.lookup f [(f, V.int v)] = some (V.int v) := by rw [List.lookup_cons, beq_self_eq_true]
  obtain ⟨u, hu, ru⟩ := RelO.some_of (v := V.int v) (o := mA f) (by rw [← l]; exact hr f)
  have J : PySem.W.InstAt s.heap a oe C (some od) := ⟨ha, hz.1, by unfold PySem.W.notCls; rw [hd] <;> rfl, by rw [hz.2]; exact ho⟩
  exact HandSPX.exc_get (X := I.inv.kIn) J N.ga N.gg N.exC (PySem.W.findObj_own N.hdC N.noN rfl (by rw [hl, hu])) (handed_of ru) ⟨_, st, G, rfl, Ext.refl G, I.tk (Nat.le_succ _), ru, NewOk.of rfl⟩
theorem ds_tryA {body : List Stmt} {h₀ : ExceptHandler} {hds : List ExceptHandler} {l : List (Str × Hm)} {es : List Str} {k : SM} {pos : Pos} (hs : X.stack = X.env :: X.outer) (hf : X.env.frame = some X.env.locals) (hb : DSs X T body k) (hh : HdsA X T es (h₀ :: hds) l) :
    DS X T (.Try body (h₀ :: hds) [] [] pos) (sTryA es k l) := .mk fun pins s G ρ st I h => by
  have ok := I.inv.ok
  have hfr : X.A.frames = some (X.env :: X.outer) := by rw [ok.frames, hs]
  have hk : k ρ st ≠ .bad := fun z => h (by unfold sTryA; rw [z])
  refine wpAny_Try_except (wpAny_mono (hb pins s G ρ st I hk) (fun f s1 z => ?_) fun e s1 z => ?_)
  · obtain ⟨fl, ρ1, st1, G1, e1, x1, I1, q⟩ := z
    have eq1 : sTryA es k l ρ st = .go fl ρ1 st1 := by unfold sTryA; rw [e1]
    rw [eq1]
    cases f with
    | next => exact wpAny_execs_nil ⟨fl, ρ1, st1, G1, rfl, x1, I1, q⟩
    | brk => exact ⟨fl, ρ1, st1, G1, rfl, x1, I1, q⟩
    | cont => exact ⟨fl, ρ1, st1, G1, rfl, x1, I1, q⟩
    | ret u => exact ⟨fl, ρ1, st1, G1, rfl, x1, I1, q⟩
  · obtain ⟨ex, ρ1, st1, G1, e1, x1, a, B, sI, cls, dd, rfl, J, nb, up, sky, na, os, ag, tk, xo⟩ := z
    have eq1 : sTryA es k l ρ st = if ex.cls ∈ es then pickA l ex ρ1 st1 else .bad := by unfold sTryA; rw [e1]
    rw [eq1] at h ⊢
    by_cases hes : ex.cls ∈ es
    · rw [if_pos hes] at h ⊢
      have sky' : Sky B (X.env :: X.outer) a (Zc cls dd) X.env.locals s1.heap := by rw [← hs]; exact sky
      refine Sky.land Zc.steady hfr hf sky' fun h3 fl3 up3 => ?_
      have J3 : InvD X T pins G1 ρ1 st1 { s1 with heap := h3 } := J.landed nb fl3.1 (up.trans up3) os ag tk
      obtain ⟨oe3, vs3, he3, hz3, hd3⟩ := fl3.there
      have nfr : a ∉ frs (X.env :: X.outer) := fun hm => by
        obtain ⟨_, o', e', hnf⟩ := fl3.2.2.1.mem hm
        have : o' = oe3 := Option.some.inj (e'.symm.trans he3)
        subst this
        exact hnf _ hd3
      have nL : a ≠ X.env.locals := fun z => nfr (List.mem_filterMap.mpr ⟨X.env, List.mem_cons_self, by rw [hf, z]⟩)
      have nF : a ∉ X.fs := fun hm => by
        obtain ⟨e, he, q⟩ := List.mem_filterMap.mp hm
        exact nfr (List.mem_filterMap.mpr ⟨e, List.mem_cons_of_mem _ he, q⟩)
      have S3 := J3.suite he3 hd3 na nL nF
      have go : ∀ {hds' : List ExceptHandler} {l' : List (Str × Hm)}, HdsA X T es hds' l' → pickA l' ex ρ1 st1 ≠ .bad →
          wpAny (model X.prog X.w) X.A (handleBy (.ref a) X.env hds') (SkP X T pins G (pickA l' ex ρ1 st1)) (SxP X T pins G (pickA l' ex ρ1 st1)) { s1 with heap := h3 } := by
        intro hds' l' hk'
        induction hk' with
        | nil =>
          intro _
          refine wpAny_handleBy_nil ?_
          obtain ⟨_, _, _, oe, vs, Tr, _, _, he, _, hd, h1, _⟩ := id fl3
          unfold PySem.passOn
          refine wpAny_bind (wpAny_field he hd h1 ?_)
          rw [if_neg (show ¬ ((Value.ref Tr == Value.none) = true) from by simp)]
          have fin : wpAny (model X.prog X.w) X.A (setFlight (.ref a) X.env.frame) (fun _ s4 => wpAny (model X.prog X.w) X.A (throw (.ref a) : Sem Flow) (SkP X T pins G (.exn ex ρ1 st1)) (SxP X T pins G (.exn ex ρ1 st1)) s4) (SxP X T pins G (.exn ex ρ1 st1)) { s1 with heap := h3 } := by
            rw [hf]
            refine HandSPX.setFlight_upZ fl3 fun h4 hh4 up4 => wpAny_throw ?_
            exact ⟨ex, ρ1, st1, G1, rfl, x1, a, B, sI, cls, dd, rfl, J, nb, (up.trans up3).trans up4, .inr (.inr (by rw [hs]; exact hh4)), na, os, ag, tk, xo⟩
          first
            | exact wpAny_bind (wpAny_pure (wpAny_bind fin))
            | exact wpAny_bind fin
        | @cons x kx b₀ suite np pos' hds2 l2 c hg hdb hsu r ih =>
          intro hnb
          refine wpAny_handleBy_cons (codeAny_handlers_test ?_) (fun q => nomatch q)
          obtain ⟨mc, em⟩ := c.m ex.cls hes
          obtain ⟨C, c1, c2⟩ := xo.c
          rw [mc] at c1
          cases c1
          subst c2
          have LT : PySem.W.Looks (model X.prog X.w) h3 (typeOf (.ref a)) (.ref (He.ga X.K ex.cls)) := fun A Q E s k q => wpAny_typeOf_ref (k _ _ he3) (by rw [hz3.1]; exact q)
          have LM := PySem.W.exm_one (M := model X.prog X.w) (J3.inv.kIn) LT em
          refine ld_glob (X := X.suite a ((a, oe3) :: (X.pn ++ pins))) S3.inv hg c.g (LM.here ?_) hdb
          have ep : pickA ((x, .pl kx) :: l2) ex ρ1 st1 = if ex.cls = x then quietS (kx ρ1 st1) else pickA l2 ex ρ1 st1 := by
            show (if ex.cls = x then (fun ρ st => quietS (kx ρ st)) else pickA l2 ex) ρ1 st1 = _
            split <;> rfl
          rw [ep] at hnb ⊢
          by_cases hx : ex.cls = x
          · rw [if_pos hx] at hnb ⊢
            rw [decide_eq_true hx]
            refine codeAny_handlers_suite ?_
            refine HandSPX.lands_againZ fl3 fun h4 fl4 up4 => ?_
            have J4 : InvD X T pins G1 ρ1 st1 { s1 with heap := h4 } := J.landed nb fl4.1 ((up.trans up3).trans up4) os ag tk
            obtain ⟨oe4, vs4, he4, _, hd4⟩ := fl4.there
            have S4 := J4.suite he4 hd4 na nL nF
            have hnb' : kx ρ1 st1 ≠ .bad := fun z => hnb (by rw [z]; rfl)
            refine wpAny_mono (hsu a oe4 (X.pn ++ pins) [] _ G1 ρ1 st1 S4 hnb') (fun f s6 z => ?_) fun e6 s6 z => ?_
            · obtain ⟨fl, ρ6, st6, G6, q1, q2, q3, q4⟩ := z
              exact ⟨fl, ρ6, st6, G6, by rw [q1]; rfl, x1.trans q2, q3.unsuite ok, q4⟩
            · obtain ⟨_, _, _, _, q1, _⟩ := z
              exact absurd (by rw [q1]; rfl) hnb
          · rw [if_neg hx] at hnb ⊢
            rw [decide_eq_false hx]
            exact ih hnb
        | @as_ x n P f par m C C0 fI i kn kx b₀ suite np pos' hds2 l2 c hg hdb hN hi hln hnd hncd N hfb hsu hind r ih =>
          intro hnb
          refine wpAny_handleBy_cons (codeAny_handlers_test ?_) (fun q => nomatch q)
          obtain ⟨mc, em⟩ := c.m ex.cls hes
          obtain ⟨C', c1, c2⟩ := xo.c
          rw [mc] at c1
          cases c1
          subst c2
          have LT : PySem.W.Looks (model X.prog X.w) h3 (typeOf (.ref a)) (.ref (He.ga X.K ex.cls)) := fun A Q E s k q => wpAny_typeOf_ref (k _ _ he3) (by rw [hz3.1]; exact q)
          have LM := PySem.W.exm_one (M := model X.prog X.w) (J3.inv.kIn) LT em
          refine ld_glob (X := X.suite a ((a, oe3) :: (X.pn ++ pins))) S3.inv hg c.g (LM.here ?_) hdb
          have ep : pickA ((x, .nm i f kx) :: l2) ex ρ1 st1 = if ex.cls = x then nmRun i f kx ex.fld ρ1 st1 else pickA l2 ex ρ1 st1 := by
            show (if ex.cls = x then nmRun i f kx ex.fld else pickA l2 ex) ρ1 st1 = _
            split <;> rfl
          rw [ep] at hnb ⊢
          by_cases hx : ex.cls = x
          · rw [if_pos hx] at hnb ⊢
            rw [decide_eq_true hx]
            have hC : C = He.ga X.K ex.cls := by
              have q := N.gC
              rw [← hx, mc] at q
              cases q
              rfl
            subst hC
            obtain ⟨dx, fd, v, hdd, hfld, hxd⟩ : ∃ dx fd v, dd = some dx ∧ ex.fld = some (fd, v) ∧ G1.H dx = some (.xd [(fd, V.int v)]) := by
              rcases xo.p with ⟨_, q⟩ | q
              · exfalso
                apply hnb
                unfold nmRun
                rw [q]
              · exact q
            subst hdd
            have eqn : nmRun i f kx ex.fld ρ1 st1 = if fd = f ∧ noOwn ρ1 = true then wipeS i (quietS (kx v (ρ1.set i none) st1)) else .bad := by
              unfold nmRun
              rw [hfld]
            rw [eqn] at hnb ⊢
            by_cases hfo : fd = f ∧ noOwn ρ1 = true
            · rw [if_pos hfo] at hnb ⊢
              obtain ⟨hff, hno⟩ := hfo
              subst hff
              refine codeAny_handlers_suite_as ?_
              refine HandSPX.lands_againZ fl3 fun h4 fl4 up4 => ?_
              have J4 : InvD X T pins G1 ρ1 st1 { s1 with heap := h4 } := J.landed nb fl4.1 ((up.trans up3).trans up4) os ag tk
              obtain ⟨oe4, vs4, he4, hz4, hd4⟩ := fl4.there
              have J4b := J4.toBare hno
              have S4 := J4b.suite he4 hd4 na nL nF
              have ndx : dx ∉ (bare G1).as := fun hm => by
                obtain ⟨j, hj, e⟩ := List.mem_iff_getElem.mp hm
                have hj2 : G1.as[j]? = some dx := (List.getElem?_eq_getElem (l := G1.as) hj).trans (congrArg some e)
                have hlen := J4.sto.len
                cases hst : st1[j]? with
                | none =>
                  have := List.getElem?_eq_none_iff.mp hst
                  have := (List.getElem?_eq_some_iff.mp hj2).1
                  omega
                | some cl =>
                  have q := J4.sto.cell j dx cl hj2 hst
                  cases cl with
                  | lst ds => obtain ⟨o', us, q3, _⟩ := q; rw [hxd] at q3; cases q3
                  | tbl q' => obtain ⟨ps, q3, _⟩ := q; rw [hxd] at q3; cases q3
              rw [← hind a v ρ1 st1 J.len] at hnb ⊢
              have hq : quietS (kn a v (ρ1.set i (some (.adr a))) st1) ≠ .bad := fun z => hnb (by rw [z]; rfl)
              have hk4 : kn a v (ρ1.set i (some (.adr a))) st1 ≠ .bad := fun z => hq (by rw [z]; rfl)
              refine set_run (X := X.suite a ((a, oe4) :: (X.pn ++ pins))) S4 hN hi (.inl hln) (show Rep T.T (bare G1) _ (.adr a) (.ref a) from rfl) rfl (fun _ _ _ z => nomatch z) (fun s5 S5 hn5 => ?_) (.inr hln)
              have hDE := de_fldA (T := T) (a := a) (pn := X.pn ++ pins) (g := bare G1) N hi hln hnd hncd hz4 hd4 hxd ndx hfb
              refine wpAny_mono (PySem.wpAny_toks (hsu a oe4 (X.pn ++ pins) (bare G1) v hDE [] _ (bare G1) _ st1 S5 hk4)) (fun fo s6 ⟨hn6, z⟩ => ?_) fun e6 s6 ⟨_, z⟩ => ?_
              · obtain ⟨fl, ρ6, st6, G6, q1, q2, q3, q4⟩ := z
                refine gone_run ((J4.ofBare (s' := s6) (q3.unsuite ok))) hN hi hln fun s7 J7 hn7 => ?_
                refine ⟨fl, ρ6.set i none, st6, G6, by rw [q1]; rfl, (x1.trans (bare_sx G1)).trans q2, J7, ?_⟩
                cases fl with
                | nx => exact q4
                | bk => exact q4
                | ct => exact q4
                | rt d =>
                  obtain ⟨u, hu, hr, hw⟩ := q4
                  have hnw : notNew d = true ∨ ∃ l, d = .new l := by cases d <;> first | exact .inl rfl | exact .inr ⟨_, rfl⟩
                  exact ⟨u, hu, Rep.mono (Ext.refl G6) hn7 hr, fun ds b e1 e2 => J4.ext.dom b (hw ds b e1 e2)⟩
              · obtain ⟨_, _, _, _, q1, _⟩ := z
                exact absurd (by rw [q1]; rfl) hq
            · rw [if_neg hfo] at hnb
              exact absurd rfl hnb
          · rw [if_neg hx] at hnb ⊢
            rw [decide_eq_false hx]
            exact ih hnb
      exact go hh h
    · rw [if_neg hes] at h
      exact absurd rfl h
end
end DL
namespace DL
open PySem PySem.Spec PyProof.Rows L2
/-! ### what the head says of a class with a number -/
def oexB (K : PySem.W.Frag) (C : Addr) : Bool := match K.lookup C with
  | some ⟨.type "type", _, .cls cd, sl⟩ => (match cd.mro, sl.toList with
    | .ref C' :: bm, [_, _, _, _, some (.builtin n), _] => C' == C && (n == "ValueError.__new__" && (!cd.hasDel && (cd.hasDict && PySem.HandSPX.refsVE bm)))
    | _, _ => false)
  | _ => false
theorem oexB_ok {K : PySem.W.Frag} {C : Addr} (q : oexB K C = true) : ∃ nm q N bs bm sn sub ab col dd k0 k1 k2 k3 k5, K.lookup C = some (excClassObj nm q C N bs bm true sn sub ab col dd k0 k1 k2 k3 k5 "ValueError.__new__") ∧ PySem.HandSPX.refsVE bm = true := by
  unfold oexB at q
  split at q
  · rename_i dd cd sl ho
    split at q
    · rename_i C' bm k0 k1 k2 k3 n k5 hm hs
      simp only [Bool.and_eq_true, beq_iff_eq, Bool.not_eq_true'] at q
      obtain ⟨rfl, rfl, hdel, hdc, ht⟩ := q
      obtain ⟨nm, bs, mro, ns, qn, hd, sn, sub, ab, col, del⟩ := cd
      dsimp only at hm hdel hdc
      subst hm hdel hdc
      have hsl : sl = #[k0, k1, k2, k3, some (.builtin "ValueError.__new__"), k5] := by
        obtain ⟨l⟩ := sl
        simp only at hs
        rw [hs]
      subst hsl
      exact ⟨nm, qn, ns, bs, bm, sn, sub, ab, col, dd, k0, k1, k2, k3, k5, ho, ht⟩
    · cases q
  · cases q
def veInitB (K : PySem.W.Frag) (C0 : Addr) : Bool := match PySem.W.findCls K (.ref C0) (.type "type") "__init__" with
  | some (.val (.builtin n)) => n == "ValueError.__init__"
  | _ => false
theorem veInitB_ok {K : PySem.W.Frag} {C0 : Addr} (h : veInitB K C0 = true) : PySem.W.findCls K (.ref C0) (.type "type") "__init__" = some (.val (.builtin "ValueError.__init__")) := by
  unfold veInitB at h
  split at h
  · next n e =>
    rw [e, eq_of_beq h]
  · cases h
def numB (x P f : Str) (K : PySem.W.Frag) : Bool :=
  oexB K (He.ga K x) && (PySem.W.readsIn K (He.ga K P) (.type "type") && (He.eqO (PySem.W.specialIn K (.ref (He.ga K P)) "__getattribute__") (some (some (.builtin "type.__getattribute__"))) && (veInitB K (He.ga K P) &&
  (He.eqO (PySem.W.findIn K (.ref (He.ga K x)) "__setattr__") (some (some (.builtin "object.__setattr__"))) && (He.eqO (PySem.W.findIn K (.ref (He.ga K x)) "__getattribute__") (some (some (.builtin "BaseException.__getattribute__"))) &&
  (He.eqO (PySem.W.findIn K (.ref (He.ga K x)) "__getattr__") (some none) && (He.eqO (PySem.W.findIn K (.ref (He.ga K x)) f) (some none) && (He.eqO (PySem.W.findIn K (.ref (He.ga K x)) "__init__") (some (some (.ref (He.ma K (He.ga K x) "__init__")))) &&
  (decide (PySem.W.typeIn K (.ref (He.ma K (He.ga K x) "__init__")) = some (.type "function")) && (PySem.W.keepIn K (.ref (He.ga K x)) && (decide (PySem.W.subIn K (.ref (He.ga K x)) (.type "BaseException") = some true) && (decide (PySem.W.typeIn K (.ref (He.ga K x)) = some (.type "type")) && PySem.W.hasDictIn K (He.ga K x)))))))))))))
theorem num_of {K : PySem.W.Frag} {mg : Str → Option Value} {x P f par m qn : Str} {fd : FuncData} {j : Nat} {p1 p2 q1 q2 q3 q4 q5 q6 q7 q8 q9 q10 : Pos} (h : numB x P f K = true) (gC : mg x = some (.ref (He.ga K x))) (gP : mg P = some (.ref (He.ga K P))) (tx : NumX.NumP P f par m) (hev : NumX.EvI P par m qn j q1 q2 q3 q4 q5)
    (F : FunD K "__init__" qn (NumX.iA par p1 p2) (NumX.iB P f par m j q1 q2 q3 q4 q5 q6 q7 q8 q9 q10) (NumX.iS P par) [] [] (He.fAd K (x, some "__init__")) fd) : NumX.NumTxt K mg x P f par m (He.ga K x) (He.ga K P) (He.ma K (He.ga K x) "__init__") := by
  unfold numB at h
  simp only [Bool.and_eq_true] at h
  obtain ⟨h1, h2, h3, h4, h5, h6, h7, h8, h9, h10, h11, h12, h13, h14⟩ := h
  obtain ⟨oc, od, dV, kV, doc, pm, an, cdv, ct, osl, rfl, lk, hcd, hD, _⟩ := F.ex
  obtain rfl : dV = .none := by
    rcases hD with ⟨_, e⟩ | ⟨e, _⟩
    · exact e
    · exact absurd rfl e
  exact ⟨gC, gP, oexB_ok h1, h2, He.eqO_ok h3, veInitB_ok h4, He.eqO_ok h5, He.eqO_ok h6, He.eqO_ok h7, He.eqO_ok h8, He.eqO_ok h9, of_decide_eq_true h10, h11, of_decide_eq_true h12, of_decide_eq_true h13, h14, tx,
    ⟨oc, od, qn, kV, doc, pm, an, cdv, ct, osl, j, p1, p2, q1, q2, q3, q4, q5, q6, q7, q8, q9, q10, lk, hcd, hev⟩⟩
/-- the j-th statement of a class's suite -/
def memOf (c : Stmt) (j : Nat) : Stmt := match c with
  | .ClassDef _ _ _ body .. => body.getD j (.Pass ⟨0, 0, 0, 0⟩)
  | _ => .Pass ⟨0, 0, 0, 0⟩
theorem np_text : NumX.NumP "StampError" "line" "line" "not such a text" := ⟨by intros; kernel_rfl, by decide +kernel, by decide +kernel⟩
theorem np_many : NumX.NumP "StampError" "limit" "limit" "more than the limit" := ⟨by intros; kernel_rfl, by decide +kernel, by decide +kernel⟩
theorem bb_dict : bootBuiltins "dict" = some (.type "dict") := by decide +kernel
end DL

set_option linter.all false
set_option maxRecDepth 100000
set_option maxHeartbeats 4000000
namespace DL.SH
open PySem PySem.Spec PyProof.Rows L2 DL
def st0 : Store := []
def m_is_from : SM := (sSeq (sRet (eAnd (eIsI "int" (eVar 0)) (eAnd (eNot (eIsI "bool" (eVar 0))) (eChain (pCmp fun i j => decide (i ≤ j)) (pCmp fun i j => decide (i ≤ j)) (eVar 1) (eVar 0) (eVar 2))))) sNext)
def F_is_from : FM := fm 3 3 m_is_from
def m_is_string : SM := (sSeq (sRet (eAnd (eIsI "str" (eVar 0)) (eAnd (eChain (pCmp fun i j => decide (i ≤ j)) (pCmp fun i j => decide (i ≤ j)) (eVar 2) (eCallP pLen (eCons (eVar 0) eNil)) (eVar 3)) (eCallP (p1 fAll) (eCons (eComp [4] (iVal (eVar 0)) (gName 4) tYes (eBin pIn (eVar 4) (eVar 1))) eNil))))) sNext)
def F_is_string : FM := fm 4 5 m_is_string
def m_is_template : SM := (sSeq (sRet (eFn F_is_string (eCons (eVar 0) (eCons (eBin pAdd (eC (.cst [97, 98, 99])) (eC (.cst [88]))) (eCons (eC (.int 0)) (eCons (eC (.int 16)) eNil)))))) sNext)
def F_is_template : FM := fm 1 1 m_is_template
def m_is_stamp : SM := (sSeq (sRet (eFn F_is_string (eCons (eVar 0) (eCons (eC (.cst [97, 98, 99])) (eCons (eC (.int 0)) (eCons (eC (.int 200)) eNil)))))) sNext)
def F_is_stamp : FM := fm 1 1 m_is_stamp
def m_is_fact : SM := (sSeq (sIf (tOr (tNot (tV (eIsI "tuple" (eVar 0)))) (tOr (tV (eBin (pCmp fun i j => decide (i < j)) (eCallP pLen (eCons (eVar 0) eNil)) (eC (.int 2)))) (tNot (tV (eIsI "str" (eIdx (eVar 0) (eC (.int 0)))))))) (sSeq (sRet (eC (.bl false))) sNext) sNext) (sSeq (sIf (tV (eBin pEq (eIdx (eVar 0) (eC (.int 0))) (eC (.str [115, 97, 109, 101])))) (sSeq (sRet (eAnd (eBin pEq (eCallP pLen (eCons (eVar 0) eNil)) (eC (.int 3))) (eAnd (eFn F_is_template (eCons (eIdx (eVar 0) (eC (.int 1))) eNil)) (eFn F_is_template (eCons (eIdx (eVar 0) (eC (.int 2))) eNil))))) sNext) sNext) (sSeq (sIf (tV (eBin pNe (eCallP pLen (eCons (eVar 0) eNil)) (eC (.int 2)))) (sSeq (sRet (eC (.bl false))) sNext) sNext) (sSeq (sIf (tV (eBin pIn (eIdx (eVar 0) (eC (.int 0))) (eTup (eCons (eC (.str [98, 101, 103, 105, 110, 115])) (eCons (eC (.str [101, 110, 100, 115])) eNil))))) (sSeq (sRet (eFn F_is_string (eCons (eIdx (eVar 0) (eC (.int 1))) (eCons (eC (.cst [97, 98, 99])) (eCons (eC (.int 1)) (eCons (eC (.int 8)) eNil)))))) sNext) sNext) (sSeq (sRet (eAnd (eBin pIn (eIdx (eVar 0) (eC (.int 0))) (eTup (eCons (eC (.str [108, 101, 97, 115, 116])) (eCons (eC (.str [109, 111, 115, 116])) eNil)))) (eFn F_is_from (eCons (eIdx (eVar 0) (eC (.int 1))) (eCons (eC (.int 0)) (eCons (eC (.int 60)) eNil)))))) sNext)))))
def F_is_fact : FM := fm 1 1 m_is_fact
def m_has_facts : SM := (sSeq (sRet (eAnd (eIsI "tuple" (eVar 0)) (eAnd (eChain (pCmp fun i j => decide (i ≤ j)) (pCmp fun i j => decide (i ≤ j)) (eC (.int 1)) (eCallP pLen (eCons (eVar 0) eNil)) (eC (.int 6))) (eCallP (p1 fAll) (eCons (eComp [1] (iVal (eVar 0)) (gName 1) tYes (eFn F_is_fact (eCons (eVar 1) eNil))) eNil))))) sNext)
def F_has_facts : FM := fm 1 2 m_has_facts
def m_is_facts : SM := (sSeq (sRet (eFn F_has_facts (eCons (eVar 0) eNil))) sNext)
def F_is_facts : FM := fm 1 1 m_is_facts
def m__law_source : SM := (sSeq (sAsg 2 (eIf (tV (eBin (pCmp fun i j => decide (i < j)) (eVar 1) (eCallP pLen (eCons (eVar 0) eNil)))) (eCallP (p1 fAbs) (eCons (eCallP (p1 fInt) (eCons (eIdx (eVar 0) (eVar 1)) eNil)) eNil)) (eBin pAdd (eBin pMul (eC (.int 103)) (eVar 1)) (eC (.int 53))))) (sSeq (sRet (eLst (eCons (eIf (tV (eBin (pCmp fun i j => decide (j < i)) (eVar 2) (eBin pPow (eC (.int 10)) (eC (.int 17))))) (eVar 2) (eC (.int 0))) (eCons (eBin pMod (eCallP (p1 fInt) (eCons (eBin pAdd (eBin pAdd (eBin pMul (eVar 2) (eC (.int 16807))) (eBin pMul (eC (.int 10037)) (eVar 1))) (eC (.int 73))) eNil)) (eC (.int 2147483237))) eNil)))) sNext))
def F__law_source : FM := fm 2 3 m__law_source
def m__law_draw : SM := (sSeq (sIf (tV (eBin (pCmp fun i j => decide (j < i)) (eIdx (eVar 0) (eC (.int 0))) (eC (.int 0)))) (sSeq (sAsg 2 (eBin pMod (eCallP (p1 fInt) (eCons (eIdx (eVar 0) (eC (.int 0))) eNil)) (eVar 1))) (sSeq (sSetC 0 0 (eBin pFdiv (eIdx (eVar 0) (eC (.int 0))) (eVar 1))) (sSeq (sRet (eVar 2)) sNext))) sNext) (sSeq (sSetC 0 1 (eBin pMod (eCallP (p1 fInt) (eCons (eBin pAdd (eBin pMul (eIdx (eVar 0) (eC (.int 1))) (eC (.int 48271))) (eC (.int 83))) eNil)) (eC (.int 2147483237)))) (sSeq (sAsg 3 (eBin pMod (eCallP (p1 fInt) (eCons (eBin pMul (eIdx (eVar 0) (eC (.int 1))) (eBin pAdd (eBin pFdiv (eIdx (eVar 0) (eC (.int 1))) (eC (.int 41))) (eC (.int 26)))) eNil)) (eC (.int 2147483179)))) (sSeq (sRet (eBin pMod (eCallP (p1 fInt) (eCons (eBin pFdiv (eVar 3) (eC (.int 32))) eNil)) (eVar 1))) sNext))))
def F__law_draw : FM := fm 2 4 m__law_draw
def m__law_choice : SM := (sSeq (sRet (eIdx (eVar 1) (eFn F__law_draw (eCons (eVar 0) (eCons (eCallP pLen (eCons (eVar 1) eNil)) eNil))))) sNext)
def F__law_choice : FM := fm 2 2 m__law_choice
def m__law_from : SM := (sSeq (sRet (eAnd (eIsI "int" (eVar 0)) (eAnd (eNot (eIsI "bool" (eVar 0))) (eChain (pCmp fun i j => decide (i ≤ j)) (pCmp fun i j => decide (i ≤ j)) (eVar 1) (eVar 0) (eVar 2))))) sNext)
def F__law_from : FM := fm 3 3 m__law_from
def m__law_word : SM := (sSeq (sAsg 3 (eBin pAdd (eVar 1) (eFn F__law_draw (eCons (eVar 0) (eCons (eBin pAdd (eBin pSub (eVar 2) (eVar 1)) (eC (.int 1))) eNil))))) (sSeq (sAsg 4 (eFn F__law_choice (eCons (eVar 0) (eCons (eLst (eCons (eC (.str [97])) (eCons (eC (.str [97, 98])) (eCons (eC (.str [97, 97, 98])) (eCons (eC (.str [98, 97])) (eCons (eC (.str [97, 98, 99])) (eCons (eC (.str [98])) (eCons (eC (.str [97, 98, 97])) eNil)))))))) eNil)))) (sSeq (sIf (tV (eBin (pCmp fun i j => decide (j < i)) (eFn F__law_draw (eCons (eVar 0) (eCons (eC (.int 3)) eNil))) (eC (.int 0)))) (sSeq (sRet (eSl (eBin pMul (eVar 4) (eBin pAdd (eBin pFdiv (eVar 3) (eCallP pLen (eCons (eVar 4) eNil))) (eC (.int 1)))) oNone (oSome (eVar 3)))) sNext) sNext) (sSeq (sRet (eMet pJoin (eC (.str [])) (eCons (eComp [5] (iRng1D (eCons (eVar 3) eNil)) (gName 5) tYes (eFn F__law_choice (eCons (eVar 0) (eCons (eLst (eCons (eC (.str [97])) (eCons (eC (.str [97])) (eCons (eC (.str [98])) (eCons (eC (.str [99])) eNil))))) eNil)))) eNil))) sNext))))
def F__law_word : FM := fm 3 6 m__law_word
def m__law_template : SM := (sSeq (sRet (eMet pJoin (eC (.str [])) (eCons (eComp [2] (iRng1D (eCons (eFn F__law_draw (eCons (eVar 0) (eCons (eBin pAdd (eVar 1) (eC (.int 1))) eNil))) eNil)) (gName 2) tYes (eFn F__law_choice (eCons (eVar 0) (eCons (eLst (eCons (eC (.str [97])) (eCons (eC (.str [97])) (eCons (eC (.str [98])) (eCons (eC (.str [99])) (eCons (eC (.str [88])) (eCons (eC (.str [88])) eNil))))))) eNil)))) eNil))) sNext)
def F__law_template : FM := fm 2 3 m__law_template
def m__law_same : SM := (sSeq (sAsg 1 (eFn F__law_draw (eCons (eVar 0) (eCons (eC (.int 5)) eNil)))) (sSeq (sIf (tV (eBin pEq (eVar 1) (eC (.int 0)))) (sSeq (sRet (eTup (eCons (eC (.str [115, 97, 109, 101])) (eCons (eFn F__law_template (eCons (eVar 0) (eCons (eC (.int 5)) eNil))) (eCons (eFn F__law_template (eCons (eVar 0) (eCons (eC (.int 5)) eNil))) eNil))))) sNext) sNext) (sSeq (sAsg 2 (eFn F__law_word (eCons (eVar 0) (eCons (eC (.int 0)) (eCons (eC (.int 5)) eNil))))) (sSeq (sAsg 3 (eFn F__law_choice (eCons (eVar 0) (eCons (eLst (eCons (eC (.str [97, 88])) (eCons (eC (.str [88])) (eCons (eC (.str [97, 98, 88])) (eCons (eC (.str [88, 88])) (eCons (eC (.str [88, 97, 88])) (eCons (eC (.str [98, 97, 88, 98])) (eCons (eC (.str [88, 97, 98, 88])) eNil)))))))) eNil)))) (sSeq (sIf (tV (eBin (pCmp fun i j => decide (i < j)) (eVar 1) (eC (.int 3)))) (sSeq (sAsg 4 (eFn F__law_choice (eCons (eVar 0) (eCons (eLst (eCons (eC (.str [97])) (eCons (eC (.str [97, 98])) (eCons (eC (.str [97, 97, 98])) (eCons (eC (.str [97, 98, 99])) eNil))))) eNil)))) (sSeq (sAsg 5 (eFn F__law_draw (eCons (eVar 0) (eCons (eCallP pLen (eCons (eVar 4) eNil)) eNil)))) (sSeq (sAsg 6 (eBin pAdd (eSl (eVar 4) (oSome (eVar 5)) oNone) (eSl (eVar 4) oNone (oSome (eVar 5))))) (sSeq (sAsg 7 (eLst (eCons (eTup (eCons (eC (.str [115, 97, 109, 101])) (eCons (eBin pAdd (eVar 4) (eC (.str [88]))) (eCons (eBin pAdd (eC (.str [88])) (eVar 6)) eNil)))) (eCons (eTup (eCons (eC (.str [115, 97, 109, 101])) (eCons (eBin pAdd (eVar 4) (eC (.str [88, 88]))) (eCons (eBin pAdd (eC (.str [88, 88])) (eVar 6)) eNil)))) eNil)))) (sSeq (sRet (eFn F__law_choice (eCons (eVar 0) (eCons (eBin pAdd (eVar 7) (eLst (eCons (eTup (eCons (eC (.str [115, 97, 109, 101])) (eCons (eBin pAdd (eBin pAdd (eC (.str [88])) (eVar 6)) (eC (.str [88]))) (eCons (eBin pAdd (eVar 4) (eC (.str [88, 88]))) eNil)))) eNil))) eNil)))) sNext))))) sNext) (sSeq (sRet (eTup (eCons (eC (.str [115, 97, 109, 101])) (eCons (eVar 3) (eCons (eIf (tV (eBin pEq (eVar 1) (eC (.int 3)))) (eRepl (eVar 3) [88] 2) (eRev (eVar 3))) eNil))))) sNext))))))
def F__law_same : FM := fm 1 8 m__law_same
def b1__law_facts : SM := (sSeq (sAsg 4 (eFn F__law_word (eCons (eVar 0) (eCons (eC (.int 1)) (eCons (eC (.int 3)) eNil))))) (sSeq (sAsg 5 (eFn F__law_choice (eCons (eVar 0) (eCons (eLst (eCons (eC (.int 0)) (eCons (eC (.int 1)) (eCons (eC (.int 2)) (eCons (eC (.int 3)) (eCons (eC (.int 5)) (eCons (eC (.int 8)) (eCons (eC (.int 60)) eNil)))))))) eNil)))) (sSeq (sAsg 6 (eLst (eCons (eTup (eCons (eC (.str [98, 101, 103, 105, 110, 115])) (eCons (eVar 4) eNil))) (eCons (eTup (eCons (eC (.str [101, 110, 100, 115])) (eCons (eVar 4) eNil))) (eCons (eTup (eCons (eC (.str [108, 101, 97, 115, 116])) (eCons (eVar 5) eNil))) (eCons (eTup (eCons (eC (.str [109, 111, 115, 116])) (eCons (eCallP pMin2 (eCons (eC (.int 60)) (eCons (eBin pAdd (eVar 5) (eC (.int 4))) eNil))) eNil))) (eCons (eFn F__law_same (eCons (eVar 0) eNil)) eNil))))))) (sSeq (sAsg 2 (eBin pAdd (eVar 2) (eTup (eCons (eFn F__law_choice (eCons (eVar 0) (eCons (eVar 6) eNil))) eNil)))) sNext))))
def m__law_facts : SM := (sSeq (sAsg 2 (eTup (eCons (eFn F__law_same (eCons (eVar 0) eNil)) eNil))) (sSeq (sIf (tV (eBin pEq (eIdx (eIdx (eVar 2) (eC (.int 0))) (eC (.int 1))) (eIdx (eIdx (eVar 2) (eC (.int 0))) (eC (.int 2))))) (sSeq (sAsg 2 (eTup (eCons (eTup (eCons (eC (.str [115, 97, 109, 101])) (eCons (eC (.str [97, 98, 88])) (eCons (eC (.str [88, 98, 97])) eNil)))) eNil))) sNext) sNext) (sSeq (sFor (iRng1D (eCons (eFn F__law_draw (eCons (eVar 0) (eCons (eVar 1) eNil))) eNil)) (gName 3) b1__law_facts) (sSeq (sRet (eVar 2)) sNext))))
def F__law_facts : FM := fm 2 7 m__law_facts
def m__law_told : SM := (sSeq (sUnp [2, 3] (eVar 0)) (sSeq (sRet (eIf (tV (eBin (pCmp fun i j => decide (i < j)) (eVar 1) (eCallP pLen (eCons (eVar 2) eNil)))) (eIdx (eVar 2) (eVar 1)) (eIdx (eVar 3) (eBin pMod (eBin pSub (eVar 1) (eCallP pLen (eCons (eVar 2) eNil))) (eCallP pLen (eCons (eVar 3) eNil)))))) sNext))
def F__law_told : FM := fm 2 4 m__law_told
def m_need_template : SM := (sSeq (sIf (tNot (tV (eFn F_is_template (eCons (eVar 0) eNil)))) (sSeq (sRaise "InvalidTemplate") sNext) sNext) sNext)
def F_need_template : FM := fm 1 1 m_need_template
def m_need_stamp : SM := (sSeq (sIf (tNot (tV (eFn F_is_stamp (eCons (eVar 0) eNil)))) (sSeq (sRaise "InvalidStamp") sNext) sNext) sNext)
def F_need_stamp : FM := fm 1 1 m_need_stamp
def m_need_facts : SM := (sSeq (sIf (tNot (tV (eFn F_has_facts (eCons (eVar 0) eNil)))) (sSeq (sRaise "InvalidFacts") sNext) sNext) sNext)
def F_need_facts : FM := fm 1 1 m_need_facts
def m_pressed : SM := (sSeq (sRet (eRepl (eVar 0) [88] 1)) sNext)
def F_pressed : FM := fm 2 2 m_pressed
def m_holds : SM := (sSeq (sAsg 2 (eIdx (eVar 0) (eC (.int 0)))) (sSeq (sIf (tV (eBin pEq (eVar 2) (eC (.str [115, 97, 109, 101])))) (sSeq (sRet (eBin pEq (eFn F_pressed (eCons (eIdx (eVar 0) (eC (.int 1))) (eCons (eVar 1) eNil))) (eFn F_pressed (eCons (eIdx (eVar 0) (eC (.int 2))) (eCons (eVar 1) eNil))))) sNext) sNext) (sSeq (sIf (tV (eBin pEq (eVar 2) (eC (.str [98, 101, 103, 105, 110, 115])))) (sSeq (sRet (eBin pEq (eSl (eVar 1) oNone (oSome (eCallP pLen (eCons (eIdx (eVar 0) (eC (.int 1))) eNil)))) (eIdx (eVar 0) (eC (.int 1))))) sNext) sNext) (sSeq (sIf (tV (eBin pEq (eVar 2) (eC (.str [101, 110, 100, 115])))) (sSeq (sRet (eAnd (eBin (pCmp fun i j => decide (j ≤ i)) (eCallP pLen (eCons (eVar 1) eNil)) (eCallP pLen (eCons (eIdx (eVar 0) (eC (.int 1))) eNil))) (eBin pEq (eSl (eVar 1) (oSome (eBin pSub (eCallP pLen (eCons (eVar 1) eNil)) (eCallP pLen (eCons (eIdx (eVar 0) (eC (.int 1))) eNil)))) oNone) (eIdx (eVar 0) (eC (.int 1)))))) sNext) sNext) (sSeq (sRet (eIf (tV (eBin pEq (eVar 2) (eC (.str [108, 101, 97, 115, 116])))) (eBin (pCmp fun i j => decide (j ≤ i)) (eCallP pLen (eCons (eVar 1) eNil)) (eIdx (eVar 0) (eC (.int 1)))) (eBin (pCmp fun i j => decide (i ≤ j)) (eCallP pLen (eCons (eVar 1) eNil)) (eIdx (eVar 0) (eC (.int 1)))))) sNext)))))
def F_holds : FM := fm 2 3 m_holds
def m_filled : SM := (sSeq (sDrop (eFn F_need_template (eCons (eVar 0) eNil))) (sSeq (sDrop (eFn F_need_stamp (eCons (eVar 1) eNil))) (sSeq (sRet (eFn F_pressed (eCons (eVar 0) (eCons (eVar 1) eNil)))) sNext)))
def F_filled : FM := fm 2 2 m_filled
def m_keeps : SM := (sSeq (sDrop (eFn F_need_facts (eCons (eVar 0) eNil))) (sSeq (sDrop (eFn F_need_stamp (eCons (eVar 1) eNil))) (sSeq (sRet (eCallP (p1 fAll) (eCons (eComp [2] (iVal (eVar 0)) (gName 2) tYes (eFn F_holds (eCons (eVar 2) (eCons (eVar 1) eNil)))) eNil))) sNext)))
def F_keeps : FM := fm 2 3 m_keeps
def m_need_number : SM := (sSeq (sIf (tNot (tV (eFn F_is_from (eCons (eVar 0) (eCons (eC (.int 0)) (eCons (eVar 1) eNil)))))) (sSeq (sRaise "InvalidNumber") sNext) sNext) sNext)
def F_need_number : FM := fm 2 2 m_need_number
def m_is_tying : SM := (sSeq (sRet (eAnd (eBin pEq (eIdx (eVar 0) (eC (.int 0))) (eC (.str [115, 97, 109, 101]))) (eBin pNe (eIdx (eVar 0) (eC (.int 1))) (eIdx (eVar 0) (eC (.int 2)))))) sNext)
def F_is_tying : FM := fm 1 1 m_is_tying
def m_tie_of : SM := (sSeq (sAsg 1 (eComp [2] (iVal (eVar 0)) (gName 2) (tV (eFn F_is_tying (eCons (eVar 2) eNil))) (eVar 2))) (sSeq (sRet (eIf (tV (eBin pNe (eVar 1) (eLst eNil))) (eIdx (eVar 1) (eC (.int 0))) (eC .non))) sNext))
def F_tie_of : FM := fm 1 3 m_tie_of
def fuel_letters_at_1 : Env_ → Store → Nat := fun _ _ => 400
def b1_letters_at : SM := (sSeq (sAsg 1 (eBin pAdd (eVar 1) (eC (.int 1)))) sNext)
def m_letters_at : SM := (sSeq (sAsg 1 (eC (.int 0))) (sSeq (sWhile fuel_letters_at_1 (tAnd (tV (eBin (pCmp fun i j => decide (i < j)) (eVar 1) (eCallP pLen (eCons (eVar 0) eNil)))) (tV (eBin pIn (eIdx (eVar 0) (eVar 1)) (eC (.cst [97, 98, 99]))))) b1_letters_at) (sSeq (sRet (eSl (eVar 0) oNone (oSome (eVar 1)))) sNext)))
def F_letters_at : FM := fm 1 2 m_letters_at
def b1_least_root : SM := (sSeq (sIf (tAnd (tV (eBin pEq (eBin pMod (eCallP pLen (eCons (eVar 0) eNil)) (eVar 1)) (eC (.int 0)))) (tV (eBin pEq (eBin pMul (eSl (eVar 0) oNone (oSome (eVar 1))) (eBin pFdiv (eCallP pLen (eCons (eVar 0) eNil)) (eVar 1))) (eVar 0)))) (sSeq (sRet (eSl (eVar 0) oNone (oSome (eVar 1)))) sNext) sNext) sNext)
def m_least_root : SM := (sSeq (sFor (iRng2D (eCons (eC (.int 1)) (eCons (eCallP pLen (eCons (eVar 0) eNil)) eNil))) (gName 1) b1_least_root) (sSeq (sRet (eVar 0)) sNext))
def F_least_root : FM := fm 1 2 m_least_root
def fuel_chain_of_1 : Env_ → Store → Nat := fun _ _ => 400
def b1_chain_of : SM := (sSeq (sAsg 4 (eBin pAdd (eVar 4) (eC (.int 1)))) sNext)
def m_chain_of : SM := (sSeq (sUnp [1, 2, 3] (eFn F_tie_of (eCons (eVar 0) eNil))) (sSeq (sAsg 4 (eC (.int 0))) (sSeq (sWhile fuel_chain_of_1 (tAnd (tV (eBin (pCmp fun i j => decide (i < j)) (eVar 4) (eCallP pMin2 (eCons (eCallP pLen (eCons (eVar 2) eNil)) (eCons (eCallP pLen (eCons (eVar 3) eNil)) eNil))))) (tV (eBin pEq (eIdx (eVar 2) (eVar 4)) (eIdx (eVar 3) (eVar 4))))) b1_chain_of) (sSeq (sPar [5, 6] (eCons (eSl (eVar 2) (oSome (eVar 4)) oNone) (eCons (eSl (eVar 3) (oSome (eVar 4)) oNone) eNil))) (sSeq (sIf (tV (eBin pEq (eSl (eVar 5) oNone (oSome (eC (.int 1)))) (eC (.cst [88])))) (sSeq (sRet (eFn F_least_root (eCons (eOr (eFn F_letters_at (eCons (eVar 6) eNil)) (eC (.str [97]))) eNil))) sNext) sNext) (sSeq (sIf (tV (eBin pEq (eSl (eVar 6) oNone (oSome (eC (.int 1)))) (eC (.cst [88])))) (sSeq (sRet (eFn F_least_root (eCons (eOr (eFn F_letters_at (eCons (eVar 5) eNil)) (eC (.str [97]))) eNil))) sNext) sNext) (sSeq (sRet (eC (.str [97]))) sNext)))))))
def F_chain_of : FM := fm 1 7 m_chain_of
def m_beginning : SM := (sSeq (sRet (eSl (eBin pMul (eVar 0) (eBin pAdd (eBin pFdiv (eVar 1) (eCallP pLen (eCons (eVar 0) eNil))) (eC (.int 1)))) oNone (oSome (eVar 1)))) sNext)
def F_beginning : FM := fm 2 2 m_beginning
def b1_truths_of : SM := (sSeq (sAsg 4 (eFn F_beginning (eCons (eVar 1) (eCons (eVar 3) eNil)))) (sSeq (sApp 2 (eCallP (p1 fAll) (eCons (eComp [5] (iVal (eVar 0)) (gName 5) tYes (eFn F_holds (eCons (eVar 5) (eCons (eVar 4) eNil)))) eNil))) sNext))
def m_truths_of : SM := (sSeq (sAsgO 2 (eLst eNil)) (sSeq (sFor (iRng1D (eCons (eBin pAdd (eC (.int 96)) (eCallP pLen (eCons (eVar 1) eNil))) eNil)) (gName 3) b1_truths_of) (sSeq (sRet (eVar 2)) sNext)))
def F_truths_of : FM := fm 2 6 m_truths_of
def m_need_tied : SM := (sSeq (sDrop (eFn F_need_facts (eCons (eVar 0) eNil))) (sSeq (sIf (tV (eBin pIs (eFn F_tie_of (eCons (eVar 0) eNil)) (eC .non))) (sSeq (sRaise "Free") sNext) sNext) sNext))
def F_need_tied : FM := fm 1 1 m_need_tied
def m_parts_of : SM := (sSeq (sAsg 1 (eFn F_chain_of (eCons (eVar 0) eNil))) (sSeq (sAsg 2 (eFn F_truths_of (eCons (eVar 0) (eCons (eVar 1) eNil)))) (sSeq (sRet (eTup (eCons (eVar 1) (eCons (eSl (eVar 2) oNone (oSome (eC (.int 96)))) (eCons (eSl (eVar 2) (oSome (eC (.int 96))) oNone) eNil))))) sNext)))
def F_parts_of : FM := fm 1 3 m_parts_of
def m_is_there : SM := (sSeq (sUnp [2, 3, 4] (eVar 0)) (sSeq (sRet (eIf (tV (eBin (pCmp fun i j => decide (i < j)) (eVar 1) (eC (.int 96)))) (eIdx (eVar 3) (eVar 1)) (eIdx (eVar 4) (eBin pMod (eBin pSub (eVar 1) (eC (.int 96))) (eCallP pLen (eCons (eVar 4) eNil)))))) sNext))
def F_is_there : FM := fm 2 5 m_is_there
def b1_least_again : SM := (sSeq (sIf (tAnd (tV (eBin pEq (eBin pMod (eCallP pLen (eCons (eVar 0) eNil)) (eVar 1)) (eC (.int 0)))) (tV (eBin pEq (eBin pMul (eSl (eVar 0) oNone (oSome (eVar 1))) (eBin pFdiv (eCallP pLen (eCons (eVar 0) eNil)) (eVar 1))) (eVar 0)))) (sSeq (sRet (eSl (eVar 0) oNone (oSome (eVar 1)))) sNext) sNext) sNext)
def m_least_again : SM := (sSeq (sFor (iRng2D (eCons (eC (.int 1)) (eCons (eCallP pLen (eCons (eVar 0) eNil)) eNil))) (gName 1) b1_least_again) (sSeq (sRet (eVar 0)) sNext))
def F_least_again : FM := fm 1 2 m_least_again
def fuel_lengths_1 : Env_ → Store → Nat := fun _ _ => 400
def b1_lengths : SM := (sSeq (sPar [4, 5] (eCons (eSl (eVar 4) oNone (oSome (eNeg (eC (.int 1))))) (eCons (eBin pAdd (eSl (eVar 5) (oSome (eNeg (eC (.int 1)))) oNone) (eSl (eVar 5) oNone (oSome (eNeg (eC (.int 1)))))) eNil))) sNext)
def m_lengths : SM := (sSeq (sDrop (eFn F_need_tied (eCons (eVar 0) eNil))) (sSeq (sUnp [1, 2, 3] (eFn F_parts_of (eCons (eVar 0) eNil))) (sSeq (sPar [4, 5] (eCons (eCallP (p1 fTup) (eCons (eVar 2) eNil)) (eCons (eFn F_least_again (eCons (eCallP (p1 fTup) (eCons (eVar 3) eNil)) eNil)) eNil))) (sSeq (sWhile fuel_lengths_1 (tAnd (tV (eBin pNe (eVar 4) (eTup eNil))) (tV (eBin pEq (eIdx (eVar 4) (eNeg (eC (.int 1)))) (eIdx (eVar 5) (eNeg (eC (.int 1))))))) b1_lengths) (sSeq (sRet (eTup (eCons (eVar 4) (eCons (eVar 5) eNil)))) sNext)))))
def F_lengths : FM := fm 1 6 m_lengths
def m_stamp_of : SM := (sSeq (sDrop (eFn F_need_tied (eCons (eVar 0) eNil))) (sSeq (sDrop (eFn F_need_number (eCons (eVar 1) (eCons (eC (.int 200)) eNil)))) (sSeq (sAsg 2 (eFn F_parts_of (eCons (eVar 0) eNil))) (sSeq (sRet (eIf (tV (eFn F_is_there (eCons (eVar 2) (eCons (eVar 1) eNil)))) (eFn F_beginning (eCons (eIdx (eVar 2) (eC (.int 0))) (eCons (eVar 1) eNil))) (eC .non))) sNext))))
def F_stamp_of : FM := fm 2 3 m_stamp_of
def m__law_holds : SM := (sSeq (sIf (tV (eBin pEq (eIdx (eVar 0) (eC (.int 0))) (eC (.str [115, 97, 109, 101])))) (sSeq (sRet (eBin pEq (eRepl (eIdx (eVar 0) (eC (.int 1))) [88] 1) (eRepl (eIdx (eVar 0) (eC (.int 2))) [88] 1))) sNext) sNext) (sSeq (sIf (tV (eBin pEq (eIdx (eVar 0) (eC (.int 0))) (eC (.str [98, 101, 103, 105, 110, 115])))) (sSeq (sRet (eBin pEq (eSl (eVar 1) oNone (oSome (eCallP pLen (eCons (eIdx (eVar 0) (eC (.int 1))) eNil)))) (eIdx (eVar 0) (eC (.int 1))))) sNext) sNext) (sSeq (sIf (tV (eBin pEq (eIdx (eVar 0) (eC (.int 0))) (eC (.str [101, 110, 100, 115])))) (sSeq (sRet (eBin pEq (eSl (eRev (eVar 1)) oNone (oSome (eCallP pLen (eCons (eIdx (eVar 0) (eC (.int 1))) eNil)))) (eRev (eIdx (eVar 0) (eC (.int 1)))))) sNext) sNext) (sSeq (sRet (eIf (tV (eBin pEq (eIdx (eVar 0) (eC (.int 0))) (eC (.str [108, 101, 97, 115, 116])))) (eBin (pCmp fun i j => decide (j ≤ i)) (eCallP pLen (eCons (eVar 1) eNil)) (eIdx (eVar 0) (eC (.int 1)))) (eBin (pCmp fun i j => decide (i ≤ j)) (eCallP pLen (eCons (eVar 1) eNil)) (eIdx (eVar 0) (eC (.int 1)))))) sNext))))
def F__law_holds : FM := fm 2 2 m__law_holds
def m__law_keeps : SM := (sSeq (sRet (eBin pEq (eComp [2] (iVal (eVar 0)) (gName 2) (tNot (tV (eFn F__law_holds (eCons (eVar 2) (eCons (eVar 1) eNil))))) (eVar 2)) (eLst eNil))) sNext)
def F__law_keeps : FM := fm 2 3 m__law_keeps
def m_need_index : SM := (sSeq (sIf (tNot (tV (eFn F_is_from (eCons (eVar 0) (eCons (eC (.int 0)) (eCons (eBin pSub (eVar 1) (eC (.int 1))) eNil)))))) (sSeq (sRaise "InvalidIndex") sNext) sNext) sNext)
def F_need_index : FM := fm 2 2 m_need_index
def m_letter : SM := (sSeq (sDrop (eFn F_need_tied (eCons (eVar 0) eNil))) (sSeq (sDrop (eFn F_need_number (eCons (eVar 1) (eCons (eC (.int 1000000000000000000000000000000)) eNil)))) (sSeq (sDrop (eFn F_need_index (eCons (eVar 2) (eCons (eVar 1) eNil)))) (sSeq (sAsg 3 (eFn F_parts_of (eCons (eVar 0) eNil))) (sSeq (sRet (eIf (tV (eFn F_is_there (eCons (eVar 3) (eCons (eVar 1) eNil)))) (eIdx (eIdx (eVar 3) (eC (.int 0))) (eBin pMod (eVar 2) (eCallP pLen (eCons (eIdx (eVar 3) (eC (.int 0))) eNil)))) (eC .non))) sNext)))))
def F_letter : FM := fm 3 4 m_letter
def m_count_below : SM := (sSeq (sUnp [2, 3, 4] (eVar 0)) (sSeq (sIf (tV (eBin (pCmp fun i j => decide (i ≤ j)) (eVar 1) (eC (.int 96)))) (sSeq (sRet (eCallP (p1 fSum) (eCons (eComp [8] (iVal (eSl (eVar 3) oNone (oSome (eVar 1)))) (gName 8) tYes (eCallP (p1 fInt) (eCons (eVar 8) eNil))) eNil))) sNext) sNext) (sSeq (sPar [5, 6] (eCons (eBin pFdiv (eBin pSub (eVar 1) (eC (.int 96))) (eCallP pLen (eCons (eVar 4) eNil))) (eCons (eBin pMod (eBin pSub (eVar 1) (eC (.int 96))) (eCallP pLen (eCons (eVar 4) eNil))) eNil))) (sSeq (sAsg 7 (eCallP (p1 fSum) (eCons (eComp [8] (iVal (eVar 4)) (gName 8) tYes (eCallP (p1 fInt) (eCons (eVar 8) eNil))) eNil))) (sSeq (sRet (eBin pAdd (eCallP (p1 fSum) (eCons (eComp [8] (iVal (eBin pAdd (eVar 3) (eSl (eVar 4) oNone (oSome (eVar 6))))) (gName 8) tYes (eCallP (p1 fInt) (eCons (eVar 8) eNil))) eNil)) (eBin pMul (eVar 5) (eVar 7)))) sNext)))))
def F_count_below : FM := fm 2 9 m_count_below
def m_count : SM := (sSeq (sDrop (eFn F_need_tied (eCons (eVar 0) eNil))) (sSeq (sDrop (eFn F_need_number (eCons (eVar 1) (eCons (eC (.int 1000000000000000000000000000000)) eNil)))) (sSeq (sRet (eFn F_count_below (eCons (eFn F_parts_of (eCons (eVar 0) eNil)) (eCons (eBin pAdd (eVar 1) (eC (.int 1))) eNil)))) sNext)))
def F_count : FM := fm 2 2 m_count
def m_is_endless : SM := (sSeq (sRet (eBin pIn (eC (.bl true)) (eIdx (eVar 0) (eC (.int 2))))) sNext)
def F_is_endless : FM := fm 1 1 m_is_endless
def fuel_family_of_1 : Env_ → Store → Nat := fun _ _ => 400
def b1_family_of : SM := (sSeq (sAsg 6 (eBin pSub (eVar 6) (eC (.int 1)))) sNext)
def m_family_of : SM := (sSeq (sUnp [1, 2, 3] (eVar 0)) (sSeq (sIf (tNot (tV (eFn F_is_endless (eCons (eVar 0) eNil)))) (sSeq (sRet (eC .non)) sNext) sNext) (sSeq (sAsg 4 (eCallP pLen (eCons (eVar 1) eNil))) (sSeq (sAsg 5 (eBin pMod (eBin pAdd (eC (.int 96)) (eMetL pIndex (eVar 3) (eCons (eC (.bl true)) eNil))) (eVar 4))) (sSeq (sAsg 6 (eBin pAdd (eBin pFdiv (eC (.int 96)) (eVar 4)) (eC (.int 1)))) (sSeq (sWhile fuel_family_of_1 (tAnd (tV (eBin (pCmp fun i j => decide (j < i)) (eVar 6) (eC (.int 0)))) (tV (eFn F_is_there (eCons (eVar 0) (eCons (eBin pAdd (eVar 5) (eBin pMul (eBin pSub (eVar 6) (eC (.int 1))) (eVar 4))) eNil))))) b1_family_of) (sSeq (sRet (eTup (eCons (eSl (eVar 1) oNone (oSome (eVar 5))) (eCons (eSl (eVar 1) (oSome (eVar 5)) oNone) (eCons (eVar 6) eNil))))) sNext)))))))
def F_family_of : FM := fm 1 7 m_family_of
def m_family : SM := (sSeq (sDrop (eFn F_need_tied (eCons (eVar 0) eNil))) (sSeq (sRet (eFn F_family_of (eCons (eFn F_parts_of (eCons (eVar 0) eNil)) eNil))) sNext))
def F_family : FM := fm 1 1 m_family
def b1_lone_of : SM := (sSeq (sAsg 7 (eOr (eBin pIs (eVar 1) (eC .non)) (eOr (eBin pNe (eBin pMod (eVar 6) (eCallP pLen (eCons (eVar 2) eNil))) (eCallP pLen (eCons (eIdx (eVar 1) (eC (.int 0))) eNil))) (eBin (pCmp fun i j => decide (i < j)) (eVar 6) (eBin pAdd (eCallP pLen (eCons (eIdx (eVar 1) (eC (.int 0))) eNil)) (eBin pMul (eIdx (eVar 1) (eC (.int 2))) (eCallP pLen (eCons (eVar 2) eNil)))))))) (sSeq (sIf (tAnd (tV (eIdx (eVar 3) (eVar 6))) (tV (eVar 7))) (sSeq (sApp 5 (eFn F_beginning (eCons (eVar 2) (eCons (eVar 6) eNil)))) sNext) sNext) sNext))
def m_lone_of : SM := (sSeq (sAsg 1 (eFn F_family_of (eCons (eVar 0) eNil))) (sSeq (sUnp [2, 3, 4] (eVar 0)) (sSeq (sAsgO 5 (eLst eNil)) (sSeq (sFor (iRng1D (eCons (eC (.int 96)) eNil)) (gName 6) b1_lone_of) (sSeq (sRet (eVar 5)) sNext)))))
def F_lone_of : FM := fm 1 8 m_lone_of
def m_lone : SM := (sSeq (sDrop (eFn F_need_tied (eCons (eVar 0) eNil))) (sSeq (sRet (eFn F_lone_of (eCons (eFn F_parts_of (eCons (eVar 0) eNil)) eNil))) sNext))
def F_lone : FM := fm 1 1 m_lone
def m_need_fact : SM := (sSeq (sIf (tNot (tV (eFn F_is_fact (eCons (eVar 0) eNil)))) (sSeq (sRaise "InvalidFacts") sNext) sNext) sNext)
def F_need_fact : FM := fm 1 1 m_need_fact
def b1_truths_told : SM := (sSeq (sIf (tV (eFn F_is_there (eCons (eVar 0) (eCons (eVar 6) eNil)))) (sSeq (sApp 5 (eFn F_holds (eCons (eVar 1) (eCons (eFn F_beginning (eCons (eVar 2) (eCons (eVar 6) eNil))) eNil)))) sNext) sNext) sNext)
def m_truths_told : SM := (sSeq (sUnp [2, 3, 4] (eVar 0)) (sSeq (sAsgO 5 (eLst eNil)) (sSeq (sFor (iRng1D (eCons (eBin pAdd (eC (.int 96)) (eCallP pLen (eCons (eVar 4) eNil))) eNil)) (gName 6) b1_truths_told) (sSeq (sRet (eVar 5)) sNext))))
def F_truths_told : FM := fm 2 7 m_truths_told
def m_follows : SM := (sSeq (sDrop (eFn F_need_tied (eCons (eVar 0) eNil))) (sSeq (sDrop (eFn F_need_fact (eCons (eVar 1) eNil))) (sSeq (sAsg 2 (eFn F_truths_told (eCons (eFn F_parts_of (eCons (eVar 0) eNil)) (eCons (eVar 1) eNil)))) (sSeq (sIf (tOr (tV (eBin pEq (eVar 2) (eLst eNil))) (tAnd (tV (eBin pIn (eC (.bl true)) (eVar 2))) (tV (eBin pIn (eC (.bl false)) (eVar 2))))) (sSeq (sRet (eC .non)) sNext) sNext) (sSeq (sRet (eIdx (eVar 2) (eC (.int 0)))) sNext)))))
def F_follows : FM := fm 2 3 m_follows
def m_has_stamp : SM := (sSeq (sDrop (eFn F_need_tied (eCons (eVar 0) eNil))) (sSeq (sUnp [1, 2, 3] (eFn F_parts_of (eCons (eVar 0) eNil))) (sSeq (sRet (eBin pIn (eC (.bl true)) (eBin pAdd (eVar 2) (eVar 3)))) sNext)))
def F_has_stamp : FM := fm 1 4 m_has_stamp
def b1_bounds_of : SM := (sSeq (sIf (tV (eBin pEq (eIdx (eVar 3) (eC (.int 0))) (eC (.str [108, 101, 97, 115, 116])))) (sSeq (sAsg 1 (eCallP pMax2 (eCons (eVar 1) (eCons (eIdx (eVar 3) (eC (.int 1))) eNil)))) sNext) sNext) (sSeq (sIf (tV (eBin pEq (eIdx (eVar 3) (eC (.int 0))) (eC (.str [109, 111, 115, 116])))) (sSeq (sAsg 2 (eCallP pMin2 (eCons (eVar 2) (eCons (eIdx (eVar 3) (eC (.int 1))) eNil)))) sNext) sNext) sNext))
def m_bounds_of : SM := (sSeq (sPar [1, 2] (eCons (eC (.int 0)) (eCons (eC (.int 80)) eNil))) (sSeq (sFor (iVal (eVar 0)) (gName 3) b1_bounds_of) (sSeq (sRet (eTup (eCons (eVar 1) (eCons (eVar 2) eNil)))) sNext)))
def F_bounds_of : FM := fm 1 4 m_bounds_of
def b1_laid : SM := (sSeq (sIf (tV (eBin pNotIn (eIdx (eVar 0) (eBin pAdd (eVar 2) (eVar 3))) (eTup (eCons (eC (.str [63])) (eCons (eVar 4) eNil))))) (sSeq (sRet (eC .non)) sNext) sNext) sNext)
def m_laid : SM := (sSeq (sIf (tOr (tV (eBin (pCmp fun i j => decide (i < j)) (eVar 2) (eC (.int 0)))) (tV (eBin (pCmp fun i j => decide (j < i)) (eBin pAdd (eVar 2) (eCallP pLen (eCons (eVar 1) eNil))) (eCallP pLen (eCons (eVar 0) eNil))))) (sSeq (sRet (eC .non)) sNext) sNext) (sSeq (sFor (iEnumD (eCons (eVar 1) eNil)) (gTup [3, 4]) b1_laid) (sSeq (sRet (eBin pAdd (eBin pAdd (eSl (eVar 0) oNone (oSome (eVar 2))) (eVar 1)) (eSl (eVar 0) (oSome (eBin pAdd (eVar 2) (eCallP pLen (eCons (eVar 1) eNil)))) oNone))) sNext)))
def F_laid : FM := fm 3 5 m_laid
def b1_row_of : SM := (sSeq (sIf (tAnd (tV (eBin pIsNot (eVar 4) (eC .non))) (tV (eBin pEq (eIdx (eVar 5) (eC (.int 0))) (eC (.str [98, 101, 103, 105, 110, 115]))))) (sSeq (sAsg 4 (eFn F_laid (eCons (eVar 4) (eCons (eIdx (eVar 5) (eC (.int 1))) (eCons (eC (.int 0)) eNil))))) sNext) sNext) (sSeq (sIf (tAnd (tV (eBin pIsNot (eVar 4) (eC .non))) (tV (eBin pEq (eIdx (eVar 5) (eC (.int 0))) (eC (.str [101, 110, 100, 115]))))) (sSeq (sAsg 4 (eFn F_laid (eCons (eVar 4) (eCons (eIdx (eVar 5) (eC (.int 1))) (eCons (eBin pSub (eVar 1) (eCallP pLen (eCons (eIdx (eVar 5) (eC (.int 1))) eNil))) eNil))))) sNext) sNext) sNext))
def m_row_of : SM := (sSeq (sUnp [2, 3] (eFn F_bounds_of (eCons (eVar 0) eNil))) (sSeq (sAsg 4 (eIf (tV (eChain (pCmp fun i j => decide (i ≤ j)) (pCmp fun i j => decide (i ≤ j)) (eVar 2) (eVar 1) (eVar 3))) (eBin pMul (eC (.str [63])) (eVar 1)) (eC .non))) (sSeq (sFor (iVal (eVar 0)) (gName 5) b1_row_of) (sSeq (sRet (eVar 4)) sNext))))
def F_row_of : FM := fm 2 6 m_row_of
def m_has_any : SM := (sSeq (sIf (tV (eBin pIsNot (eFn F_tie_of (eCons (eVar 0) eNil)) (eC .non))) (sSeq (sUnp [1, 2, 3] (eFn F_parts_of (eCons (eVar 0) eNil))) (sSeq (sRet (eBin pIn (eC (.bl true)) (eBin pAdd (eVar 2) (eVar 3)))) sNext)) sNext) (sSeq (sRet (eCallP (p1 fAny) (eCons (eComp [4] (iRng1D (eCons (eBin pAdd (eC (.int 80)) (eC (.int 1))) eNil)) (gName 4) tYes (eBin pIsNot (eFn F_row_of (eCons (eVar 0) (eCons (eVar 4) eNil))) (eC .non))) eNil))) sNext))
def F_has_any : FM := fm 1 5 m_has_any
def b1__law_words : SM := (sSeq (sAsg 4 (eBin pAdd (eVar 4) (eLst (eCons (eBin pAdd (eVar 5) (eC (.str [97]))) (eCons (eBin pAdd (eVar 5) (eC (.str [98]))) (eCons (eBin pAdd (eVar 5) (eC (.str [99]))) eNil)))))) sNext)
def b2__law_words : SM := (sSeq (sAsg 4 (eLst eNil)) (sSeq (sFor (iVal (eVar 2)) (gName 5) b1__law_words) (sSeq (sPar [1, 2] (eCons (eBin pAdd (eVar 1) (eVar 4)) (eCons (eVar 4) eNil))) sNext)))
def m__law_words : SM := (sSeq (sPar [1, 2] (eCons (eLst (eCons (eC (.str [])) eNil)) (eCons (eLst (eCons (eC (.str [])) eNil)) eNil))) (sSeq (sFor (iRng1D (eCons (eVar 0) eNil)) (gName 3) b2__law_words) (sSeq (sRet (eVar 1)) sNext)))
def F__law_words : FM := fm 1 6 m__law_words
def m_keeps_all : SM := (sSeq (sIf (tV (eBin pIn (eIdx (eVar 1) (eC (.int 0))) (eTup (eCons (eC (.str [108, 101, 97, 115, 116])) (eCons (eC (.str [109, 111, 115, 116])) eNil))))) (sSeq (sRet (eFn F_holds (eCons (eVar 1) (eCons (eVar 0) eNil)))) sNext) sNext) (sSeq (sIf (tV (eBin pEq (eIdx (eVar 1) (eC (.int 0))) (eC (.str [115, 97, 109, 101])))) (sSeq (sRet (eOr (eBin pEq (eIdx (eVar 1) (eC (.int 1))) (eIdx (eVar 1) (eC (.int 2)))) (eAnd (eBin pNotIn (eC (.str [63])) (eVar 0)) (eFn F_holds (eCons (eVar 1) (eCons (eVar 0) eNil)))))) sNext) sNext) (sSeq (sIf (tV (eBin (pCmp fun i j => decide (i < j)) (eCallP pLen (eCons (eVar 0) eNil)) (eCallP pLen (eCons (eIdx (eVar 1) (eC (.int 1))) eNil)))) (sSeq (sRet (eC (.bl false))) sNext) sNext) (sSeq (sRet (eBin pEq (eFn F_laid (eCons (eVar 0) (eCons (eIdx (eVar 1) (eC (.int 1))) (eCons (eIf (tV (eBin pEq (eIdx (eVar 1) (eC (.int 0))) (eC (.str [98, 101, 103, 105, 110, 115])))) (eC (.int 0)) (eBin pSub (eCallP pLen (eCons (eVar 0) eNil)) (eCallP pLen (eCons (eIdx (eVar 1) (eC (.int 1))) eNil)))) eNil)))) (eVar 0))) sNext))))
def F_keeps_all : FM := fm 2 2 m_keeps_all
def m_is_needless : SM := (sSeq (sUnp [2, 3] (eTup (eCons (eBin pAdd (eSl (eVar 0) oNone (oSome (eVar 1))) (eSl (eVar 0) (oSome (eBin pAdd (eVar 1) (eC (.int 1)))) oNone)) (eCons (eIdx (eVar 0) (eVar 1)) eNil)))) (sSeq (sIf (tV (eBin pIsNot (eFn F_tie_of (eCons (eVar 2) eNil)) (eC .non))) (sSeq (sRet (eBin pNotIn (eC (.bl false)) (eFn F_truths_told (eCons (eFn F_parts_of (eCons (eVar 2) eNil)) (eCons (eVar 3) eNil))))) sNext) sNext) (sSeq (sAsg 4 (eComp [5] (iRng1D (eCons (eBin pAdd (eC (.int 80)) (eC (.int 1))) eNil)) (gName 5) tYes (eFn F_row_of (eCons (eVar 2) (eCons (eVar 5) eNil))))) (sSeq (sRet (eCallP (p1 fAll) (eCons (eComp [6] (iVal (eVar 4)) (gName 6) (tV (eBin pIsNot (eVar 6) (eC .non))) (eFn F_keeps_all (eCons (eVar 6) (eCons (eVar 3) eNil)))) eNil))) sNext))))
def F_is_needless : FM := fm 2 7 m_is_needless
def m_needless : SM := (sSeq (sDrop (eFn F_need_facts (eCons (eVar 0) eNil))) (sSeq (sRet (eComp [1] (iRng1D (eCons (eCallP pLen (eCons (eVar 0) eNil)) eNil)) (gName 1) (tV (eFn F_is_needless (eCons (eVar 0) (eCons (eVar 1) eNil)))) (eVar 1))) sNext))
def F_needless : FM := fm 1 2 m_needless
def m_stamp_at : SM := (sSeq (sRet (eIf (tV (eFn F_is_there (eCons (eVar 0) (eCons (eVar 1) eNil)))) (eFn F_beginning (eCons (eIdx (eVar 0) (eC (.int 0))) (eCons (eVar 1) eNil))) (eC .non))) sNext)
def F_stamp_at : FM := fm 2 2 m_stamp_at
def b1_first_parting : SM := (sSeq (sPar [5, 6] (eCons (eFn F_stamp_at (eCons (eVar 2) (eCons (eVar 4) eNil))) (eCons (eFn F_stamp_at (eCons (eVar 3) (eCons (eVar 4) eNil))) eNil))) (sSeq (sIf (tV (eBin pNe (eVar 5) (eVar 6))) (sSeq (sRet (eCallP pMinL (eCons (eComp [7] (iVal (eTup (eCons (eVar 5) (eCons (eVar 6) eNil)))) (gName 7) (tV (eBin pIsNot (eVar 7) (eC .non))) (eVar 7)) eNil))) sNext) sNext) sNext))
def m_first_parting : SM := (sSeq (sPar [2, 3] (eCons (eFn F_parts_of (eCons (eVar 0) eNil)) (eCons (eFn F_parts_of (eCons (eVar 1) eNil)) eNil))) (sSeq (sFor (iRng1D (eCons (eBin pAdd (eBin pAdd (eC (.int 96)) (eBin pMul (eCallP pLen (eCons (eIdx (eVar 2) (eC (.int 0))) eNil)) (eCallP pLen (eCons (eIdx (eVar 3) (eC (.int 0))) eNil)))) (eC (.int 32))) eNil)) (gName 4) b1_first_parting) (sSeq (sRet (eC .non)) sNext)))
def F_first_parting : FM := fm 2 8 m_first_parting
def m_need_both : SM := (sSeq (sDrop (eFn F_need_tied (eCons (eVar 0) eNil))) (sSeq (sDrop (eFn F_need_tied (eCons (eVar 1) eNil))) sNext))
def F_need_both : FM := fm 2 2 m_need_both
def m_alike : SM := (sSeq (sDrop (eFn F_need_both (eCons (eVar 0) (eCons (eVar 1) eNil)))) (sSeq (sRet (eBin pIs (eFn F_first_parting (eCons (eVar 0) (eCons (eVar 1) eNil))) (eC .non))) sNext))
def F_alike : FM := fm 2 2 m_alike
def m_parting : SM := (sSeq (sDrop (eFn F_need_both (eCons (eVar 0) (eCons (eVar 1) eNil)))) (sSeq (sRet (eFn F_first_parting (eCons (eVar 0) (eCons (eVar 1) eNil)))) sNext))
def F_parting : FM := fm 2 2 m_parting
def m_need_menu : SM := (sSeq (sIf (tOr (tNot (tV (eIsI "tuple" (eVar 0)))) (tOr (tNot (tV (eChain (pCmp fun i j => decide (i ≤ j)) (pCmp fun i j => decide (i ≤ j)) (eC (.int 1)) (eCallP pLen (eCons (eVar 0) eNil)) (eC (.int 6))))) (tNot (tV (eCallP (p1 fAll) (eCons (eComp [1] (iVal (eVar 0)) (gName 1) tYes (eFn F_is_fact (eCons (eVar 1) eNil))) eNil)))))) (sSeq (sRaise "InvalidMenu") sNext) sNext) sNext)
def F_need_menu : FM := fm 1 2 m_need_menu
def m_left_of : SM := (sSeq (sAsg 1 (eFn F_parts_of (eCons (eVar 0) eNil))) (sSeq (sIf (tV (eFn F_is_endless (eCons (eVar 1) eNil))) (sSeq (sRaise "Endless") sNext) sNext) (sSeq (sRet (eFn F_lone_of (eCons (eVar 1) eNil))) sNext)))
def F_left_of : FM := fm 1 2 m_left_of
def m_split_by : SM := (sSeq (sAsg 2 (eComp [3] (iVal (eVar 0)) (gName 3) (tV (eFn F_holds (eCons (eVar 1) (eCons (eVar 3) eNil)))) (eVar 3))) (sSeq (sRet (eTup (eCons (eVar 2) (eCons (eComp [3] (iVal (eVar 0)) (gName 3) (tNot (tV (eFn F_holds (eCons (eVar 1) (eCons (eVar 3) eNil))))) (eVar 3)) eNil)))) sNext))
def F_split_by : FM := fm 2 4 m_split_by
def m_best_fact : SM := (sSeq (sDrop (eFn F_need_tied (eCons (eVar 0) eNil))) (sSeq (sDrop (eFn F_need_menu (eCons (eVar 1) eNil))) (sSeq (sAsg 2 (eFn F_left_of (eCons (eVar 0) eNil))) (sSeq (sAsg 3 (eComp [4] (iVal (eVar 1)) (gName 4) tYes (eCallP (p1 fMax) (eCons (eComp [5] (iVal (eFn F_split_by (eCons (eVar 2) (eCons (eVar 4) eNil)))) (gName 5) tYes (eCallP pLen (eCons (eVar 5) eNil))) eNil)))) (sSeq (sRet (eTup (eCons (eCallP pMinL (eCons (eVar 3) eNil)) (eCons (eMetL pIndexE (eVar 3) (eCons (eCallP pMinL (eCons (eVar 3) eNil)) eNil)) eNil)))) sNext)))))
def F_best_fact : FM := fm 2 6 m_best_fact
def b1_depth_of (F : FM) : SM := (sSeq (sUnp [4, 5] (eFn F_split_by (eCons (eVar 0) (eCons (eVar 3) eNil)))) (sSeq (sIf (tAnd (tV (eBin pNe (eVar 4) (eLst eNil))) (tV (eBin pNe (eVar 5) (eLst eNil)))) (sSeq (sPar [6, 7] (eCons (eFn F (eCons (eVar 4) (eCons (eVar 1) eNil))) (eCons (eFn F (eCons (eVar 5) (eCons (eVar 1) eNil))) eNil))) (sSeq (sIf (tAnd (tV (eBin pIsNot (eVar 6) (eC .non))) (tAnd (tV (eBin pIsNot (eVar 7) (eC .non))) (tOr (tV (eBin pIs (eVar 2) (eC .non))) (tV (eBin (pCmp fun i j => decide (i < j)) (eBin pAdd (eC (.int 1)) (eCallP pMax2 (eCons (eVar 6) (eCons (eVar 7) eNil)))) (eVar 2)))))) (sSeq (sAsg 2 (eBin pAdd (eC (.int 1)) (eCallP pMax2 (eCons (eVar 6) (eCons (eVar 7) eNil))))) sNext) sNext) sNext)) sNext) sNext))
def m_depth_of (F : FM) : SM := (sSeq (sIf (tV (eBin (pCmp fun i j => decide (i < j)) (eCallP pLen (eCons (eVar 0) eNil)) (eC (.int 2)))) (sSeq (sRet (eC (.int 0))) sNext) sNext) (sSeq (sAsg 2 (eC .non)) (sSeq (sFor (iVal (eVar 1)) (gName 3) (b1_depth_of F)) (sSeq (sRet (eVar 2)) sNext))))
def F_depth_of : Nat → FM
  | 0 => fun _ _ => .bad
  | n + 1 => fm 2 8 (m_depth_of (F_depth_of n))
def m_fewest_questions : SM := (sSeq (sDrop (eFn F_need_tied (eCons (eVar 0) eNil))) (sSeq (sDrop (eFn F_need_menu (eCons (eVar 1) eNil))) (sSeq (sAsg 2 (eFn F_left_of (eCons (eVar 0) eNil))) (sSeq (sIf (tV (eBin (pCmp fun i j => decide (j < i)) (eCallP pLen (eCons (eVar 2) eNil)) (eC (.int 12)))) (sSeq (sRaiseN "TooMany" "limit" (eCons (eC (.int 12)) eNil)) sNext) sNext) (sSeq (sRet (eFn (F_depth_of 12) (eCons (eVar 2) (eCons (eVar 1) eNil)))) sNext)))))
def F_fewest_questions : FM := fm 2 3 m_fewest_questions
def m_item_word : SM := (sSeq (sRet (eIf (tV (eBin pEq (eVar 0) (eC (.str [])))) (eC (.str [45])) (eCallP (p1 fStrN) (eCons (eVar 0) eNil)))) sNext)
def F_item_word : FM := fm 1 1 m_item_word
def m_facts_lines : SM := (sSeq (sRet (eComp [1] (iVal (eVar 0)) (gName 1) tYes (eMet pJoin (eC (.str [32])) (eCons (eComp [2] (iVal (eVar 1)) (gName 2) tYes (eFn F_item_word (eCons (eVar 2) eNil))) eNil)))) sNext)
def F_facts_lines : FM := fm 1 3 m_facts_lines
def m_facts_text : SM := (sSeq (sDrop (eFn F_need_facts (eCons (eVar 0) eNil))) (sSeq (sRet (eMet pJoin (eC (.str [10])) (eCons (eFn F_facts_lines (eCons (eVar 0) eNil)) eNil))) sNext))
def F_facts_text : FM := fm 1 1 m_facts_text
def m_read_line : SM := (sSeq (sAsg 1 (eMet pSplit (eVar 0) (eCons (eC (.str [32])) eNil))) (sSeq (sIf (tAnd (tV (eBin pIn (eIdx (eVar 1) (eC (.int 0))) (eTup (eCons (eC (.str [108, 101, 97, 115, 116])) (eCons (eC (.str [109, 111, 115, 116])) eNil))))) (tV (eBin pEq (eCallP pLen (eCons (eVar 1) eNil)) (eC (.int 2))))) (sSeq (sAsg 2 (eComp [4] (iRng1D (eCons (eBin pAdd (eC (.int 60)) (eC (.int 1))) eNil)) (gName 4) tYes (eCallP (p1 fStrN) (eCons (eVar 4) eNil)))) (sSeq (sRet (eIf (tV (eBin pIn (eIdx (eVar 1) (eC (.int 1))) (eVar 2))) (eTup (eCons (eIdx (eVar 1) (eC (.int 0))) (eCons (eMetL pIndexE (eVar 2) (eCons (eIdx (eVar 1) (eC (.int 1))) eNil)) eNil))) (eC .non))) sNext)) sNext) (sSeq (sIf (tV (eBin pIn (eC (.str [])) (eVar 1))) (sSeq (sRet (eC .non)) sNext) sNext) (sSeq (sAsg 3 (eBin pAdd (eTup (eCons (eIdx (eVar 1) (eC (.int 0))) eNil)) (eCallP (p1 fTup) (eCons (eComp [5] (iVal (eSl (eVar 1) (oSome (eC (.int 1))) oNone)) (gName 5) tYes (eIf (tV (eBin pEq (eVar 5) (eC (.str [45])))) (eC (.str [])) (eVar 5))) eNil)))) (sSeq (sRet (eIf (tV (eFn F_is_fact (eCons (eVar 3) eNil))) (eVar 3) (eC .non))) sNext)))))
def F_read_line : FM := fm 1 6 m_read_line
def b1_read_facts : SM := (sSeq (sAsg 4 (eFn F_read_line (eCons (eVar 3) eNil))) (sSeq (sIf (tV (eBin pIs (eVar 4) (eC .non))) (sSeq (sRaiseN "InvalidText" "line" (eCons (eBin pAdd (eVar 2) (eC (.int 1))) eNil)) sNext) sNext) (sSeq (sApp 1 (eVar 4)) sNext)))
def m_read_facts : SM := (sSeq (sIf (tNot (tV (eIsI "str" (eVar 0)))) (sSeq (sRaiseN "InvalidText" "line" (eCons (eC (.int 0)) eNil)) sNext) sNext) (sSeq (sAsgO 1 (eLst eNil)) (sSeq (sFor (iEnumD (eCons (eMet pSplit (eVar 0) (eCons (eC (.str [10])) eNil)) eNil)) (gTup [2, 3]) b1_read_facts) (sSeq (sIf (tNot (tV (eFn F_has_facts (eCons (eCallP (p1 fTup) (eCons (eVar 1) eNil)) eNil)))) (sSeq (sRaiseN "InvalidText" "line" (eCons (eBin pAdd (eCallP pLen (eCons (eVar 1) eNil)) (eC (.int 1))) eNil)) sNext) sNext) (sSeq (sRet (eCallP (p1 fTup) (eCons (eVar 1) eNil))) sNext)))))
def F_read_facts : FM := fm 1 5 m_read_facts
def fuel__wall_1 : Env_ → Store → Nat := fun _ _ => 400
def b1__wall : SM := (sSeq sNext sNext)
def m__wall : SM := (sSeq (sWhile fuel__wall_1 (tV (eC (.bl true))) b1__wall) sNext)
def F__wall : FM := fm 1 1 m__wall
end DL.SH
namespace DL.K11
open PySem PySem.Spec PyProof.Rows L2 DL DL.SH
def st0 : Store := []
def m__law_line : SM := (sSeq (sRet (eMet pJoin (eC (.str [32])) (eCons (eBin pAdd (eLst (eCons (eIdx (eVar 0) (eC (.int 0))) eNil)) (eComp [1] (iVal (eSl (eVar 0) (oSome (eC (.int 1))) oNone)) (gName 1) tYes (eIf (tV (eBin pEq (eVar 1) (eC (.str [])))) (eC (.str [45])) (eCallP (p1 fStrN) (eCons (eVar 1) eNil))))) eNil))) sNext)
def F__law_line : FM := fm 1 2 m__law_line
def m__law_bent : SM := (sSeq (sAsg 2 (eLst (eCons (eC (.str [32])) (eCons (eC (.str [88])) (eCons (eC (.str [97])) (eCons (eC (.str [45])) (eCons (eC (.str [49])) (eCons (eC (.str [48])) (eCons (eC (.str [])) (eCons (eC (.str [10])) (eCons (eC (.str [115, 97, 109, 101])) (eCons (eC (.str [10, 108, 101, 97, 115, 116, 32, 51])) (eCons (eC (.str [10, 115, 97, 109, 101, 32, 88, 32, 97, 88])) (eCons (eC (.str [109, 111, 115, 116])) (eCons (eC (.str [32, 99])) (eCons (eC (.str [100])) (eCons (eC (.str [48, 49])) eNil))))))))))))))))) (sSeq (sAsg 3 (eFn F__law_draw (eCons (eVar 0) (eCons (eBin pAdd (eCallP pLen (eCons (eVar 1) eNil)) (eC (.int 1))) eNil)))) (sSeq (sAsg 1 (eBin pAdd (eBin pAdd (eSl (eVar 1) oNone (oSome (eVar 3))) (eFn F__law_choice (eCons (eVar 0) (eCons (eVar 2) eNil)))) (eSl (eVar 1) (oSome (eBin pAdd (eVar 3) (eFn F__law_draw (eCons (eVar 0) (eCons (eC (.int 3)) eNil))))) oNone))) (sSeq (sAsg 4 (eMet pSplit (eVar 1) (eCons (eC (.str [10])) eNil))) (sSeq (sAsg 5 (eLst (eCons (eVar 1) (eCons (eVar 1) (eCons (eVar 1) (eCons (eMet pJoin (eC (.str [10])) (eCons (eRev (eVar 4)) eNil)) (eCons (eMet pJoin (eC (.str [10])) (eCons (eSl (eVar 4) (oSome (eC (.int 1))) oNone) eNil)) (eCons (eMet pJoin (eC (.str [10])) (eCons (eBin pMul (eVar 4) (eC (.int 2))) eNil)) eNil)))))))) (sSeq (sRet (eFn F__law_choice (eCons (eVar 0) (eCons (eVar 5) eNil)))) sNext))))))
def F__law_bent : FM := fm 2 6 m__law_bent
def m__law_tried : SM := (sSeq (sAsg 1 (eC .non)) (sSeq (sTryA ["InvalidFacts", "InvalidText"] (sSeq (sAsg 1 (eFn F_read_facts (eCons (eVar 0) eNil))) sNext) [("InvalidText", .nm 2 "line" fun v => (sSeq (sAsg 1 (eC (.int v))) sNext))]) (sSeq (sRet (eVar 1)) sNext)))
def F__law_tried : FM := fm 1 3 m__law_tried
def m__law_fact_of : SM := (sSeq (sAsg 1 (eMet pSplit (eVar 0) (eCons (eC (.str [32])) eNil))) (sSeq (sIf (tAnd (tV (eBin pIn (eIdx (eVar 1) (eC (.int 0))) (eLst (eCons (eC (.str [108, 101, 97, 115, 116])) (eCons (eC (.str [109, 111, 115, 116])) eNil))))) (tV (eBin pEq (eCallP pLen (eCons (eVar 1) eNil)) (eC (.int 2))))) (sSeq (sAsg 2 (eCallP (p1 fDict) (eCons (eComp [4] (iRng1D (eCons (eC (.int 61)) eNil)) (gName 4) tYes (eTup (eCons (eCallP (p1 fStrN) (eCons (eVar 4) eNil)) (eCons (eVar 4) eNil)))) eNil))) (sSeq (sRet (eIf (tV (eBin pInD (eIdx (eVar 1) (eC (.int 1))) (eVar 2))) (eTup (eCons (eIdx (eVar 1) (eC (.int 0))) (eCons (eGetD (eVar 2) (eIdx (eVar 1) (eC (.int 1)))) eNil))) (eC .non))) sNext)) sNext) (sSeq (sIf (tV (eBin pIn (eC (.str [])) (eVar 1))) (sSeq (sRet (eC .non)) sNext) sNext) (sSeq (sAsg 3 (eBin pAdd (eTup (eCons (eIdx (eVar 1) (eC (.int 0))) eNil)) (eCallP (p1 fTup) (eCons (eComp [5] (iVal (eSl (eVar 1) (oSome (eC (.int 1))) oNone)) (gName 5) tYes (eIf (tV (eBin pEq (eVar 5) (eC (.str [45])))) (eC (.str [])) (eVar 5))) eNil)))) (sSeq (sRet (eIf (tV (eFn F_is_fact (eCons (eVar 3) eNil))) (eVar 3) (eC .non))) sNext)))))
def F__law_fact_of : FM := fm 1 6 m__law_fact_of
def m__law_due : SM := (sSeq (sAsg 1 (eComp [2] (iVal (eMet pSplit (eVar 0) (eCons (eC (.str [10])) eNil))) (gName 2) tYes (eFn F__law_fact_of (eCons (eVar 2) eNil)))) (sSeq (sIf (tV (eBin pIn (eC .non) (eVar 1))) (sSeq (sRet (eBin pAdd (eMetL pIndexE (eVar 1) (eCons (eC .non) eNil)) (eC (.int 1)))) sNext) sNext) (sSeq (sRet (eIf (tV (eFn F_is_facts (eCons (eCallP (p1 fTup) (eCons (eVar 1) eNil)) eNil))) (eCallP (p1 fTup) (eCons (eVar 1) eNil)) (eBin pAdd (eCallP pLen (eCons (eVar 1) eNil)) (eC (.int 1))))) sNext)))
def F__law_due : FM := fm 1 3 m__law_due
def b1_law : SM := (sSeq (sAsg 5 (eSl (eFn F__law_bent (eCons (eVar 2) (eCons (eIf (tV (eBin pEq (eBin pMod (eVar 6) (eC (.int 3))) (eC (.int 0)))) (eVar 4) (eVar 5)) eNil))) oNone (oSome (eC (.int 400))))) (sSeq (sIf (tV (eBin pNe (eFn F__law_tried (eCons (eVar 5) eNil)) (eFn F__law_due (eCons (eVar 5) eNil)))) (sSeq (sRet (eC (.bl false))) sNext) sNext) sNext))
def b2_law : SM := (sSeq (sIf (tV (eBin pNe (eFn F__law_tried (eCons (eVar 7) eNil)) (eC (.int 0)))) (sSeq (sRet (eC (.bl false))) sNext) sNext) sNext)
def b3_law : SM := (sSeq (sAsgC 2 (eFn F__law_source (eCons (eVar 0) (eCons (eVar 1) eNil)))) (sSeq (sAsg 3 (eFn F__law_facts (eCons (eVar 2) (eCons (eC (.int 6)) eNil)))) (sSeq (sAsg 4 (eMet pJoin (eC (.str [10])) (eCons (eComp [11] (iVal (eVar 3)) (gName 11) tYes (eFn F__law_line (eCons (eVar 11) eNil))) eNil))) (sSeq (sIf (tOr (tV (eBin pNe (eFn F_facts_text (eCons (eVar 3) eNil)) (eVar 4))) (tV (eBin pNe (eFn F_read_facts (eCons (eVar 4) eNil)) (eVar 3)))) (sSeq (sRet (eC (.bl false))) sNext) sNext) (sSeq (sAsg 5 (eVar 4)) (sSeq (sFor (iRng1D (eCons (eC (.int 20)) eNil)) (gName 6) b1_law) (sSeq (sFor (iVal (eLst (eCons (eC .non) (eCons (eC (.int 5)) (eCons (eTup (eCons (eVar 5) eNil)) (eCons (eLst (eCons (eVar 5) eNil)) (eCons (eC (.bl true)) (eCons (eVar 3) eNil)))))))) (gName 7) b2_law) sNext)))))))
def m_law : SM := (sSeq (sFor (iRng1D (eCons (eBin pAdd (eC (.int 1)) (eCallP pMin2 (eCons (eCallP pLen (eCons (eVar 0) eNil)) (eCons (eC (.int 8)) eNil)))) eNil)) (gName 1) b3_law) (sSeq (sAsg 8 (eC (.str [115, 97, 109, 101, 32, 97, 98, 88, 32, 88, 98, 97]))) (sSeq (sAsg 9 (eLst (eCons (eC (.str [])) (eCons (eVar 8) (eCons (eBin pAdd (eVar 8) (eC (.str [10, 108, 101, 97, 115, 116, 32, 52]))) (eCons (eBin pAdd (eVar 8) (eC (.str [10]))) (eCons (eC (.str [115, 97, 109, 101, 32, 45, 32, 88])) (eCons (eC (.str [115, 97, 109, 101, 32, 32, 88])) (eCons (eC (.str [108, 101, 97, 115, 116, 32, 54, 49])) (eCons (eC (.str [108, 101, 97, 115, 116, 32, 48, 51])) eNil)))))))))) (sSeq (sAsg 9 (eBin pAdd (eVar 9) (eLst (eCons (eC (.str [98, 101, 103, 105, 110, 115, 32, 45])) (eCons (eC (.str [98, 101, 103, 105, 110, 115, 32, 88])) eNil))))) (sSeq (sAsg 9 (eBin pAdd (eVar 9) (eLst (eCons (eC (.str [115, 97, 109, 101, 32, 88])) (eCons (eC (.str [109, 111, 115, 116])) (eCons (eBin pAdd (eVar 8) (eC (.str [10, 101, 110, 100, 115]))) (eCons (eMet pJoin (eC (.str [10])) (eCons (eBin pMul (eLst (eCons (eVar 8) eNil)) (eC (.int 7))) eNil)) (eCons (eC (.str [115, 97, 109, 101, 32, 45, 32, 45])) (eCons (eC (.str [83, 97, 109, 101, 32, 88, 32, 88])) (eCons (eBin pAdd (eVar 8) (eC (.str [32]))) eNil)))))))))) (sSeq (sAsg 10 (eLst (eCons (eC (.int 1)) (eCons (eTup (eCons (eTup (eCons (eC (.str [115, 97, 109, 101])) (eCons (eC (.str [97, 98, 88])) (eCons (eC (.str [88, 98, 97])) eNil)))) eNil)) (eCons (eTup (eCons (eTup (eCons (eC (.str [115, 97, 109, 101])) (eCons (eC (.str [97, 98, 88])) (eCons (eC (.str [88, 98, 97])) eNil)))) (eCons (eTup (eCons (eC (.str [108, 101, 97, 115, 116])) (eCons (eC (.int 4)) eNil))) eNil))) (eCons (eC (.int 2)) (eCons (eTup (eCons (eTup (eCons (eC (.str [115, 97, 109, 101])) (eCons (eC (.str [])) (eCons (eC (.str [88])) eNil)))) eNil)) (eCons (eC (.int 1)) (eCons (eC (.int 1)) (eCons (eC (.int 1)) (eCons (eC (.int 1)) (eCons (eC (.int 1)) eNil)))))))))))) (sSeq (sAsg 10 (eBin pAdd (eVar 10) (eLst (eCons (eC (.int 1)) (eCons (eC (.int 1)) (eCons (eC (.int 2)) (eCons (eC (.int 8)) (eCons (eTup (eCons (eTup (eCons (eC (.str [115, 97, 109, 101])) (eCons (eC (.str [])) (eCons (eC (.str [])) eNil)))) eNil)) (eCons (eC (.int 1)) (eCons (eC (.int 1)) eNil)))))))))) (sSeq (sIf (tV (eBin pNe (eComp [5] (iVal (eVar 9)) (gName 5) tYes (eFn F__law_tried (eCons (eVar 5) eNil))) (eVar 10))) (sSeq (sRet (eC (.bl false))) sNext) sNext) (sSeq (sRet (eBin pEq (eFn F_facts_text (eCons (eTup (eCons (eTup (eCons (eC (.str [115, 97, 109, 101])) (eCons (eC (.str [])) (eCons (eC (.str [88])) eNil)))) (eCons (eTup (eCons (eC (.str [109, 111, 115, 116])) (eCons (eC (.int 0)) eNil))) (eCons (eTup (eCons (eC (.str [98, 101, 103, 105, 110, 115])) (eCons (eC (.str [97, 98, 99])) eNil))) eNil)))) eNil)) (eC (.str [115, 97, 109, 101, 32, 45, 32, 88, 10, 109, 111, 115, 116, 32, 48, 10, 98, 101, 103, 105, 110, 115, 32, 97, 98, 99])))) sNext)))))))))
def F_law : FM := fm 1 12 m_law
end DL.K11
set_option linter.all false
set_option maxRecDepth 100000
set_option maxHeartbeats 4000000
namespace DL.SH
open PySem PySem.Spec PyProof.Rows L2 DL
theorem t_draw {S0 : Store} {st : Store} {k : Nat} {m : Int} (hs : Src S0 st k) (hm : 0 < m) (hm2 : m < 1073741824) : ∃ r st', F__law_draw [.ref k, .int m] st = .ok (.int r) st' ∧ 0 ≤ r ∧ r < m ∧ Src S0 st' k := by
  obtain ⟨⟨a, b, e⟩, hk0, hk1⟩ := hs
  have hk := (List.getElem?_eq_some_iff.mp e).1
  unfold F__law_draw m__law_draw
  by_cases ha : 0 < a
  · refine ⟨a % m, st.set k (.lst [.int (a / m), .int b]), ?_, Int.emod_nonneg _ (by omega), Int.emod_lt_of_pos _ hm, Src.set ⟨⟨a, b, e⟩, hk0, hk1⟩ _ _⟩
    simp [ev_cell0 e, ev_cell1 e, ha, ev_mod hm, ev_div ⟨hm, hm2⟩, refAt, cellSet, plain, e, retD]
  · have e1 : (st.set k (.lst [.int a, .int ((b * 48271 + 83) % 2147483237)]))[k]? = some (.lst [.int a, .int ((b * 48271 + 83) % 2147483237)]) := List.getElem?_set_self hk
    generalize hc : (b * 48271 + 83) % 2147483237 = c at e1
    have c1 : 0 ≤ c := by omega
    have c2 : c < 2147483237 := by omega
    refine ⟨(c * (c / 41 + 26)) % 2147483179 / 32 % m, st.set k (.lst [.int a, .int c]), ?_, Int.emod_nonneg _ (by omega), Int.emod_lt_of_pos _ hm, Src.set ⟨⟨a, b, e⟩, hk0, hk1⟩ _ _⟩
    simp [ev_cell0 e, ev_cell1 e, ha, ev_mod hm, ev_div ⟨hm, hm2⟩, refAt, cellSet, plain, e, retD, ev_mul, ev_mod, ev_div, hc, ev_cell0 e1, ev_cell1 e1]
    rw [ev_mul' (by omega)]
    simp [ev_mod, ev_div, plain, ev_mod hm, retD]
/-! ### what both sides recognise -/
def isStr (signs : List Nat) (lo hi : Int) : D → Bool
  | .str l => decide (lo ≤ (l.length : Int)) && decide ((l.length : Int) ≤ hi) && l.all fun c => decide (c ∈ signs)
  | _ => false
/-- a value of the law: no new list, no cell; sizes up to n, so deep -/
def okV (n : Nat) : Nat → D → Prop
  | _, .non => True
  | _, .bl _ => True
  | _, .int _ => True
  | _, .str l => l.length ≤ n
  | d + 1, .tup ds => ds.length ≤ n ∧ ∀ x ∈ ds, okV n d x
  | d + 1, .lst ds => ds.length ≤ n ∧ ∀ x ∈ ds, okV n d x
  | _, _ => False
theorem blsOf_map (l : List Bool) : blsOf (l.map .bl) = some l := by
  induction l with
  | nil => rfl
  | cons a l ih => simp [blsOf, ih]
def inD (signs : List Nat) : D → D
  | .str [c] => .bl (decide (c ∈ signs))
  | _ => .non
theorem bls_in (signs l : List Nat) : blsOf (((l.map fun c => D.str [c]).filter fun _ => true).map fun x => frz (inD signs x)) = some (l.map fun c => decide (c ∈ signs)) := by
  rw [← blsOf_map, List.filter_eq_self.mpr (fun _ _ => rfl), List.map_map, List.map_map]
  rfl
theorem t_string {st : Store} {n d : Nat} {v sg : D} {signs : List Nat} {lo hi : Int} (hn : n ≤ 100000) (hv : okV n d v) (hs : sg = .str signs ∨ sg = .cst signs) :
    F_is_string [v, sg, .int lo, .int hi] st = .ok (.bl (isStr signs lo hi v)) st := by
  have hsv : sg.vw = some (.str signs) := by rcases hs with e | e <;> subst e <;> rfl
  have hsp : plain sg = true := by rcases hs with e | e <;> subst e <;> rfl
  unfold F_is_string m_is_string
  cases v with
  | str l =>
    have hl : l.length ≤ n := by cases d <;> exact hv
    by_cases h1 : lo ≤ (l.length : Int)
    · by_cases h2 : (l.length : Int) ≤ hi
      · have hc := eComp_pure (own := [4]) (mi := iVal (eVar 0)) (g := gName 4) (t := tYes) (me := eBin pIn (eVar 4) (eVar 1)) (ρ := [some (.str l), some sg, some (.int lo), some (.int hi), none]) (st := st) (st1 := st) (xs := l.map fun c => .str [c]) (fun _ => true) (inD signs) rfl
          (fun x hx => by
            obtain ⟨c, hc, rfl⟩ := List.mem_map.mp hx
            refine ⟨_, rfl, rfl, fun _ => ⟨?_, rfl⟩⟩
            rcases hs with rfl | rfl <;> simp [wipeD, pIn, inV, D.vw, txt, subIn_one, inD]) (by simp; omega)
        simp [isTy, D.vw, tyOf, pLen, lenV, cellL, asB, h1, h2, plain, retD, isStr, hc, hsp, p1, fAll, onL, bls_in, List.all_map, Function.comp_def]
      · simp [isTy, D.vw, tyOf, pLen, lenV, cellL, asB, h1, h2, plain, retD, isStr]
    · simp [isTy, D.vw, tyOf, pLen, lenV, cellL, asB, h1, plain, retD, isStr]
  | non => simp [isTy, D.vw, tyOf, isStr, retD]
  | bl b => simp [isTy, D.vw, tyOf, isStr, retD]
  | int b => simp [isTy, D.vw, tyOf, isStr, retD]
  | tup b => simp [isTy, D.vw, tyOf, isStr, retD]
  | lst b => simp [isTy, D.vw, tyOf, isStr, retD]
  | _ => cases d <;> exact False.elim hv
theorem in_usts (c : Nat) : ∀ signs : List Nat, inL (eqF 50) (signs.map fun c => .ust [c]) (.str [c]) = some (decide (c ∈ signs))
  | [] => rfl
  | a :: l => by
    have e : eqF 50 (.ust [a]) (.str [c]) = some ([a] == [c]) := rfl
    rw [List.map_cons]
    unfold inL
    rw [e, in_usts c l]
    have e2 : ([a] == [c]) = decide (a = c) := by rw [Bool.eq_iff_iff]; simp
    simp only [e2, List.mem_cons]
    by_cases h : a = c
    · simp [h]
    · simp [h, Ne.symm h]
theorem eq_nil (l : List D) : eqF 50 (.new l) (.new []) = some l.isEmpty := by
  cases l <;> rfl
def outD (signs : List Nat) : D → Bool
  | .str [c] => !decide (c ∈ signs)
  | _ => false
theorem out_nil (signs l : List Nat) : (((l.map fun c => D.str [c]).filter (outD signs)).map fun x => frz (id x)).isEmpty = l.all fun c => decide (c ∈ signs) := by
  rw [List.isEmpty_map]
  induction l with
  | nil => rfl
  | cons a l ih =>
    rw [List.map_cons, List.all_cons, ← ih]
    by_cases h : a ∈ signs
    · rw [List.filter_cons_of_neg (by simp [outD, h])]; simp [h]
    · rw [List.filter_cons_of_pos (by simp [outD, h])]; simp [h]
theorem okV_plain {n d : Nat} {v : D} (h : okV n d v) : plain v = true := by
  cases v with
  | new l => cases d <;> exact h.elim
  | own i l => cases d <;> exact h.elim
  | _ => rfl
theorem okV_frz {n d : Nat} {v : D} (h : okV n d v) : frz v = v := by
  cases v with
  | new l => cases d <;> exact h.elim
  | own i l => cases d <;> exact h.elim
  | _ => rfl
abbrev abcX : List Nat := [97, 98, 99, 88]
abbrev abc : List Nat := [97, 98, 99]
theorem t_template {st : Store} {n d : Nat} {v : D} (hn : n ≤ 100000) (hv : okV n d v) : F_is_template [v] st = .ok (.bl (isStr abcX 0 16 v)) st := by
  have h := t_string (st := st) (sg := .str abcX) (lo := 0) (hi := 16) hn hv (.inl rfl)
  unfold F_is_template m_is_template
  simp [okV_frz hv, okV_plain hv, pAdd, D.vw, catT, txt, h, retD]
theorem t_stamp {st : Store} {n d : Nat} {v : D} (hn : n ≤ 100000) (hv : okV n d v) : F_is_stamp [v] st = .ok (.bl (isStr abc 0 200 v)) st := by
  have h := t_string (st := st) (sg := .cst abc) (lo := 0) (hi := 200) hn hv (.inr rfl)
  unfold F_is_stamp m_is_stamp
  simp [okV_frz hv, okV_plain hv, h, retD]
def isFrom (lo hi : Int) : D → Bool
  | .int i => decide (lo ≤ i) && decide (i ≤ hi)
  | _ => false
theorem t_from {st : Store} {n d : Nat} {v : D} {lo hi : Int} (hv : okV n d v) : F_is_from [v, .int lo, .int hi] st = .ok (.bl (isFrom lo hi v)) st := by
  unfold F_is_from m_is_from
  cases v with
  | int i => by_cases h1 : lo ≤ i <;> simp [isTy, D.vw, tyOf, isFrom, retD, asB, h1]
  | non => simp [isTy, D.vw, tyOf, isFrom, retD]
  | bl b => simp [isTy, D.vw, tyOf, isFrom, retD]
  | str b => simp [isTy, D.vw, tyOf, isFrom, retD]
  | tup b => simp [isTy, D.vw, tyOf, isFrom, retD]
  | lst b => simp [isTy, D.vw, tyOf, isFrom, retD]
  | _ => cases d <;> exact False.elim hv
def isFact : D → Bool
  | .tup [.str h, x] => (decide (h = [98, 101, 103, 105, 110, 115] ∨ h = [101, 110, 100, 115]) && isStr abc 1 8 x) || (decide (h = [108, 101, 97, 115, 116] ∨ h = [109, 111, 115, 116]) && isFrom 0 60 x)
  | .tup [.str h, x, y] => decide (h = [115, 97, 109, 101]) && isStr abcX 0 16 x && isStr abcX 0 16 y
  | _ => false
theorem t_fact {st : Store} {n d : Nat} {v : D} (hn : n ≤ 100000) (hv : okV n d v) : F_is_fact [v] st = .ok (.bl (isFact v)) st := by
  unfold F_is_fact m_is_fact
  cases v with
  | int i => simp [isTy, D.vw, tyOf, isFact, retD]
  | non => simp [isTy, D.vw, tyOf, isFact, retD]
  | bl b => simp [isTy, D.vw, tyOf, isFact, retD]
  | str b => simp [isTy, D.vw, tyOf, isFact, retD]
  | lst b => simp [isTy, D.vw, tyOf, isFact, retD]
  | tup l =>
    cases d with
    | zero => exact False.elim hv
    | succ d =>
      obtain ⟨hl, hx⟩ := hv
      match l, hl, hx with
      | [], _, _ => simp [isTy, D.vw, tyOf, isFact, retD, pLen, lenV, cellL]
      | [a], _, _ => simp [isTy, D.vw, tyOf, isFact, retD, pLen, lenV, cellL]
      | [a, b], _, hx =>
        have ha := hx a (by simp)
        have hb := hx b (by simp)
        cases a with
        | str h =>
          have hS := t_string (st := st) (sg := .cst abc) (lo := 1) (hi := 8) hn hb (.inr rfl)
          have hF := t_from (st := st) (lo := 0) (hi := 60) hb
          have fb := okV_frz hb
          have pb := okV_plain hb
          by_cases h1 : h = [115, 97, 109, 101]
          · simp [h1, isTy, D.vw, tyOf, isFact, retD, pLen, lenV, cellL, pIdx, itemV, show seqIndex? 0 2 = some 0 from rfl, show seqIndex? 1 2 = some 1 from rfl, pEq, pNe, pIn, inV, eqF, eqV]
          by_cases h2 : h = [98, 101, 103, 105, 110, 115]
          · simp [h2, isTy, D.vw, tyOf, isFact, retD, pLen, lenV, cellL, pIdx, itemV, show seqIndex? 0 2 = some 0 from rfl, show seqIndex? 1 2 = some 1 from rfl, pEq, pNe, pIn, inV, inL, eqF, eqV, hS, hF, fb, pb]
          by_cases h3 : h = [101, 110, 100, 115]
          · simp [h3, isTy, D.vw, tyOf, isFact, retD, pLen, lenV, cellL, pIdx, itemV, show seqIndex? 0 2 = some 0 from rfl, show seqIndex? 1 2 = some 1 from rfl, pEq, pNe, pIn, inV, inL, eqF, eqV, hS, hF, fb, pb]
          by_cases h4 : h = [108, 101, 97, 115, 116]
          · simp [h4, isTy, D.vw, tyOf, isFact, retD, pLen, lenV, cellL, pIdx, itemV, show seqIndex? 0 2 = some 0 from rfl, show seqIndex? 1 2 = some 1 from rfl, pEq, pNe, pIn, inV, inL, eqF, eqV, hS, hF, fb, pb]
          by_cases h5 : h = [109, 111, 115, 116]
          · simp [h5, isTy, D.vw, tyOf, isFact, retD, pLen, lenV, cellL, pIdx, itemV, show seqIndex? 0 2 = some 0 from rfl, show seqIndex? 1 2 = some 1 from rfl, pEq, pNe, pIn, inV, inL, eqF, eqV, hS, hF, fb, pb]
          have q2 := Ne.symm h2
          have q3 := Ne.symm h3
          have q4 := Ne.symm h4
          have q5 := Ne.symm h5
          simp [h1, h2, h3, h4, h5, q2, q3, q4, q5, isTy, D.vw, tyOf, isFact, retD, pLen, lenV, cellL, pIdx, itemV, show seqIndex? 0 2 = some 0 from rfl, show seqIndex? 1 2 = some 1 from rfl, pEq, pNe, pIn, inV, inL, eqF, eqV, hS, hF, fb, pb]
        | int i => simp [isTy, D.vw, tyOf, isFact, retD, pLen, lenV, cellL, pIdx, itemV, show seqIndex? 0 2 = some 0 from rfl]
        | non => simp [isTy, D.vw, tyOf, isFact, retD, pLen, lenV, cellL, pIdx, itemV, show seqIndex? 0 2 = some 0 from rfl]
        | bl b => simp [isTy, D.vw, tyOf, isFact, retD, pLen, lenV, cellL, pIdx, itemV, show seqIndex? 0 2 = some 0 from rfl]
        | lst b => simp [isTy, D.vw, tyOf, isFact, retD, pLen, lenV, cellL, pIdx, itemV, show seqIndex? 0 2 = some 0 from rfl]
        | tup b => simp [isTy, D.vw, tyOf, isFact, retD, pLen, lenV, cellL, pIdx, itemV, show seqIndex? 0 2 = some 0 from rfl]
        | _ => cases d <;> exact False.elim ha
      | a :: b :: c :: r, _, hx =>
        have ha := hx a (by simp)
        have hb := hx b (by simp)
        have hc := hx c (by simp)
        cases a with
        | str h =>
          have hB := t_template (st := st) hn hb
          have hC := t_template (st := st) hn hc
          have fb := okV_frz hb
          have pb := okV_plain hb
          have fc := okV_frz hc
          have pc := okV_plain hc
          by_cases h1 : h = [115, 97, 109, 101]
          · cases r with
            | nil => 
              cases hq : isStr abcX 0 16 b <;> simp [h1, isTy, D.vw, tyOf, isFact, retD, pLen, lenV, cellL, pIdx, itemV, show seqIndex? 0 3 = some 0 from rfl, show seqIndex? 1 3 = some 1 from rfl, show seqIndex? 2 3 = some 2 from rfl, pEq, pNe, eqF, eqV, hB, hC, fb, pb, fc, pc, hq]
            | cons e r =>
              have q1 : ¬ ((r.length : Int) + 1 + 1 + 1 + 1 = 3) := by omega
              have q2 : ¬ ((r.length : Int) + 1 + 1 + 1 + 1 < 2) := by omega
              simp [h1, isTy, D.vw, tyOf, isFact, retD, pLen, lenV, cellL, pIdx, itemV, ix0, ix1, ix2, pEq, pNe, eqF, eqV, hB, hC, fb, pb, fc, pc, q1, q2]
          · have q2 : ¬ ((r.length : Int) + 1 + 1 + 1 < 2) := by omega
            have q3 : ¬ ((r.length : Int) + 1 + 1 + 1 = 2) := by omega
            have q4 : isFact (.tup (.str h :: b :: c :: r)) = false := by cases r <;> simp [isFact, h1]
            rw [q4]
            simp [h1, isTy, D.vw, tyOf, retD, pLen, lenV, cellL, pIdx, itemV, ix0, ix1, ix2, pEq, pNe, eqF, eqV, q2, q3]
        | int i => simp [isTy, D.vw, tyOf, isFact, retD, pLen, lenV, cellL, pIdx, itemV]
        | non => simp [isTy, D.vw, tyOf, isFact, retD, pLen, lenV, cellL, pIdx, itemV]
        | bl b => simp [isTy, D.vw, tyOf, isFact, retD, pLen, lenV, cellL, pIdx, itemV]
        | lst b => simp [isTy, D.vw, tyOf, isFact, retD, pLen, lenV, cellL, pIdx, itemV]
        | tup b => simp [isTy, D.vw, tyOf, isFact, retD, pLen, lenV, cellL, pIdx, itemV]
        | _ => cases d <;> exact False.elim ha
  | _ => cases d <;> exact False.elim hv

def isFacts : D → Bool
  | .tup l => decide (1 ≤ (l.length : Int)) && decide ((l.length : Int) ≤ 6) && l.all isFact
  | _ => false
theorem bls_fact (l : List D) : blsOf ((l.filter fun _ => true).map fun x => frz (.bl (isFact x))) = some (l.map isFact) := by
  rw [← blsOf_map, List.filter_eq_self.mpr (fun _ _ => rfl), List.map_map]
  rfl
theorem bls_fact' (l : List D) : blsOf ((l.filter fun _ => true).map fun x => .bl (isFact x)) = some (l.map isFact) := bls_fact l
theorem t_has {st : Store} {n d : Nat} {v : D} (hn : n ≤ 100000) (hv : okV n d v) : F_has_facts [v] st = .ok (.bl (isFacts v)) st := by
  unfold F_has_facts m_has_facts
  cases v with
  | int i => simp [isTy, D.vw, tyOf, isFacts, retD]
  | non => simp [isTy, D.vw, tyOf, isFacts, retD]
  | bl b => simp [isTy, D.vw, tyOf, isFacts, retD]
  | str b => simp [isTy, D.vw, tyOf, isFacts, retD]
  | lst b => simp [isTy, D.vw, tyOf, isFacts, retD]
  | tup l =>
    cases d with
    | zero => exact False.elim hv
    | succ d =>
      obtain ⟨hl, hx⟩ := hv
      by_cases h1 : 1 ≤ (l.length : Int)
      · by_cases h2 : (l.length : Int) ≤ 6
        · have hc := eComp_pure (own := [1]) (mi := iVal (eVar 0)) (g := gName 1) (t := tYes) (me := eFn F_is_fact (eCons (eVar 1) eNil)) (ρ := [some (.tup l), none]) (st := st) (st1 := st) (xs := l) (fun _ => true) (fun x => .bl (isFact x)) rfl
            (fun x hm => by
              have hk := hx x hm
              refine ⟨_, if_pos (okV_plain hk), rfl, fun _ => ⟨?_, rfl⟩⟩
              simp [wipeD, okV_frz hk, okV_plain hk, t_fact hn hk]) (by omega)
          simp [isTy, D.vw, tyOf, pLen, lenV, cellL, asB, h1, h2, retD, isFacts, hc, p1, fAll, onL, bls_fact', List.all_map, Function.comp_def]
        · simp [isTy, D.vw, tyOf, pLen, lenV, cellL, asB, h1, h2, retD, isFacts]
      · simp [isTy, D.vw, tyOf, pLen, lenV, cellL, asB, h1, retD, isFacts]
  | _ => cases d <;> exact False.elim hv
theorem t_facts {st : Store} {n d : Nat} {v : D} (hn : n ≤ 100000) (hv : okV n d v) : F_is_facts [v] st = .ok (.bl (isFacts v)) st := by
  have key := t_has (st := st) hn hv
  unfold F_is_facts m_is_facts
  simp [okV_frz hv, okV_plain hv, key, retD]
theorem seqIx_of {j n : Nat} (h : j < n) : seqIndex? (j : Int) n = some j := by
  unfold seqIndex?
  have h0 : ¬ ((j : Int) < 0) := by omega
  simp [h0]
  omega
theorem t_choice {S0 : Store} {st : Store} {k : Nat} {ds : List D} (hs : Src S0 st k) (h0 : ds ≠ []) (hl : ds.length < 1000000) : ∃ d st', F__law_choice [.ref k, .lst ds] st = .ok (retD d) st' ∧ d ∈ ds ∧ Src S0 st' k := by
  have hp : 0 < ds.length := List.length_pos_iff.mpr h0
  obtain ⟨r, st', e, r0, r1, s1⟩ := t_draw (m := (ds.length : Int)) hs (by omega) (by omega)
  obtain ⟨j, rfl⟩ := Int.eq_ofNat_of_zero_le r0
  have hj : j < ds.length := by omega
  refine ⟨ds[j], st', ?_, List.getElem_mem hj, s1⟩
  unfold F__law_choice m__law_choice
  simp [pLen, lenV, cellL, D.vw, e, pIdx, itemV, seqIx_of hj, hj]
theorem fz_scr (ns : List Int) : frz (.scr ns) = .scr ns := rfl
theorem pl_scr (ns : List Int) : plain (.scr ns) = true := rfl
theorem len_scr {st : Store} (ns : List Int) : pLen st [.scr ns] = some (.int ns.length) := by
  show Option.map (fun n : Nat => D.int n) (lenV (cellL st (.scr ns))) = _
  simp [cellL, lenV, D.vw]
theorem idx_scr {st : Store} {ns : List Int} {k : Nat} (h : k < ns.length) : pIdx st (.scr ns) (.int k) = some (.int ns[k]) := by
  show itemV (.scr ns) _ = _
  simp [itemV, D.vw, seqIx_of, h]
theorem abs_int {st : Store} (a : Int) : p1 fAbs st [.int a] = some (.int (if a < 0 then -a else a)) := rfl
theorem pow17 : ∃ B : Int, ∀ st, pPow st (.int 10) (.int 17) = some (.int B) := ⟨_, fun _ => rfl⟩
theorem mul16807 {st : Store} (a : Int) : pMul st (.int a) (.int 16807) = some (.int (a * 16807)) := ev_mul (by omega)
theorem mul10037 {st : Store} (a : Int) : pMul st (.int 10037) (.int a) = some (.int (10037 * a)) := ev_mul' (by omega)
theorem mul103 {st : Store} (a : Int) : pMul st (.int 103) (.int a) = some (.int (103 * a)) := ev_mul' (by omega)
end DL.SH
namespace DL
open PySem PySem.Spec PyProof.Rows L2
/-! ### slices and joins, evaluated -/
theorem cut_from {α : Type} (l : List α) {i : Int} (h : 0 ≤ i) : cutD l (some i) none = l.drop i.toNat := by
  obtain ⟨k, rfl⟩ := Int.eq_ofNat_of_zero_le h
  unfold cutD
  rw [HT.sIx_none, HT.sIx_nat]
  rw [List.take_of_length_le (by rw [List.length_drop]; omega)]
  by_cases hk : k ≤ l.length
  · rw [Nat.min_eq_left hk]; rfl
  · rw [Nat.min_eq_right (by omega), List.drop_length, List.drop_eq_nil_of_le (by simpa using (by omega : l.length ≤ k))]
theorem cut_to {α : Type} (l : List α) {i : Int} (h : 0 ≤ i) : cutD l none (some i) = l.take i.toNat := by
  obtain ⟨k, rfl⟩ := Int.eq_ofNat_of_zero_le h
  unfold cutD
  rw [HT.sIx_none, HT.sIx_nat, List.drop_zero, Nat.sub_zero]
  by_cases hk : k ≤ l.length
  · rw [Nat.min_eq_left hk]; rfl
  · rw [Nat.min_eq_right (by omega), List.take_length, List.take_of_length_le (by simpa using (by omega : l.length ≤ k))]
theorem cut_mem {α : Type} {l : List α} {a b : Option Int} {c : α} (h : c ∈ cutD l a b) : c ∈ l := List.mem_of_mem_drop (List.mem_of_mem_take h)
@[simp] theorem ev_sl {m : EM} {lo hi : EO} {ρ : Env_} {st : Store} : eSl m lo hi ρ st = (m ρ st).bind fun x st1 => (lo ρ st1).bind fun l st2 => (hi ρ st2).bind fun u st3 => R.of (sliceV x l u) st3 := rfl
@[simp] theorem ev_oNone {ρ : Env_} {st : Store} : oNone ρ st = .ok none st := rfl
@[simp] theorem ev_oSome {m : EM} {ρ : Env_} {st : Store} : oSome m ρ st = (m ρ st).bind fun d st1 => match d with | .int i => .ok (some i) st1 | _ => .bad := rfl
@[simp] theorem ev_met {p : Store → D → List D → Option D} {mo : EM} {ml : EL} {ρ : Env_} {st : Store} : eMet p mo ml ρ st = (mo ρ st).bind fun x st1 => if (txt x).isSome = true then (ml ρ st1).bind fun ds st2 => R.of (p st2 x ds) st2 else .bad := rfl
@[simp] theorem ev_comp {own : List Nat} {mi : EL} {g : AG} {t : EB} {me : EM} {ρ : Env_} {st : Store} : eComp own mi g t me ρ st = (mi ρ st).bind fun xs st1 => (compS g t me (wipeD ρ own) xs [] st1).bind fun ds st2 => .ok (.new ds) st2 := rfl
@[simp] theorem ev_repl {mo : EM} {y : List Nat} {i : Nat} {ρ : Env_} {st : Store} : eRepl mo y i ρ st = (mo ρ st).bind fun x st1 => match txt x, ρ[i]? with
  | some a, some (some (.str z)) => R.of (replD x a y z) st1
  | _, _ => .bad := rfl
@[simp] theorem ev_rev {m : EM} {ρ : Env_} {st : Store} : eRev m ρ st = (m ρ st).bind fun x st1 => R.of (revV x) st1 := rfl
theorem vw_str {l : List Nat} : (D.str l).vw = some (.str l) := rfl
theorem vw_lst {l : List D} : (D.lst l).vw = some (.lst l) := rfl
theorem vw_new {l : List D} : (D.new l).vw = some (.lst l) := rfl
theorem vw_tup {l : List D} : (D.tup l).vw = some (.tup l) := rfl
@[simp] theorem txt_str {l : List Nat} : txt (.str l) = some l := rfl
theorem sliceV_tup {l : List D} {a b : Option Int} : sliceV (.tup l) a b = some (.tup (cutD l a b)) := rfl
theorem sliceV_lst {l : List D} {a b : Option Int} : sliceV (.lst l) a b = some (.new (cutD l a b)) := rfl
theorem catT_str {a b : List Nat} (h : a.length + b.length ≤ 16777216) : catT (.str a) (.str b) = some (.str (a ++ b)) := by
  show (if a = [] then some (D.str b) else if b = [] then some (D.str a) else if a.length + b.length ≤ 16777216 then some (D.str (a ++ b)) else none) = _
  by_cases ha : a = []
  · simp [ha]
  · by_cases hb : b = []
    · simp [ha, hb]
    · simp [ha, hb, h]
theorem add_str {st : Store} {a b : List Nat} (h : a.length + b.length ≤ 16777216) : pAdd st (.str a) (.str b) = some (.str (a ++ b)) := catT_str h
theorem add_tup {st : Store} {a b : List D} (h : a.length + b.length ≤ 16777216) : pAdd st (.tup a) (.tup b) = some (.tup (a ++ b)) := if_pos h
theorem add_lst {st : Store} {a b : List D} (h : a.length + b.length ≤ 16777216) : pAdd st (.lst a) (.lst b) = some (.new (a ++ b)) := if_pos h
theorem add_lst_new {st : Store} {a b : List D} (h : a.length + b.length ≤ 16777216) : pAdd st (.lst a) (.new b) = some (.new (a ++ b)) := if_pos h
/-- a text many times -/
theorem mul_str {st : Store} {l : List Nat} {k : Int} (h1 : 0 < k) (h2 : k ≤ 16000) (h3 : l.length ≤ 1000) : pMul st (.str l) (.int k) = some (.str (repL k.toNat l)) := by
  show mulT (.str l) l k = _
  unfold mulT
  rw [if_neg (by omega)]
  by_cases h : k = 1 ∨ l = []
  · rw [if_pos h, if_pos (by omega)]
    rcases h with rfl | rfl
    · simp [repL]
    · have : ∀ n, repL n ([] : List Nat) = [] := fun n => by
        apply List.eq_nil_of_length_eq_zero
        rw [len_repL]; simp
      rw [this]
  · rw [if_neg h, if_pos ⟨h3, h2⟩]
theorem mem_repL {α : Type} {c : α} {l : List α} : ∀ {k : Nat}, c ∈ repL k l → c ∈ l
  | 0, h => by simp [repL] at h
  | k + 1, h => by
    unfold repL at h
    rw [List.replicate_succ, List.flatten_cons, List.mem_append] at h
    rcases h with h | h
    · exact h
    · exact mem_repL (k := k) h
theorem mul_lst {st : Store} {l : List D} {k : Int} (h1 : 0 ≤ k) (h2 : k ≤ 1000) (h3 : l.length ≤ 1000) : pMul st (.lst l) (.int k) = some (.new (repL k.toNat l)) := if_pos ⟨h1, h2, h3⟩
/-- texts, joined by nothing -/
theorem joinL_nil : ∀ ls : List (List Nat), TL.joinL [] ls = ls.flatten
  | [] => rfl
  | [p] => by simp [TL.joinL]
  | p :: q :: r => by
    show p ++ ([] ++ TL.joinL [] (q :: r)) = _
    rw [joinL_nil (q :: r)]
    simp
theorem txts_str (ls : List (List Nat)) : txtsOf (ls.map .str) = some ls := by
  induction ls with
  | nil => rfl
  | cons a ls ih => simp [txtsOf, ih]
theorem joinD_str {a : List Nat} {ls : List (List Nat)} (h : (ls.map List.length).sum + ls.length * a.length ≤ 16777216) : joinD a (ls.map .str) = some (.str (TL.joinL a ls)) := by
  unfold joinD
  rw [txts_str]
  show (if _ then some (joinR a (ls.map .str) ls) else none) = _
  rw [if_pos h]
  match ls with
  | [] => rfl
  | [p] => rfl
  | p :: q :: r => rfl
theorem join_new {st : Store} {ls : List (List Nat)} (h : (ls.map List.length).sum ≤ 16777216) : pJoin st (.str []) [.new (ls.map .str)] = some (.str ls.flatten) := by
  show joinD [] (ls.map .str) = _
  rw [joinD_str (by simpa using h), joinL_nil]
theorem join_lst {st : Store} {ls : List (List Nat)} (h : (ls.map List.length).sum ≤ 16777216) : pJoin st (.str []) [.lst (ls.map .str)] = some (.str ls.flatten) := by
  show joinD [] (ls.map .str) = _
  rw [joinD_str (by simpa using h), joinL_nil]
end DL
namespace DL.SH
open PySem PySem.Spec PyProof.Rows L2 DL
/-! ### the law's draws -/
theorem pPow_some {st : Store} {i j : Int} (h : 0 ≤ j ∧ j ≤ 1000 ∧ i.natAbs ≤ 1000) : ∃ B, pPow st (.int i) (.int j) = some (.int B) ∧ ∀ st', pPow st' (.int i) (.int j) = some (.int B) := ⟨i ^ j.toNat, if_pos h, fun _ => if_pos h⟩
/-- the source with its numbers as letters -/
def srcG (c0 c1 c2 c3 c4 c5 c6 c7 c8 : Int) : SM := (sSeq (sAsg 2 (eIf (tV (eBin (pCmp fun i j => decide (i < j)) (eVar 1) (eCallP pLen (eCons (eVar 0) eNil)))) (eCallP (p1 fAbs) (eCons (eCallP (p1 fInt) (eCons (eIdx (eVar 0) (eVar 1)) eNil)) eNil)) (eBin pAdd (eBin pMul (eC (.int c0)) (eVar 1)) (eC (.int c1))))) (sSeq (sRet (eLst (eCons (eIf (tV (eBin (pCmp fun i j => decide (j < i)) (eVar 2) (eBin pPow (eC (.int c2)) (eC (.int c3))))) (eVar 2) (eC (.int c4))) (eCons (eBin pMod (eCallP (p1 fInt) (eCons (eBin pAdd (eBin pAdd (eBin pMul (eVar 2) (eC (.int c5))) (eBin pMul (eC (.int c6)) (eVar 1))) (eC (.int c7))) eNil)) (eC (.int c8))) eNil)))) sNext))
theorem source_eq : m__law_source = srcG 103 53 10 17 0 16807 10037 73 2147483237 := rfl
theorem t_sourceG {st : Store} {ns : List Int} {k : Nat} {c0 c1 c2 c3 c4 c5 c6 c7 c8 : Int} (h0 : -(2 ^ 64) < c0 ∧ c0 < 2 ^ 64) (h2 : 0 ≤ c3 ∧ c3 ≤ 1000 ∧ c2.natAbs ≤ 1000) (h5 : -(2 ^ 64) < c5 ∧ c5 < 2 ^ 64) (h6 : -(2 ^ 64) < c6 ∧ c6 < 2 ^ 64) (h8 : 0 < c8) :
    ∃ a b : Int, fm 2 3 (srcG c0 c1 c2 c3 c4 c5 c6 c7 c8) [.scr ns, .int k] st = .ok (.new [.int a, .int b]) st := by
  obtain ⟨B, _, hB⟩ := pPow_some (st := st) h2
  have m0 : ∀ a, pMul st (.int c0) (.int a) = some (.int (c0 * a)) := fun a => ev_mul' h0
  have m5 : ∀ a, pMul st (.int a) (.int c5) = some (.int (a * c5)) := fun a => ev_mul h5
  have m6 : ∀ a, pMul st (.int c6) (.int a) = some (.int (c6 * a)) := fun a => ev_mul' h6
  have m8 : ∀ a, pMod st (.int a) (.int c8) = some (.int (a % c8)) := fun a => ev_mod h8
  unfold srcG
  by_cases h : k < ns.length
  · generalize hc : (if ns[k] < 0 then -ns[k] else ns[k]) = c
    by_cases h2 : B < c
    · exact ⟨c, (c * c5 + c6 * k + c7) % c8, by simp [fz_scr, pl_scr, len_scr, idx_scr, abs_int, hc, h, hB, h2, m0, m5, m6, m8, retD]⟩
    · exact ⟨c4, (c * c5 + c6 * k + c7) % c8, by simp [fz_scr, pl_scr, len_scr, idx_scr, abs_int, hc, h, hB, h2, m0, m5, m6, m8, retD]⟩
  · by_cases h2 : B < c0 * k + c1
    · exact ⟨c0 * k + c1, ((c0 * k + c1) * c5 + c6 * k + c7) % c8, by simp [fz_scr, pl_scr, len_scr, h, hB, h2, m0, m5, m6, m8, retD]⟩
    · exact ⟨c4, ((c0 * k + c1) * c5 + c6 * k + c7) % c8, by simp [fz_scr, pl_scr, len_scr, h, hB, h2, m0, m5, m6, m8, retD]⟩
theorem t_source {st : Store} {ns : List Int} {k : Nat} : ∃ a b : Int, F__law_source [.scr ns, .int k] st = .ok (.new [.int a, .int b]) st := by
  unfold F__law_source
  rw [source_eq]
  exact t_sourceG (by omega) (by omega) (by omega) (by omega) (by omega)
end DL.SH
namespace DL.SH
open PySem PySem.Spec PyProof.Rows L2 DL
def Abc (l : List Nat) : Prop := ∀ c ∈ l, c ∈ abc
def AbcX (l : List Nat) : Prop := ∀ c ∈ l, c ∈ abcX
theorem Abc.x {l : List Nat} (h : Abc l) : AbcX l := fun c hc => by
  have := h c hc
  simp [abc, abcX] at this ⊢
  omega
theorem t_choice_str {S0 : Store} {st : Store} {k : Nat} (L : List (List Nat)) (hs : Src S0 st k) (h0 : L ≠ []) (hl : L.length < 1000000) : ∃ w st', F__law_choice [.ref k, .lst (L.map .str)] st = .ok (.str w) st' ∧ w ∈ L ∧ Src S0 st' k := by
  obtain ⟨d, st', e, hd, s1⟩ := t_choice (ds := L.map .str) hs (by simpa using h0) (by simpa using hl)
  obtain ⟨w, hw, rfl⟩ := List.mem_map.mp hd
  exact ⟨w, st', e, hw, s1⟩
theorem t_choice_int {S0 : Store} {st : Store} {k : Nat} (L : List Int) (hs : Src S0 st k) (h0 : L ≠ []) (hl : L.length < 1000000) : ∃ w st', F__law_choice [.ref k, .lst (L.map .int)] st = .ok (.int w) st' ∧ w ∈ L ∧ Src S0 st' k := by
  obtain ⟨d, st', e, hd, s1⟩ := t_choice (ds := L.map .int) hs (by simpa using h0) (by simpa using hl)
  obtain ⟨w, hw, rfl⟩ := List.mem_map.mp hd
  exact ⟨w, st', e, hw, s1⟩
/-- a comprehension of choices -/
theorem t_choices {S0 : Store} {ρ : Env_} {k i : Nat} (L : List (List Nat)) {ml : EM} (h0 : L ≠ []) (hl : L.length < 1000000) (hi : i ≠ 0) (hρ : ρ[0]? = some (some (.ref k))) (hm : ∀ ρ st, ml ρ st = .ok (.new (L.map .str)) st)
    (xs : List D) (hx : ∀ x ∈ xs, plain x = true) (hn : xs.length ≤ 1000000) {st : Store} (hs : Src S0 st k) :
    ∃ (ls : List (List Nat)) (st' : Store), compS (gName i) tYes (eFn F__law_choice (eCons (eVar 0) (eCons ml eNil))) ρ xs [] st = .ok (ls.map .str) st' ∧ (∀ w ∈ ls, w ∈ L) ∧ ls.length = xs.length ∧ Src S0 st' k := by
  obtain ⟨ds, st', e, ⟨s1, ls, e1, e2, e3⟩⟩ := compS_all (g := gName i) (t := tYes) (me := eFn F__law_choice (eCons (eVar 0) (eCons ml eNil))) (ρ := ρ)
    (fun r acc st => Src S0 st k ∧ ∃ ls : List (List Nat), acc = ls.map .str ∧ (∀ w ∈ ls, w ∈ L) ∧ ls.length + r.length = xs.length ∧ ∀ x ∈ r, plain x = true)
    (fun x r acc st ⟨h1, ls, h2, h3, h4, h5⟩ => by
      obtain ⟨w, st2, e, hw, s2⟩ := t_choice_str L h1 h0 hl
      refine ⟨ρ.set i (some x), .str w, st2, if_pos (h5 x (List.mem_cons_self ..)), rfl, ?_, rfl, ?_, s2, ls ++ [w], ?_, ?_, ?_, fun y hy => h5 y (List.mem_cons_of_mem _ hy)⟩
      · simp [hρ, hi, hm, e]
      · subst h2
        simp only [List.length_cons, List.length_map] at h4 ⊢
        omega
      · subst h2; simp
      · intro v hv
        rcases List.mem_append.mp hv with hv | hv
        · exact h3 v hv
        · rw [List.mem_singleton.mp hv]; exact hw
      · simp only [List.length_cons, List.length_append, List.length_nil] at h4 ⊢
        omega) xs [] st ⟨hs, [], rfl, by simp, by simp, hx⟩
  simp only [List.length_nil, Nat.add_zero] at e3
  exact ⟨ls, st', by rw [e, e1], e2, e3.1, s1⟩
theorem rng_plain {a b : Int} {xs : List D} (h : rngL a b = some xs) : ∀ x ∈ xs, plain x = true := by
  unfold rngL at h
  split at h
  · cases h
    intro x hx
    obtain ⟨j, _, rfl⟩ := List.mem_map.mp hx
    rfl
  · cases h
theorem rng_to {n : Nat} (h : n ≤ 1000000) : rng1 [.int n] = some ((List.range n).map fun (j : Nat) => .int (j : Int)) := by
  show rngL 0 n = _
  unfold rngL
  rw [if_pos (by omega)]
  simp
theorem flat_abc {ls L : List (List Nat)} {P : Nat → Prop} (h : ∀ w ∈ ls, w ∈ L) (hL : ∀ w ∈ L, ∀ c ∈ w, P c) : ∀ c ∈ ls.flatten, P c := fun c hc => by
  obtain ⟨w, hw, hcw⟩ := List.mem_flatten.mp hc
  exact hL w (h w hw) c hcw
theorem flat_len1 {ls L : List (List Nat)} (h : ∀ w ∈ ls, w ∈ L) (hL : ∀ w ∈ L, w.length = 1) : ls.flatten.length = ls.length ∧ (ls.map List.length).sum = ls.length := by
  induction ls with
  | nil => simp
  | cons a ls ih =>
    have h1 := hL a (h a (by simp))
    have h2 := ih fun w hw => h w (by simp [hw])
    simp [h1, h2.1, h2.2, Nat.add_comm]
theorem t_template' {S0 : Store} {st : Store} {k m : Nat} (hs : Src S0 st k) (hm : m ≤ 1000) : ∃ w st', F__law_template [.ref k, .int m] st = .ok (.str w) st' ∧ AbcX w ∧ w.length ≤ m ∧ Src S0 st' k := by
  obtain ⟨r, st1, e1, r0, r1, s1⟩ := t_draw (m := (m : Int) + 1) hs (by omega) (by omega)
  obtain ⟨j, rfl⟩ := Int.eq_ofNat_of_zero_le r0
  have hr := rng_to (n := j) (by omega)
  obtain ⟨ls, st2, e2, hL, hn, s2⟩ := t_choices (ρ := [some (.ref k), some (.int m), none]) (i := 2) (ml := (eLst (eCons (eC (.str [97])) (eCons (eC (.str [97])) (eCons (eC (.str [98])) (eCons (eC (.str [99])) (eCons (eC (.str [88])) (eCons (eC (.str [88])) eNil))))))))
    [[97], [97], [98], [99], [88], [88]] (by simp) (by simp) (by decide) rfl (fun _ _ => rfl) ((List.range j).map fun (j : Nat) => .int (j : Int)) (by simp) (by simp; omega) s1
  have hf := flat_len1 hL (by simp)
  refine ⟨ls.flatten, st2, ?_, flat_abc hL (by simp [abcX]), ?_, s2⟩
  · unfold F__law_template m__law_template
    simp [e1, hr, wipeD, e2, join_lst (ls := ls) (st := st2) (by rw [hf.2, hn]; simp; omega), retD]
  · rw [hf.1, hn]; simp; omega
/-- a random word -/
theorem t_word {S0 : Store} {st : Store} {k a b : Nat} (hs : Src S0 st k) (hab : a ≤ b) (hb : b ≤ 1000) : ∃ w st', F__law_word [.ref k, .int a, .int b] st = .ok (.str w) st' ∧ Abc w ∧ a ≤ w.length ∧ w.length ≤ b ∧ Src S0 st' k := by
  obtain ⟨r, st1, e1, r0, r1, s1⟩ := t_draw (m := (b : Int) - (a : Int) + 1) hs (by omega) (by omega)
  obtain ⟨j, rfl⟩ := Int.eq_ofNat_of_zero_le r0
  obtain ⟨root, st2, e2, hroot, s2⟩ := t_choice_str [[97], [97, 98], [97, 97, 98], [98, 97], [97, 98, 99], [98], [97, 98, 97]] s1 (by simp) (by simp)
  obtain ⟨z, st3, e3, z0, z1, s3⟩ := t_draw (m := 3) s2 (by omega) (by omega)
  have hlen : 1 ≤ root.length ∧ root.length ≤ 3 ∧ Abc root := by
    simp only [List.mem_cons, List.not_mem_nil, or_false] at hroot
    rcases hroot with rfl | rfl | rfl | rfl | rfl | rfl | rfl <;> exact ⟨by decide, by decide, by unfold Abc; decide⟩
  obtain ⟨l1, l2, l3⟩ := hlen
  simp only [List.map] at e2
  by_cases hz : 0 < z
  · have hd := ev_div (st := st3) (a := (a : Int) + j) (b := (root.length : Int)) (by omega)
    have hq0 : 0 ≤ ((a : Int) + j) / (root.length : Int) := Int.ediv_nonneg (by omega) (by omega)
    have hq1 : ((a : Int) + j) / (root.length : Int) ≤ (a : Int) + j := Int.ediv_le_self _ (by omega)
    have hq2 := Int.lt_ediv_add_one_mul_self ((a : Int) + j) (show 0 < (root.length : Int) by omega)
    generalize ((a : Int) + j) / (root.length : Int) = q at hd hq0 hq1 hq2
    have hmul := mul_str (st := st3) (l := root) (k := q + 1) (by omega) (by omega) (by omega)
    have hlr : (repL (q + 1).toNat root).length = (q + 1).toNat * root.length := len_repL ..
    have hbig : a + j ≤ (repL (q + 1).toNat root).length := by
      rw [hlr]
      have e4 : (((q + 1).toNat * root.length : Nat) : Int) = (q + 1) * root.length := by
        rw [Int.natCast_mul, Int.toNat_of_nonneg (by omega)]
      omega
    refine ⟨(repL (q + 1).toNat root).take (a + j), st3, ?_, fun c hc => l3 c (mem_repL (List.mem_of_mem_take hc)), ?_, ?_, s3⟩
    · unfold F__law_word m__law_word
      have hc := cut_to (repL (q + 1).toNat root) (i := (a : Int) + j) (by omega)
      rw [show ((a : Int) + j).toNat = a + j by omega] at hc
      simp [e1, e2, e3, hz, pLen, lenV, cellL, D.vw, hd, hmul, sliceV_str, hc, retD]
    · rw [List.length_take]; omega
    · rw [List.length_take]; omega
  · have hr := rng_to (n := a + j) (by omega)
    simp only [Int.natCast_add] at hr
    obtain ⟨ls, st4, e4, hL, hn, s4⟩ := t_choices (ρ := [some (.ref k), some (.int a), some (.int b), some (.int (a + j)), some (.str root), none]) (i := 5) (ml := (eLst (eCons (eC (.str [97])) (eCons (eC (.str [97])) (eCons (eC (.str [98])) (eCons (eC (.str [99])) eNil))))))
      [[97], [97], [98], [99]] (by simp) (by simp) (by decide) rfl (fun _ _ => rfl) ((List.range (a + j)).map fun (j : Nat) => .int (j : Int)) (by simp) (by simp; omega) s3
    have hf := flat_len1 hL (by simp)
    refine ⟨ls.flatten, st4, ?_, flat_abc hL (by simp [abc]), ?_, ?_, s4⟩
    · unfold F__law_word m__law_word
      simp [e1, e2, e3, hz, hr, wipeD, e4, join_lst (ls := ls) (st := st4) (by rw [hf.2, hn]; simp; omega), retD]
    · rw [hf.1, hn]; simp
    · rw [hf.1, hn]; simp; omega
end DL.SH
namespace DL.SH
open PySem PySem.Spec PyProof.Rows L2 DL
/-! ### facts -/
inductive Fact where
  | same (a b : List Nat) | begins (w : List Nat) | ends (w : List Nat) | least (n : Nat) | most (n : Nat)
  deriving DecidableEq
abbrev wSame : List Nat := [115, 97, 109, 101]
abbrev wBegins : List Nat := [98, 101, 103, 105, 110, 115]
abbrev wEnds : List Nat := [101, 110, 100, 115]
abbrev wLeast : List Nat := [108, 101, 97, 115, 116]
abbrev wMost : List Nat := [109, 111, 115, 116]
def Fact.d : Fact → D
  | .same a b => .tup [.str wSame, .str a, .str b]
  | .begins w => .tup [.str wBegins, .str w]
  | .ends w => .tup [.str wEnds, .str w]
  | .least n => .tup [.str wLeast, .int n]
  | .most n => .tup [.str wMost, .int n]
def Fact.ok : Fact → Prop
  | .same a b => AbcX a ∧ a.length ≤ 16 ∧ AbcX b ∧ b.length ≤ 16
  | .begins w => Abc w ∧ 1 ≤ w.length ∧ w.length ≤ 8
  | .ends w => Abc w ∧ 1 ≤ w.length ∧ w.length ≤ 8
  | .least n => n ≤ 60
  | .most n => n ≤ 60
theorem d_same (a b : List Nat) : (Fact.same a b).d = .tup [.str wSame, .str a, .str b] := rfl
theorem d_begins (w : List Nat) : (Fact.begins w).d = .tup [.str wBegins, .str w] := rfl
theorem d_ends (w : List Nat) : (Fact.ends w).d = .tup [.str wEnds, .str w] := rfl
theorem d_least (n : Nat) : (Fact.least n).d = .tup [.str wLeast, .int n] := rfl
theorem d_most (n : Nat) : (Fact.most n).d = .tup [.str wMost, .int n] := rfl
theorem Fact.plain (f : Fact) : plain f.d = true := by cases f <;> rfl
theorem Fact.frz (f : Fact) : frz f.d = f.d := by cases f <;> rfl
theorem Fact.retD (f : Fact) : retD f.d = f.d := by cases f <;> rfl
theorem isStr_of {S l : List Nat} {lo hi : Int} (h : ∀ c ∈ l, c ∈ S) (h1 : lo ≤ l.length) (h2 : (l.length : Int) ≤ hi) : isStr S lo hi (.str l) = true := by
  simp only [isStr, h1, h2, decide_true, Bool.true_and, List.all_eq_true, decide_eq_true_eq]
  exact h
theorem Fact.isFact {f : Fact} (h : f.ok) : isFact f.d = true := by
  cases f with
  | same a b =>
    obtain ⟨h1, h2, h3, h4⟩ := h
    simp [Fact.d, SH.isFact, isStr_of h1 (show (0 : Int) ≤ _ by omega) (show _ ≤ (16 : Int) by omega), isStr_of h3 (show (0 : Int) ≤ _ by omega) (show _ ≤ (16 : Int) by omega)]
  | begins w =>
    obtain ⟨h1, h2, h3⟩ := h
    simp [Fact.d, SH.isFact, isStr_of h1 (show (1 : Int) ≤ _ by omega) (show _ ≤ (8 : Int) by omega)]
  | ends w =>
    obtain ⟨h1, h2, h3⟩ := h
    simp [Fact.d, SH.isFact, isStr_of h1 (show (1 : Int) ≤ _ by omega) (show _ ≤ (8 : Int) by omega)]
  | least n =>
    have h : n ≤ 60 := h
    simp [Fact.d, SH.isFact, isFrom]
    omega
  | most n =>
    have h : n ≤ 60 := h
    simp [Fact.d, SH.isFact, isFrom]
    omega
theorem Fact.okV {f : Fact} (h : f.ok) {n d : Nat} (hn : 16 ≤ n) : okV n (d + 1) f.d := by
  cases f with
  | same a b =>
    obtain ⟨h1, h2, h3, h4⟩ := h
    refine ⟨by simp; omega, fun x hx => ?_⟩
    simp only [List.mem_cons, List.not_mem_nil, or_false] at hx
    rcases hx with rfl | rfl | rfl <;> (cases d <;> simp [SH.okV] <;> omega)
  | begins w =>
    obtain ⟨h1, h2, h3⟩ := h
    refine ⟨by simp; omega, fun x hx => ?_⟩
    simp only [List.mem_cons, List.not_mem_nil, or_false] at hx
    rcases hx with rfl | rfl <;> (cases d <;> simp [SH.okV] <;> omega)
  | ends w =>
    obtain ⟨h1, h2, h3⟩ := h
    refine ⟨by simp; omega, fun x hx => ?_⟩
    simp only [List.mem_cons, List.not_mem_nil, or_false] at hx
    rcases hx with rfl | rfl <;> (cases d <;> simp [SH.okV] <;> omega)
  | least k =>
    refine ⟨by simp; omega, fun x hx => ?_⟩
    simp only [List.mem_cons, List.not_mem_nil, or_false] at hx
    rcases hx with rfl | rfl <;> (cases d <;> simp [SH.okV] <;> omega)
  | most k =>
    refine ⟨by simp; omega, fun x hx => ?_⟩
    simp only [List.mem_cons, List.not_mem_nil, or_false] at hx
    rcases hx with rfl | rfl <;> (cases d <;> simp [SH.okV] <;> omega)
/-- a template with a stamp -/
def fill (t w : List Nat) : List Nat := t.flatMap fun c => if c = 88 then w else [c]
theorem replL_X (z : List Nat) : ∀ t : List Nat, StrLaws.replL [88] z t = fill t z
  | [] => StrLaws.replL_nil
  | c :: r => by
    by_cases h : c = 88
    · subst h
      rw [StrLaws.replL_hit (by simp) (by simp)]
      simp [fill, replL_X z r]
    · rw [StrLaws.replL_miss (by simp [h]), replL_X z r]
      simp [fill, h]
theorem fill_mem {t w S : List Nat} (ht : AbcX t) (hw : Abc w) : Abc (fill t w) := fun c hc => by
  obtain ⟨x, hx, hcx⟩ := List.mem_flatMap.mp hc
  by_cases h : x = 88
  · rw [if_pos h] at hcx; exact hw c hcx
  · rw [if_neg h] at hcx
    have e : c = x := by simpa using hcx
    subst e
    have := ht c hx
    simp [abc, abcX] at this ⊢
    omega
theorem fill_len (t w : List Nat) : (fill t w).length ≤ t.length * (w.length + 1) := by
  induction t with
  | nil => simp [fill]
  | cons c r ih =>
    have e : fill (c :: r) w = (if c = 88 then w else [c]) ++ fill r w := rfl
    rw [e, List.length_append, List.length_cons, Nat.succ_mul]
    split <;> simp <;> omega
theorem repl_X {a z : List Nat} (h : Abc z) (hl : a.length + (a.length + 1) * z.length ≤ 16777216) : replD (.str a) a [88] z = some (.str (fill a z)) := by
  rw [replD_str (fun e => by have := h 88 (by rw [e]; simp); simp [abc] at this) (by simp) hl, replL_X]
end DL.SH
namespace DL.SH
open PySem PySem.Spec PyProof.Rows L2 DL
theorem AbcX.app {a b : List Nat} (h : AbcX a) (k : AbcX b) : AbcX (a ++ b) := fun c hc => (List.mem_append.mp hc).elim (h c) (k c)
theorem AbcX.rev {a : List Nat} (h : AbcX a) : AbcX a.reverse := fun c hc => h c (List.mem_reverse.mp hc)
theorem Abc.take {a : List Nat} (h : Abc a) (n : Nat) : Abc (a.take n) := fun c hc => h c (List.mem_of_mem_take hc)
theorem Abc.drop {a : List Nat} (h : Abc a) (n : Nat) : Abc (a.drop n) := fun c hc => h c (List.mem_of_mem_drop hc)
theorem Abc.app {a b : List Nat} (h : Abc a) (k : Abc b) : Abc (a ++ b) := fun c hc => (List.mem_append.mp hc).elim (h c) (k c)
@[simp] theorem retD_retD (d : D) : retD (retD d) = retD d := by cases d <;> rfl
theorem sliceV_s {l : List Nat} {a b : Option Int} : sliceV (.str l) a b = some (.str (cutD l a b)) := sliceV_str ..
theorem t_same {S0 : Store} {st : Store} {k : Nat} (hs : Src S0 st k) : ∃ a b st', F__law_same [.ref k] st = .ok (Fact.same a b).d st' ∧ (Fact.same a b).ok ∧ Src S0 st' k := by
  obtain ⟨way, st1, e1, w0, w1, s1⟩ := t_draw (m := 5) hs (by omega) (by omega)
  by_cases hw : way = 0
  · obtain ⟨a, st2, e2, ha, la, s2⟩ := t_template' (m := 5) s1 (by omega)
    obtain ⟨b, st3, e3, hb, lb, s3⟩ := t_template' (m := 5) s2 (by omega)
    refine ⟨a, b, st3, ?_, ⟨ha, by omega, hb, by omega⟩, s3⟩
    simp only [Int.cast_ofNat_Int] at e2 e3
    unfold F__law_same m__law_same
    simp [e1, hw, pEq, eqF, eqV, D.vw, e2, e3, Fact.d, retD]
  obtain ⟨stamp, st2, e2, hst, _, lst, s2⟩ := t_word (a := 0) (b := 5) s1 (by omega) (by omega)
  simp only [Int.cast_ofNat_Int] at e2
  obtain ⟨one, st3, e3, hone, s3⟩ := t_choice_str [[97, 88], [88], [97, 98, 88], [88, 88], [88, 97, 88], [98, 97, 88, 98], [88, 97, 98, 88]] s2 (by simp) (by simp)
  have hq : AbcX one ∧ one.length ≤ 4 ∧ (one.filter (· == 88)).length ≤ 2 := by
    simp only [List.mem_cons, List.not_mem_nil, or_false] at hone
    rcases hone with rfl | rfl | rfl | rfl | rfl | rfl | rfl <;> exact ⟨by unfold AbcX; decide, by decide, by decide⟩
  obtain ⟨q1, q2, q3⟩ := hq
  simp only [List.map] at e3
  by_cases h3 : way < 3
  · obtain ⟨root, st4, e4, hroot, s4⟩ := t_choice_str [[97], [97, 98], [97, 97, 98], [97, 98, 99]] s3 (by simp) (by simp)
    have hr : 1 ≤ root.length ∧ root.length ≤ 3 ∧ Abc root := by
      simp only [List.mem_cons, List.not_mem_nil, or_false] at hroot
      rcases hroot with rfl | rfl | rfl | rfl <;> exact ⟨by decide, by decide, by unfold Abc; decide⟩
    obtain ⟨l1, l2, l3⟩ := hr
    simp only [List.map] at e4
    obtain ⟨at_, st5, e5, a0, a1, s5⟩ := t_draw (m := (root.length : Int)) s4 (by omega) (by omega)
    have c1 := cut_from root a0
    have c2 := cut_to root a0
    have ht : AbcX (root.drop at_.toNat ++ root.take at_.toNat) := ((l3.drop _).app (l3.take _)).x
    have hl : (root.drop at_.toNat ++ root.take at_.toNat).length = root.length := by
      rw [List.length_append, List.length_drop, List.length_take]; omega
    have ad : ∀ st, pAdd st (.str (root.drop at_.toNat)) (.str (root.take at_.toNat)) = some (.str (root.drop at_.toNat ++ root.take at_.toNat)) := fun st => add_str (by rw [← List.length_append]; omega)
    generalize root.drop at_.toNat ++ root.take at_.toNat = turned at ht hl ad
    have b1 : ∀ st, pAdd st (.str root) (.str [88]) = some (.str (root ++ [88])) := fun st => add_str (by simp; omega)
    have b2 : ∀ st, pAdd st (.str [88]) (.str turned) = some (.str (88 :: turned)) := fun st => add_str (by simp; omega)
    have b3 : ∀ st, pAdd st (.str root) (.str [88, 88]) = some (.str (root ++ [88, 88])) := fun st => add_str (by simp; omega)
    have b4 : ∀ st, pAdd st (.str [88, 88]) (.str turned) = some (.str (88 :: 88 :: turned)) := fun st => add_str (by simp; omega)
    have b5 : ∀ st, pAdd st (.str (88 :: turned)) (.str [88]) = some (.str (88 :: (turned ++ [88]))) := fun st => add_str (by simp; omega)
    have x1 : AbcX [88] := by unfold AbcX; decide
    have x2 : AbcX [88, 88] := by unfold AbcX; decide
    obtain ⟨d, st6, e6, hd, s6⟩ := t_choice (ds := [(Fact.same (root ++ [88]) (88 :: turned)).d, (Fact.same (root ++ [88, 88]) (88 :: 88 :: turned)).d, (Fact.same (88 :: (turned ++ [88])) (root ++ [88, 88])).d]) s5 (by simp) (by simp)
    have key : F__law_same [.ref k] st = .ok (retD d) st6 := by
      unfold F__law_same m__law_same
      have q : ∀ st, pAdd st (.lst [(Fact.same (root ++ [88]) (88 :: turned)).d, (Fact.same (root ++ [88, 88]) (88 :: 88 :: turned)).d]) (.new [(Fact.same (88 :: (turned ++ [88])) (root ++ [88, 88])).d]) = some (.new [(Fact.same (root ++ [88]) (88 :: turned)).d, (Fact.same (root ++ [88, 88]) (88 :: 88 :: turned)).d, (Fact.same (88 :: (turned ++ [88])) (root ++ [88, 88])).d]) := fun st => add_lst_new (by simp)
      simp only [Fact.d] at q e6
      simp only [ev_fm, ev_start, List.length_cons, List.length_nil, ev_seq, ev_asg, ev_if, ev_ret, ev_fn, ev_cons, ev_var, ev_c, ev_nil, bind_ok, ev_ofe, then_nx, List.map, List.replicate]
      simp [e1, hw, h3, pEq, eqF, eqV, D.vw, e2, e3, e4, e5, pLen, lenV, cellL, sliceV_s, c1, c2, ad, b1, b2, b3, b4, b5, q, e6, retD_retD]
    simp only [List.mem_cons, List.not_mem_nil, or_false] at hd
    rcases hd with rfl | rfl | rfl
    · exact ⟨_, _, st6, key, ⟨l3.x.app x1, by simp; omega, (x1.app ht : AbcX (88 :: turned)), by simp; omega⟩, s6⟩
    · exact ⟨_, _, st6, key, ⟨l3.x.app x2, by simp; omega, (x2.app ht : AbcX (88 :: 88 :: turned)), by simp; omega⟩, s6⟩
    · exact ⟨_, _, st6, key, ⟨((x1.app ht).app x1 : AbcX (88 :: (turned ++ [88]))), by simp; omega, l3.x.app x2, by simp; omega⟩, s6⟩
  · by_cases h4 : way = 3
    · have hr := repl_X (a := one) hst (Nat.le_trans (Nat.add_le_add q2 (Nat.mul_le_mul (Nat.succ_le_succ q2) lst)) (by decide))
      refine ⟨one, fill one stamp, st3, ?_, ⟨q1, by omega, (fill_mem (S := abc) q1 hst).x, ?_⟩, s3⟩
      · unfold F__law_same m__law_same
        simp [e1, h4, pEq, eqF, eqV, D.vw, e2, e3, hr, Fact.d, retD]
      · simp only [List.mem_cons, List.not_mem_nil, or_false] at hone
        rcases hone with rfl | rfl | rfl | rfl | rfl | rfl | rfl <;> simp [fill] <;> omega
    · refine ⟨one, one.reverse, st3, ?_, ⟨q1, by omega, q1.rev, by simp; omega⟩, s3⟩
      unfold F__law_same m__law_same
      have h5 : ¬ (way < 3) := h3
      simp [e1, hw, h3, h4, pEq, eqF, eqV, D.vw, e2, e3, Fact.d, retD, revV]
end DL.SH
namespace DL.SH
open PySem PySem.Spec PyProof.Rows L2 DL
/-- facts as a value -/
def fsD (fs : List Fact) : D := .tup (fs.map Fact.d)
def okAll (fs : List Fact) : Prop := ∀ f ∈ fs, f.ok
/-- the first one ties -/
def tied1 (fs : List Fact) : Prop := ∃ a b r, fs = .same a b :: r ∧ a ≠ b
theorem min60 {st : Store} (a : Int) : pMin2 st [.int 60, .int a] = some (.int (if a < 60 then a else 60)) := rfl
theorem t_facts_turn {S0 : Store} {st : Store} {k : Nat} (hs : Src S0 st k) (m : Int) (fs : List Fact) (hl : fs.length ≤ 1000) (t1 t2 t3 t4 : Option D) :
    ∃ f st' t2' t3' t4', b1__law_facts [some (.ref k), some (.int m), some (fsD fs), t1, t2, t3, t4] st = .go .nx [some (.ref k), some (.int m), some (fsD (fs ++ [f])), t1, t2', t3', t4'] st' ∧ f.ok ∧ Src S0 st' k := by
  obtain ⟨w, st1, e1, w1, w2, w3, s1⟩ := t_word (a := 1) (b := 3) hs (by omega) (by omega)
  simp only [Int.cast_ofNat_Int] at e1
  obtain ⟨n, st2, e2, hn, s2⟩ := t_choice_int [0, 1, 2, 3, 5, 8, 60] s1 (by simp) (by simp)
  simp only [List.map] at e2
  obtain ⟨a, b, st3, e3, o3, s3⟩ := t_same s2
  have hn' : 0 ≤ n ∧ n ≤ 60 := by
    simp only [List.mem_cons, List.not_mem_nil, or_false] at hn
    omega
  obtain ⟨j, rfl⟩ := Int.eq_ofNat_of_zero_le hn'.1
  obtain ⟨d, st4, e4, hd, s4⟩ := t_choice (ds := [(Fact.begins w).d, (Fact.ends w).d, (Fact.least j).d, .tup [.str wMost, .int (if (j : Int) + 4 < 60 then (j : Int) + 4 else 60)], (Fact.same a b).d]) s3 (by simp) (by simp)
  have hd' : ∃ f : Fact, d = f.d ∧ f.ok := by
    simp only [List.mem_cons, List.not_mem_nil, or_false] at hd
    rcases hd with rfl | rfl | rfl | rfl | rfl
    · exact ⟨_, rfl, w1, by omega, by omega⟩
    · exact ⟨_, rfl, w1, by omega, by omega⟩
    · exact ⟨_, rfl, by have := hn'.2; show j ≤ 60; omega⟩
    · refine ⟨.most (if j + 4 < 60 then j + 4 else 60), ?_, ?_⟩
      · simp only [Fact.d]
        by_cases h : j + 4 < 60
        · rw [if_pos (by omega), if_pos h]; rfl
        · rw [if_neg (by omega), if_neg h]; rfl
      · show (if j + 4 < 60 then j + 4 else 60) ≤ 60
        split <;> omega
    · exact ⟨_, rfl, o3⟩
  obtain ⟨f, rfl, hf⟩ := hd'
  rw [f.retD] at e4
  have e3' : F__law_same [.ref k] st2 = .ok (.tup [.str wSame, .str a, .str b]) st3 := e3
  have q := add_tup (st := st4) (a := fs.map Fact.d) (b := [f.d]) (by simp; omega)
  refine ⟨f, st4, some (.str w), some (.int j), some (.lst [(Fact.begins w).d, (Fact.ends w).d, (Fact.least j).d, .tup [.str wMost, .int (if (j : Int) + 4 < 60 then (j : Int) + 4 else 60)], (Fact.same a b).d]), ?_, hf, s4⟩
  unfold b1__law_facts
  simp only [d_begins, d_ends, d_least, d_same] at e4
  simp [e1, e2, e3', min60, fsD, f.frz, f.plain, q, d_begins, d_ends, d_least, d_same, e4]
theorem rng_len {n : Nat} (h : n ≤ 1000000) : ∃ xs, rng1 [.int n] = some xs ∧ xs.length = n ∧ ∀ x ∈ xs, plain x = true :=
  ⟨_, rng_to h, by simp, fun x hx => by obtain ⟨j, _, rfl⟩ := List.mem_map.mp hx; rfl⟩
theorem eq_str {st : Store} {a b : List Nat} : pEq st (.str a) (.str b) = some (.bl (a == b)) := rfl
theorem t_drawn {S0 : Store} {st : Store} {k m : Nat} (hs : Src S0 st k) (hm : 1 ≤ m) (hm2 : m ≤ 100) : ∃ fs st', F__law_facts [.ref k, .int m] st = .ok (fsD fs) st' ∧ okAll fs ∧ tied1 fs ∧ fs.length ≤ m ∧ Src S0 st' k := by
  obtain ⟨a, b, st1, e1, o1, s1⟩ := t_same hs
  -- the first fact
  obtain ⟨a', b', hab, o1', hfirst⟩ : ∃ a' b', a' ≠ b' ∧ (Fact.same a' b').ok ∧ (a' = a ∧ b' = b ∨ a = b ∧ a' = [97, 98, 88] ∧ b' = [88, 98, 97]) := by
    by_cases h : a = b
    · exact ⟨[97, 98, 88], [88, 98, 97], by decide, ⟨by unfold AbcX; decide, by decide, by unfold AbcX; decide, by decide⟩, .inr ⟨h, rfl, rfl⟩⟩
    · exact ⟨a, b, h, o1, .inl ⟨rfl, rfl⟩⟩
  obtain ⟨r, st2, e2, r0, r1, s2⟩ := t_draw (m := (m : Int)) s1 (by omega) (by omega)
  obtain ⟨j, rfl⟩ := Int.eq_ofNat_of_zero_le r0
  obtain ⟨xs, hx1, hx2, hx3⟩ := rng_len (n := j) (by omega)
  have loop := loop_all (g := gName 3) (body := b1__law_facts)
    (fun r ρ st => Src S0 st k ∧ ∃ fs t1 t2 t3 t4, ρ = [some (.ref k), some (.int m), some (fsD fs), t1, t2, t3, t4] ∧ okAll fs ∧ (∃ q, fs = .same a' b' :: q) ∧ fs.length + r.length ≤ m ∧ ∀ x ∈ r, plain x = true)
    (fun x r ρ st ⟨i1, fs, t1, t2, t3, t4, i2, i3, i4, i5, i6⟩ => by
      subst i2
      simp only [List.length_cons] at i5
      obtain ⟨f, st', u2, u3, u4, q1, q2, q3⟩ := t_facts_turn i1 m fs (by omega) (some x) t2 t3 t4
      refine ⟨_, _, st', if_pos (i6 x (List.mem_cons_self ..)), q1, q3, fs ++ [f], some x, u2, u3, u4, rfl, fun g hg => ?_, ?_, ?_, fun y hy => i6 y (List.mem_cons_of_mem _ hy)⟩
      · rcases List.mem_append.mp hg with hg | hg
        · exact i3 g hg
        · rw [List.mem_singleton.mp hg]; exact q2
      · obtain ⟨q, hq⟩ := i4; exact ⟨q ++ [f], by rw [hq]; rfl⟩
      · rw [List.length_append, List.length_singleton]; omega)
    xs [some (.ref k), some (.int m), some (fsD [.same a' b']), none, none, none, none] st2
    ⟨s2, [.same a' b'], none, none, none, none, rfl, fun f hf => by rw [List.mem_singleton.mp hf]; exact o1', ⟨[], rfl⟩, by simp only [List.length_singleton, hx2]; omega, hx3⟩
  obtain ⟨ρ', st', q1, q2, fs, t1, t2, t3, t4, rfl, q3, ⟨q, q4⟩, q5, _⟩ := loop
  refine ⟨fs, st', ?_, q3, ⟨a', b', q, q4, hab⟩, by simpa using q5, q2⟩
  have e1' : F__law_same [.ref k] st = .ok (.tup [.str wSame, .str a, .str b]) st1 := e1
  have q1' : loopS (gName 3) b1__law_facts xs [some (.ref k), some (.int m), some (.tup [.tup [.str wSame, .str a', .str b']]), none, none, none, none] st2 = .go .nx [some (.ref k), some (.int m), some (fsD fs), t1, t2, t3, t4] st' := q1
  unfold F__law_facts m__law_facts
  rcases hfirst with ⟨rfl, rfl⟩ | ⟨rfl, rfl, rfl⟩
  · simp [e1', pIdx, itemV, cellL, D.vw, show seqIndex? 0 1 = some 0 from rfl, eq_str, hab, e2, hx1, q1', fsD, retD]
  · simp [e1', pIdx, itemV, cellL, D.vw, show seqIndex? 0 1 = some 0 from rfl, eq_str, e2, hx1, q1', fsD, retD]
end DL.SH
namespace DL.SH
open PySem PySem.Spec PyProof.Rows L2 DL
theorem t_newsrc {S0 : Store} {ρ : Env_} {st : Store} {i ki k : Nat} {ns : List Int} (hS : Keeps S0 st) (h0 : ρ[0]? = some (some (.scr ns))) (hk : ρ[ki]? = some (some (.int k))) :
    ∃ st', sAsgC i (eFn F__law_source (eCons (eVar 0) (eCons (eVar ki) eNil))) ρ st = .go .nx (ρ.set i (some (.ref st.length))) st' ∧ Src S0 st' st.length := by
  obtain ⟨a, b, e⟩ := t_source (st := st) (ns := ns) (k := k)
  refine ⟨st ++ [.lst [.int a, .int b]], ?_, ⟨a, b, by simp⟩, hS.len, hS.app _⟩
  unfold sAsgC
  simp [h0, hk, fz_scr, pl_scr, e, newL]
theorem ev_par {is : List Nat} {ml : EL} {ρ : Env_} {st : Store} : sPar is ml ρ st = RS.ofE ρ (ml ρ st) fun ds st1 => rsO st1 (setAll is ds ρ) := rfl
theorem okV_fsD {fs : List Fact} (h : okAll fs) {n d : Nat} (hn : 16 ≤ n) (hl : fs.length ≤ n) : okV n (d + 2) (fsD fs) :=
  ⟨by simpa using hl, fun x hx => by
    obtain ⟨f, hf, rfl⟩ := List.mem_map.mp hx
    exact Fact.okV (h f hf) hn⟩
/-- the cells that a law goes through -/
theorem t_range {ns : List Int} {st : Store} (m : Nat) (hm : m ≤ 1000) : ∃ b, pMin2 st [.int (ns.length : Int), .int (m : Int)] = some (.int b) ∧ ∃ xs, rng1 [.int (1 + b)] = some xs ∧ ∀ x ∈ xs, ∃ j : Nat, x = .int (j : Int) := by
  have e : pMin2 st [.int (ns.length : Int), .int (m : Int)] = some (.int (if (m : Int) < ns.length then (m : Int) else ns.length)) := rfl
  have hb : ∃ k : Nat, k ≤ 1000 ∧ (if (m : Int) < ns.length then (m : Int) else ns.length) = k := by
    split
    · exact ⟨m, hm, rfl⟩
    · exact ⟨ns.length, by omega, rfl⟩
  obtain ⟨k, h1, h2⟩ := hb
  refine ⟨_, e, (List.range (k + 1)).map fun (j : Nat) => .int (j : Int), ?_, fun x hx => ?_⟩
  · rw [h2, show (1 : Int) + (k : Int) = ((k + 1 : Nat) : Int) by omega, rng_to (by omega)]
  · obtain ⟨j, _, rfl⟩ := List.mem_map.mp hx
    exact ⟨j, rfl⟩
end DL.SH
namespace DL
open PySem PySem.Spec PyProof.Rows L2
section
variable {ρ : Env_} {st : Store} {m ma mb : EM} {k : SM} {ex : Ex} {d : D} {i : Nat} {α : Type} {x : Str}
@[simp] theorem ev_drop : sDrop m ρ st = RS.ofE ρ (m ρ st) fun _ st1 => .go .nx ρ st1 := rfl
@[simp] theorem ev_raise : sRaise x ρ st = .exn ⟨x, none⟩ ρ st := rfl
@[simp] theorem ev_finX : finR (.exn ex ρ st) = .exn ex st := rfl
@[simp] theorem ev_finN : finR (.go .nx ρ st) = .ok .non st := rfl
@[simp] theorem ev_thenX : (RS.exn ex ρ st).then k = .exn ex ρ st := rfl
@[simp] theorem ev_ofX {h : α → Store → RS} : RS.ofE ρ (.exn ex st) h = .exn ex ρ st := rfl
@[simp] theorem ev_neg : eNeg m ρ st = (m ρ st).bind fun d st1 => R.of (negD d) st1 := rfl
end
end DL
namespace DL.SH
open PySem PySem.Spec PyProof.Rows L2 DL
/-! ### what a value must be -/
abbrev exT : Ex := ⟨"InvalidTemplate", none⟩
abbrev exS : Ex := ⟨"InvalidStamp", none⟩
abbrev exF : Ex := ⟨"InvalidFacts", none⟩
theorem t_needT {st : Store} {n d : Nat} {v : D} (hn : n ≤ 100000) (hv : okV n d v) : F_need_template [v] st = if isStr abcX 0 16 v = true then .ok .non st else .exn exT st := by
  have h := t_template (st := st) hn hv
  unfold F_need_template m_need_template
  cases q : isStr abcX 0 16 v <;> simp [okV_frz hv, okV_plain hv, h, q]
theorem t_needS {st : Store} {n d : Nat} {v : D} (hn : n ≤ 100000) (hv : okV n d v) : F_need_stamp [v] st = if isStr abc 0 200 v = true then .ok .non st else .exn exS st := by
  have h := t_stamp (st := st) hn hv
  unfold F_need_stamp m_need_stamp
  cases q : isStr abc 0 200 v <;> simp [okV_frz hv, okV_plain hv, h, q]
theorem t_needF {st : Store} {n d : Nat} {v : D} (hn : n ≤ 100000) (hv : okV n d v) : F_need_facts [v] st = if isFacts v = true then .ok .non st else .exn exF st := by
  have h := t_has (st := st) hn hv
  unfold F_need_facts m_need_facts
  cases q : isFacts v <;> simp [okV_frz hv, okV_plain hv, h, q]
theorem t_pressed {st : Store} {a w : List Nat} (h : Abc w) (hl : a.length ≤ 16) (hw : w.length ≤ 100000) : F_pressed [.str a, .str w] st = .ok (.str (fill a w)) st := by
  have q := repl_X (a := a) h (by
    have : (a.length + 1) * w.length ≤ 17 * 100000 := Nat.mul_le_mul (by omega) hw
    omega)
  unfold F_pressed m_pressed
  simp [q, retD]
/-- a stamp keeps a fact -/
def holdsB : Fact → List Nat → Bool
  | .same a b, w => fill a w == fill b w
  | .begins x, w => w.take x.length == x
  | .ends x, w => decide (x.length ≤ w.length) && w.drop (w.length - x.length) == x
  | .least n, w => decide (n ≤ w.length)
  | .most n, w => decide (w.length ≤ n)
theorem len_str {st : Store} {l : List Nat} : pLen st [.str l] = some (.int l.length) := rfl
theorem idx2_0 {st : Store} {a b : D} : pIdx st (.tup [a, b]) (.int 0) = some a := rfl
theorem idx2_1 {st : Store} {a b : D} : pIdx st (.tup [a, b]) (.int 1) = some b := rfl
theorem idx3_0 {st : Store} {a b c : D} : pIdx st (.tup [a, b, c]) (.int 0) = some a := rfl
theorem idx3_1 {st : Store} {a b c : D} : pIdx st (.tup [a, b, c]) (.int 1) = some b := rfl
theorem idx3_2 {st : Store} {a b c : D} : pIdx st (.tup [a, b, c]) (.int 2) = some c := rfl
theorem t_holds {st : Store} {f : Fact} {w : List Nat} (hf : f.ok) (h : Abc w) (hw : w.length ≤ 100000) : F_holds [f.d, .str w] st = .ok (.bl (holdsB f w)) st := by
  unfold F_holds m_holds
  cases f with
  | same a b =>
    obtain ⟨_, h2, _, h4⟩ := hf
    simp [d_same, idx3_0, idx3_1, idx3_2, eq_str, t_pressed h h2 hw, t_pressed h h4 hw, holdsB, retD]
  | begins x =>
    have c := cut_to w (i := (x.length : Int)) (by omega)
    simp [d_begins, idx2_0, idx2_1, eq_str, len_str, sliceV_s, c, holdsB, retD]
  | ends x =>
    by_cases hx : x.length ≤ w.length
    · have c := cut_from w (i := (w.length : Int) - (x.length : Int)) (by omega)
      rw [show ((w.length : Int) - (x.length : Int)).toNat = w.length - x.length by omega] at c
      simp [d_ends, idx2_0, idx2_1, eq_str, len_str, sliceV_s, c, hx, holdsB, retD]
    · simp [d_ends, idx2_0, idx2_1, eq_str, len_str, sliceV_s, hx, holdsB, retD]
  | least n => simp [d_least, idx2_0, idx2_1, eq_str, len_str, holdsB, retD]
  | most n => simp [d_most, idx2_0, idx2_1, eq_str, len_str, holdsB, retD]
theorem facts_true {fs : List Fact} (h : okAll fs) (h1 : 1 ≤ fs.length) (h2 : fs.length ≤ 6) : isFacts (fsD fs) = true := by
  have hall : (fs.map Fact.d).all SH.isFact = true := List.all_eq_true.mpr fun x hx => by
    obtain ⟨f, hf, rfl⟩ := List.mem_map.mp hx
    exact Fact.isFact (h f hf)
  simp only [fsD, isFacts, hall, Bool.and_true, List.length_map]
  rw [decide_eq_true (by omega), decide_eq_true (by omega)]
  rfl
/-- all facts are kept -/
def keepsB (fs : List Fact) (w : List Nat) : Bool := fs.all fun f => holdsB f w
theorem map_fact {fs : List Fact} {P : D → Prop} (h : ∀ f ∈ fs, P f.d) : ∀ x ∈ fs.map Fact.d, P x := fun x hx => by
  obtain ⟨f, hf, rfl⟩ := List.mem_map.mp hx
  exact h f hf
/-- a comprehension over facts, of truths -/
theorem comp_holds {ρ : Env_} {st : Store} {fs : List Fact} {w : List Nat} {i j : Nat} (hi : i < ρ.length) (hij : i ≠ j) (hj : ρ[j]? = some (some (.str w))) (ho : okAll fs) (h : Abc w) (hw : w.length ≤ 100000) (hl : fs.length ≤ 1000) :
    compS (gName i) tYes (eFn F_holds (eCons (eVar i) (eCons (eVar j) eNil))) ρ (fs.map Fact.d) [] st = .ok (fs.map fun f => .bl (holdsB f w)) st := by
  have key : ∀ (gs : List Fact) (acc : List D), (∀ f ∈ gs, f.ok) → acc.length + gs.length ≤ 1000 → compS (gName i) tYes (eFn F_holds (eCons (eVar i) (eCons (eVar j) eNil))) ρ (gs.map Fact.d) acc st = .ok (acc ++ gs.map fun f => .bl (holdsB f w)) st := by
    intro gs
    induction gs with
    | nil => intro acc _ _; simp [compS]
    | cons f gs ih =>
      intro acc h1 h2
      simp only [List.length_cons] at h2
      rw [List.map_cons]
      unfold compS
      rw [show gName i f.d ρ = some (ρ.set i (some f.d)) from if_pos f.plain]
      have e1 : (ρ.set i (some f.d))[i]? = some (some f.d) := List.getElem?_set_self hi
      have e2 : (ρ.set i (some f.d))[j]? = some (some (.str w)) := by rw [List.getElem?_set_ne hij]; exact hj
      simp only [tYes, quietR, bind_ok, if_true, ev_fn, ev_cons, ev_var, e1, e2, ev_nil, Option.bind_some, id, of_some, f.frz, ev_frz_str, List.all_cons, List.all_nil, f.plain, pl_str, Bool.and_self, Bool.and_true, t_holds (h1 f (List.mem_cons_self ..)) h hw, ev_frz_bl, pl_bl]
      rw [if_pos ⟨trivial, by omega⟩, ih (acc ++ [D.bl (holdsB f w)]) (fun g hg => h1 g (List.mem_cons_of_mem _ hg)) (by simp; omega)]
      simp
  simpa using key fs [] ho (by simpa using hl)
theorem all_bl {fs : List Fact} {st : Store} {w : List Nat} : p1 fAll st [.lst (fs.map fun f => .bl (holdsB f w))] = some (.bl (keepsB fs w)) := by
  have e : blsOf (fs.map fun f => .bl (holdsB f w)) = some (fs.map fun f => holdsB f w) := by rw [← blsOf_map, List.map_map]; rfl
  show fAll _ = _
  unfold fAll
  simp [onL, D.vw, e, keepsB, List.all_map, Function.comp_def]
theorem t_keeps {st : Store} {fs : List Fact} {w : List Nat} (ho : okAll fs) (h1 : 1 ≤ fs.length) (h2 : fs.length ≤ 6) (h : Abc w) (hw : w.length ≤ 200) : F_keeps [fsD fs, .str w] st = .ok (.bl (keepsB fs w)) st := by
  have f1 := t_needF (st := st) (n := 200) (d := 2) (by omega) (okV_fsD ho (by omega) (by omega))
  rw [facts_true ho h1 h2, if_pos rfl] at f1
  have f2 := t_needS (st := st) (n := 200) (d := 2) (v := .str w) (by omega) hw
  rw [isStr_of h (by omega) (by omega), if_pos rfl] at f2
  have hc := comp_holds (ρ := [some (fsD fs), some (.str w), none]) (st := st) (i := 2) (j := 1) (by simp) (by decide) rfl ho h (by omega) (by omega)
  have it : itemsV (fsD fs) = some (fs.map Fact.d) := rfl
  have p : plain (fsD fs) = true := rfl
  have z : frz (fsD fs) = fsD fs := rfl
  unfold F_keeps m_keeps
  simp [p, z, f1, f2, it, wipeD, hc, all_bl, retD]
end DL.SH
namespace DL
open PySem PySem.Spec PyProof.Rows L2
section
variable {ρ : Env_} {st st1 : Store} {d : D} {i j : Nat} {q : Str} {F : (Store → R D) → Store → R D} {mb : EM} {m : SM} {es : List Str} {hs : List (Str × SM)}
@[simp] theorem ev_unp {is : List Nat} {me : EM} : sUnp is me ρ st = RS.ofE ρ (me ρ st) fun d st1 => match d with
  | .tup ds => rsO st1 (setAll is ds ρ)
  | _ => .bad := rfl
@[simp] theorem ev_rng2 {ml : EL} : iRng2D ml ρ st = (ml ρ st).bind fun ds st1 => R.of (rng2 ds) st1 := rfl
@[simp] theorem ev_asgO {me : EM} : sAsgO i me ρ st = RS.ofE ρ (me ρ st) fun d st1 => match newL d with
  | some l => .go .nx (ρ.set i (some (.own i l))) st1
  | none => .bad := rfl
theorem ev_lam (h : st[j]? = some (.tbl q)) : eLam j q F mb ρ st = F (fun st' => mb (plainE ρ) st') st := by
  unfold eLam
  rw [h]
  exact if_pos rfl
theorem plainE_at (h : ρ[i]? = some (some d)) (p : plain d = true) : (plainE ρ)[i]? = some (some d) := by
  unfold plainE
  rw [List.getElem?_map, h]
  show some (Option.filter plain (some d)) = _
  rw [Option.filter_some, if_pos p]
@[simp] theorem ev_act {f : Addr} {th : Store → R D} : eAct 0 f th (some (.adr f) :: ρ) st = th st := if_pos rfl
@[simp] theorem ev_act0 {f : Addr} {th : Store → R D} {r : Option D} : eAct 0 f th [some (.adr f), r] st = th st := if_pos rfl
theorem ev_try_ok {fl : Fl} (h : m ρ st = .go fl ρ st1) : sTry es m hs ρ st = .go fl ρ st1 := by unfold sTry; rw [h]
theorem ev_try_exn {ex : Ex} {ρ1 : Env_} (h : m ρ st = .exn ex ρ1 st1) (he : ex.cls ∈ es) : sTry es m hs ρ st = pick hs ex ρ1 st1 := by unfold sTry; rw [h]; exact if_pos he
theorem pick_hit {x : Str} {k : SM} {r : List (Str × SM)} {o : Option (Str × Int)} : pick ((x, k) :: r) ⟨x, o⟩ ρ st = quietS (k ρ st) := by
  unfold pick
  rw [if_pos rfl]
theorem pick_miss {x y : Str} {k : SM} {r : List (Str × SM)} {o : Option (Str × Int)} (h : x ≠ y) : pick ((y, k) :: r) ⟨x, o⟩ ρ st = pick r ⟨x, o⟩ ρ st := by
  conv => lhs; unfold pick
  rw [if_neg h]
end
end DL
namespace DL.SH
open PySem PySem.Spec L2 DL
theorem loop_cons {g : AG} {body : SM} {x : D} {xs : List D} {ρ ρ1 : Env_} {st : Store} (h : g x ρ = some ρ1) : loopS g body (x :: xs) ρ st = aft (body ρ1 st) (loopS g body xs) := by
  conv => lhs; unfold loopS
  rw [h]
theorem rng_ints {n : Nat} (h : n ≤ 1000000) : ∃ xs, rng1 [.int n] = some xs ∧ xs.length = n ∧ ∀ x ∈ xs, ∃ j : Nat, x = .int (j : Int) :=
  ⟨_, rng_to h, by simp, fun x hx => by obtain ⟨j, _, rfl⟩ := List.mem_map.mp hx; exact ⟨j, rfl⟩⟩
theorem idx_tup {st : Store} {l : List D} {j : Nat} (h : j < l.length) : pIdx st (.tup l) (.int j) = some l[j] := by
  show itemV (.tup l) _ = _
  simp [itemV, D.vw, seqIx_of, h]
theorem idx_str {st : Store} {l : List Nat} {j : Nat} (h : j < l.length) : pIdx st (.str l) (.int j) = some (.str [l[j]]) := by
  show itemV (.str l) _ = _
  simp [itemV, D.vw, seqIx_of, h]
def okB (n : Nat) : Nat → D → Bool
  | _, .non => true
  | _, .bl _ => true
  | _, .int _ => true
  | _, .str l => decide (l.length ≤ n)
  | d + 1, .tup ds => decide (ds.length ≤ n) && ds.all (okB n d)
  | d + 1, .lst ds => decide (ds.length ≤ n) && ds.all (okB n d)
  | _, _ => false
theorem okB_ok {n : Nat} : ∀ {d : Nat} {v : D}, okB n d v = true → okV n d v
  | d, .non, _ => by cases d <;> trivial
  | d, .bl _, _ => by cases d <;> trivial
  | d, .int _, _ => by cases d <;> trivial
  | 0, .str l, h => by simpa [okB, okV] using h
  | d + 1, .str l, h => by simpa [okB, okV] using h
  | d + 1, .tup ds, h => by
    simp only [okB, Bool.and_eq_true, decide_eq_true_eq, List.all_eq_true] at h
    exact ⟨h.1, fun x hx => okB_ok (h.2 x hx)⟩
  | d + 1, .lst ds, h => by
    simp only [okB, Bool.and_eq_true, decide_eq_true_eq, List.all_eq_true] at h
    exact ⟨h.1, fun x hx => okB_ok (h.2 x hx)⟩
  | 0, .tup _, h => by simp [okB] at h
  | 0, .lst _, h => by simp [okB] at h
  | d, .cst _, h => by cases d <;> simp [okB] at h
  | d, .ust _, h => by cases d <;> simp [okB] at h
  | d, .new _, h => by cases d <;> simp [okB] at h
  | d, .own _ _, h => by cases d <;> simp [okB] at h
  | d, .scr _, h => by cases d <;> simp [okB] at h
  | d, .ref _, h => by cases d <;> simp [okB] at h
  | d, .fn _, h => by cases d <;> simp [okB] at h
  | d, .adr _, h => by cases d <;> simp [okB] at h
  | d, .dic _, h => by cases d <;> simp [okB] at h
theorem okL {L : List D} (h : L.all (okB 300 3) = true) : ∀ x ∈ L, okV 300 3 x := fun x hx => okB_ok (List.all_eq_true.mp h x hx)
theorem comp_rows {F : FM} {f : D → D} {i : Nat} {ρ : Env_} {st : Store} {L : List D} (hi : i < ρ.length) (hp : ∀ x ∈ L, plain x = true ∧ frz x = x ∧ F [x] st = .ok (f x) st ∧ plain (frz (f x)) = true) (hl : L.length ≤ 1000000) :
    compS (gName i) tYes (eFn F (eCons (eVar i) eNil)) ρ L [] st = .ok (L.map fun x => frz (f x)) st := by
  have := compS_pure (g := gName i) (t := tYes) (me := eFn F (eCons (eVar i) eNil)) (ρ := ρ) (st := st) (p := fun _ => true) (f := f) L [] (fun x hx => by
    obtain ⟨h1, h2, h3, h4⟩ := hp x hx
    exact ⟨_, if_pos h1, rfl, fun _ => ⟨by simp [hi, h1, h2, h3], h4⟩⟩) (by simpa using hl)
  rw [this, List.filter_eq_self.mpr (fun _ _ => rfl)]
  rfl
theorem mul_tup {st : Store} {l : List D} {k : Int} (h : l ≠ [] ∧ 2 ≤ k ∧ k ≤ 1000 ∧ l.length ≤ 1000) : pMul st (.tup l) (.int k) = some (.tup (repL k.toNat l)) := if_pos h
theorem ne_of {st : Store} {x y : D} {b : Bool} (h : eqF 50 x y = some b) : pNe st x y = some (.bl (!b)) := by unfold pNe; rw [h]; rfl
theorem eq_of_ {st : Store} {x y : D} {b : Bool} (h : eqF 50 x y = some b) : pEq st x y = some (.bl b) := by unfold pEq; rw [h]; rfl
theorem ne_str {st : Store} {a b : List Nat} : pNe st (.str a) (.str b) = some (.bl (!(a == b))) := rfl
theorem eq_emp {st : Store} {α : Type} {L : List α} {f : α → D} : pEq st (.new (L.map f)) (.new []) = some (.bl L.isEmpty) := by cases L <;> rfl
/-! ### filled and keeps -/
theorem t_filled {st : Store} {t w : List Nat} (h1 : AbcX t) (h2 : t.length ≤ 16) (h3 : Abc w) (h4 : w.length ≤ 200) : F_filled [.str t, .str w] st = .ok (.str (fill t w)) st := by
  have f1 := t_needT (st := st) (n := 200) (d := 2) (v := .str t) (by omega) (show t.length ≤ 200 by omega)
  rw [isStr_of h1 (by omega) (by omega), if_pos rfl] at f1
  have f2 := t_needS (st := st) (n := 200) (d := 2) (v := .str w) (by omega) h4
  rw [isStr_of h3 (by omega) (by omega), if_pos rfl] at f2
  unfold F_filled m_filled
  simp [f1, f2, t_pressed h3 h2 (show w.length ≤ 100000 by omega), retD]
theorem t_filledT {st : Store} {n d : Nat} {v w : D} (hn : n ≤ 100000) (hv : okV n d v) (pw : plain w = true) (h : isStr abcX 0 16 v = false) : F_filled [v, w] st = .exn exT st := by
  have f1 := t_needT (st := st) hn hv
  rw [h] at f1
  have f1 : F_need_template [v] st = .exn exT st := f1
  unfold F_filled m_filled
  simp [okV_plain hv, okV_frz hv, f1]
theorem t_filledS {st : Store} {n d : Nat} {t : List Nat} {v : D} (hn : n ≤ 100000) (h1 : AbcX t) (h2 : t.length ≤ 16) (hv : okV n d v) (h : isStr abc 0 200 v = false) : F_filled [.str t, v] st = .exn exS st := by
  have f1 := t_needT (st := st) (n := 200) (d := 2) (v := .str t) (by omega) (show t.length ≤ 200 by omega)
  rw [isStr_of h1 (by omega) (by omega), if_pos rfl] at f1
  have f2 := t_needS (st := st) hn hv
  rw [h] at f2
  have f2 : F_need_stamp [v] st = .exn exS st := f2
  unfold F_filled m_filled
  simp [okV_plain hv, okV_frz hv, f1, f2]
theorem t_keepsF {st : Store} {n d : Nat} {v w : D} (hn : n ≤ 100000) (hv : okV n d v) (h : isFacts v = false) : F_keeps [v, w] st = .exn exF st := by
  have f1 := t_needF (st := st) hn hv
  rw [h] at f1
  have f1 : F_need_facts [v] st = .exn exF st := f1
  unfold F_keeps m_keeps
  simp [okV_plain hv, okV_frz hv, f1]
theorem t_keepsS {st : Store} {n d : Nat} {fs : List Fact} {v : D} (hn : n ≤ 100000) (ho : okAll fs) (h1 : 1 ≤ fs.length) (h2 : fs.length ≤ 6) (hv : okV n d v) (h : isStr abc 0 200 v = false) : F_keeps [fsD fs, v] st = .exn exS st := by
  have f1 := t_needF (st := st) (n := 200) (d := 2) (by omega) (okV_fsD ho (by omega) (by omega))
  rw [facts_true ho h1 h2, if_pos rfl] at f1
  have f2 := t_needS (st := st) hn hv
  rw [h] at f2
  have f2 : F_need_stamp [v] st = .exn exS st := f2
  have p : plain (fsD fs) = true := rfl
  have z : frz (fsD fs) = fsD fs := rfl
  unfold F_keeps m_keeps
  simp [p, z, okV_plain hv, okV_frz hv, f1, f2]
end DL.SH
namespace DL.SH
open PySem PySem.Spec L2 DL
/-! ### the beginnings of a chain -/
/-- two words that a template of at most 16 signs does not tell apart -/
structure Twin (w v : List Nat) : Prop where
  wl : 17 ≤ w.length
  vl : 17 ≤ v.length
  pre : ∀ j, j ≤ 16 → w.take j = v.take j
  at_ : ∀ j, j ≤ 16 → w[j]? = v[j]?
  suf : ∀ j, j ≤ 16 → w.drop (w.length - j) = v.drop (v.length - j)
  sh : ∀ j, j ≤ 16 → (w.take (w.length - j) = w.drop j ↔ v.take (v.length - j) = v.drop j)
theorem fill_nil (w : List Nat) : fill [] w = [] := rfl
theorem fill_X (a w : List Nat) : fill (88 :: a) w = w ++ fill a w := rfl
theorem fill_c {c : Nat} (h : c ≠ 88) (a w : List Nat) : fill (c :: a) w = c :: fill a w := by
  show (if c = 88 then w else [c]) ++ fill a w = _
  rw [if_neg h]; rfl
/-- a is behind: some of a word waits on the other side -/
theorem long_X {w A B : List Nat} {j : Nat} (hj : j ≤ w.length) : (w ++ A = w.drop j ++ B) ↔ (w.take (w.length - j) = w.drop j ∧ w.drop (w.length - j) ++ A = B) := by
  have e : w ++ A = w.take (w.length - j) ++ (w.drop (w.length - j) ++ A) := by rw [← List.append_assoc, List.take_append_drop]
  rw [e]
  constructor
  · intro h
    exact List.append_inj h (by rw [List.length_take, List.length_drop]; omega)
  · rintro ⟨h1, h2⟩
    rw [h1, h2]
theorem long_c {w A B : List Nat} {c j : Nat} (hj : j < w.length) : (c :: A = w.drop j ++ B) ↔ (w[j]? = some c ∧ A = w.drop (j + 1) ++ B) := by
  rw [List.drop_eq_getElem_cons hj, List.cons_append, List.cons.injEq, List.getElem?_eq_getElem hj, Option.some.injEq]
  constructor
  · rintro ⟨h1, h2⟩; exact ⟨h1.symm, h2⟩
  · rintro ⟨h1, h2⟩; exact ⟨h1.symm, h2⟩
theorem long_nil {w B : List Nat} {j : Nat} (hj : j < w.length) : ¬ ([] = w.drop j ++ B) := by
  intro h
  have := congrArg List.length h
  rw [List.length_append, List.length_drop, List.length_nil] at this
  omega
theorem short_X {w s A B : List Nat} (hs : s.length ≤ w.length) : (s ++ A = w ++ B) ↔ (w.take s.length = s ∧ A = w.drop s.length ++ B) := by
  have e : w ++ B = w.take s.length ++ (w.drop s.length ++ B) := by rw [← List.append_assoc, List.take_append_drop]
  rw [e]
  constructor
  · intro h
    obtain ⟨h1, h2⟩ := List.append_inj h (by rw [List.length_take]; omega)
    exact ⟨h1.symm, h2⟩
  · rintro ⟨h1, h2⟩
    rw [h1, h2]
theorem twin_both {w v : List Nat} (T : Twin w v) : ∀ N : Nat,
    (∀ (j : Nat) (a b : List Nat), a.length + b.length ≤ N → j + a.length ≤ 16 → b.length ≤ 16 → (fill a w = w.drop j ++ fill b w ↔ fill a v = v.drop j ++ fill b v)) ∧
    (∀ (s a b : List Nat), a.length + b.length ≤ N → s.length + a.length ≤ 16 → b.length ≤ 16 → (s ++ fill a w = fill b w ↔ s ++ fill a v = fill b v)) := by
  have hw := T.wl
  have hv := T.vl
  intro N
  induction N with
  | zero =>
    refine ⟨fun j a b h1 h2 h3 => ?_, fun s a b h1 h2 h3 => ?_⟩
    · have ha : a = [] := List.eq_nil_of_length_eq_zero (by omega)
      subst ha
      exact iff_of_false (long_nil (by omega)) (long_nil (by simp at h2; omega))
    · have ha : a = [] := List.eq_nil_of_length_eq_zero (by omega)
      have hb : b = [] := List.eq_nil_of_length_eq_zero (by omega)
      subst ha hb
      exact Iff.rfl
  | succ N ih =>
    obtain ⟨il, is⟩ := ih
    have L : ∀ (j : Nat) (a b : List Nat), a.length + b.length ≤ N + 1 → j + a.length ≤ 16 → b.length ≤ 16 → (fill a w = w.drop j ++ fill b w ↔ fill a v = v.drop j ++ fill b v) := by
      intro j a b h1 h2 h3
      match a with
      | [] => exact iff_of_false (long_nil (by omega)) (long_nil (by omega))
      | c :: a =>
        simp only [List.length_cons] at h1 h2
        by_cases hc : c = 88
        · subst hc
          rw [fill_X, fill_X, long_X (by omega), long_X (by omega), T.sh j (by omega), T.suf j (by omega)]
          have := is (v.drop (v.length - j)) a b (by omega) (by rw [List.length_drop]; omega) h3
          rw [this]
        · rw [fill_c hc, fill_c hc, long_c (by omega), long_c (by omega), T.at_ j (by omega), il (j + 1) a b (by omega) (by omega) h3]
    refine ⟨L, fun s a b h1 h2 h3 => ?_⟩
    match s with
    | [] =>
      rw [List.nil_append, List.nil_append]
      match a, b with
      | [], [] => exact Iff.rfl
      | [], c :: b =>
        by_cases hc : c = 88
        · subst hc
          rw [fill_X, fill_X]
          have k1 : ¬ (fill [] w = w ++ fill b w) := long_nil (w := w) (j := 0) (by omega)
          have k2 : ¬ (fill [] v = v ++ fill b v) := long_nil (w := v) (j := 0) (by omega)
          exact iff_of_false k1 k2
        · rw [fill_c hc, fill_c hc]
          exact iff_of_false (by simp [fill]) (by simp [fill])
      | c :: a, [] =>
        by_cases hc : c = 88
        · subst hc
          rw [fill_X, fill_X]
          have k1 : ¬ (fill [] w = w ++ fill a w) := long_nil (w := w) (j := 0) (by omega)
          have k2 : ¬ (fill [] v = v ++ fill a v) := long_nil (w := v) (j := 0) (by omega)
          exact iff_of_false (fun e => k1 e.symm) (fun e => k2 e.symm)
        · rw [fill_c hc, fill_c hc]
          exact iff_of_false (by simp [fill]) (by simp [fill])
      | c :: a, z :: b =>
        simp only [List.length_cons] at h1 h2 h3
        by_cases hz : z = 88
        · subst hz
          rw [fill_X b, fill_X b]
          have := L 0 (c :: a) b (by simp only [List.length_cons]; omega) (by simp only [List.length_cons]; omega) (by omega)
          simpa using this
        · by_cases hc : c = 88
          · subst hc
            rw [fill_X a, fill_X a]
            have := L 0 (z :: b) a (by simp only [List.length_cons]; omega) (by simp only [List.length_cons]; omega) (by simp at h2; omega)
            simp only [List.drop_zero] at this
            rw [eq_comm, this, eq_comm]
          · rw [fill_c hc, fill_c hc, fill_c hz, fill_c hz, List.cons.injEq, List.cons.injEq]
            have := is [] a b (by omega) (by simp at h2 ⊢; omega) (by omega)
            simp only [List.nil_append] at this
            rw [this]
    | y :: s =>
      match b with
      | [] => exact iff_of_false (by simp [fill]) (by simp [fill])
      | z :: b =>
        simp only [List.length_cons] at h1 h2 h3
        by_cases hz : z = 88
        · subst hz
          rw [fill_X b, fill_X b, short_X (by simp only [List.length_cons]; omega), short_X (by simp only [List.length_cons]; omega)]
          have := L (y :: s).length a b (by omega) (by simp only [List.length_cons]; omega) (by omega)
          rw [T.pre _ (by simp only [List.length_cons]; omega), this]
        · rw [fill_c hz, fill_c hz, List.cons_append, List.cons_append, List.cons.injEq, List.cons.injEq, is s a b (by omega) (by omega) (by omega)]
theorem twin_same {w v a b : List Nat} (T : Twin w v) (ha : a.length ≤ 16) (hb : b.length ≤ 16) : (fill a w == fill b w) = (fill a v == fill b v) := by
  have := (twin_both T (a.length + b.length)).2 [] a b (Nat.le_refl _) (by simpa using ha) hb
  simp only [List.nil_append] at this
  rw [Bool.eq_iff_iff, beq_iff_eq, beq_iff_eq]
  exact this
end DL.SH
namespace DL.SH
open PySem PySem.Spec L2 DL
/-! ### a word without end -/
def wd (c : Nat → Nat) (n : Nat) : List Nat := (List.range n).map c
@[simp] theorem wd_len (c : Nat → Nat) (n : Nat) : (wd c n).length = n := by simp [wd]
theorem wd_at {c : Nat → Nat} {n i : Nat} : (wd c n)[i]? = if i < n then some (c i) else none := by
  unfold wd
  rw [List.getElem?_map]
  split
  · next h => simp [h]
  · next h => rw [List.getElem?_eq_none (by simpa using h)]; rfl
theorem wd_take {c : Nat → Nat} {n j : Nat} (h : j ≤ n) : (wd c n).take j = wd c j := by
  apply List.ext_getElem?
  intro i
  by_cases hi : i < j
  · rw [List.getElem?_take_of_lt hi, wd_at, wd_at, if_pos (by omega), if_pos hi]
  · rw [List.getElem?_eq_none (by rw [List.length_take, wd_len]; omega), List.getElem?_eq_none (by rw [wd_len]; omega)]
theorem wd_drop {c : Nat → Nat} {n j : Nat} : (wd c n).drop j = wd (fun i => c (j + i)) (n - j) := by
  apply List.ext_getElem?
  intro i
  rw [List.getElem?_drop, wd_at, wd_at]
  by_cases h : j + i < n
  · rw [if_pos h, if_pos (by omega)]
  · rw [if_neg h, if_neg (by omega)]
theorem wd_eq {c d : Nat → Nat} {n : Nat} : wd c n = wd d n ↔ ∀ i, i < n → c i = d i := by
  constructor
  · intro h i hi
    have := congrArg (fun l => l[i]?) h
    simp only [wd_at, if_pos hi, Option.some.injEq] at this
    exact this
  · intro h
    apply List.ext_getElem?
    intro i
    rw [wd_at, wd_at]
    split
    · next hi => rw [h i hi]
    · rfl
theorem per_mul {c : Nat → Nat} {p : Nat} (per : ∀ i, c (i + p) = c i) (i : Nat) : ∀ k, c (i + k * p) = c i
  | 0 => by rw [Nat.zero_mul, Nat.add_zero]
  | k + 1 => by rw [Nat.succ_mul, ← Nat.add_assoc, per, per_mul per i k]
theorem twin_wd {c : Nat → Nat} {p n : Nat} (p1 : p ≤ 16) (per : ∀ i, c (i + p) = c i) (hn : 32 ≤ n) : Twin (wd c n) (wd c (n + p)) where
  wl := by rw [wd_len]; omega
  vl := by rw [wd_len]; omega
  pre := fun j hj => by rw [wd_take (by omega), wd_take (by omega)]
  at_ := fun j hj => by rw [wd_at, wd_at, if_pos (by omega), if_pos (by omega)]
  suf := fun j hj => by
    rw [wd_len, wd_len, wd_drop, wd_drop, show n - (n - j) = j by omega, show n + p - (n + p - j) = j by omega, wd_eq]
    intro i hi
    rw [show n + p - j + i = (n - j + i) + p by omega, per]
  sh := fun j hj => by
    rw [wd_len, wd_len, wd_take (by omega), wd_take (by omega), wd_drop, wd_drop, wd_eq, wd_eq]
    constructor
    · intro h i hi
      by_cases hi2 : i < n - j
      · exact h i hi2
      · have := h (i - p) (by omega)
        rw [← per (i - p), show i - p + p = i by omega] at this
        rw [this, ← per, show j + (i - p) + p = j + i by omega]
    · intro h i hi
      exact h i (by omega)
/-- whether the beginnings keep a fact comes again and again -/
theorem holds_per {c : Nat → Nat} {p n : Nat} {f : Fact} (hf : f.ok) (p1 : p ≤ 16) (per : ∀ i, c (i + p) = c i) (hn : 61 ≤ n) : holdsB f (wd c (n + p)) = holdsB f (wd c n) := by
  cases f with
  | same a b =>
    obtain ⟨_, h1, _, h2⟩ := hf
    exact (twin_same (twin_wd p1 per (by omega)) h1 h2).symm
  | begins x =>
    obtain ⟨_, h1, h2⟩ := hf
    simp only [holdsB]
    rw [wd_take (by omega), wd_take (by omega)]
  | ends x =>
    obtain ⟨_, h1, h2⟩ := hf
    have e := (twin_wd p1 per (show 32 ≤ n by omega)).suf x.length (by omega)
    simp only [holdsB]
    rw [e]
    simp only [wd_len]
    rw [decide_eq_true (by omega), decide_eq_true (by omega)]
  | least k =>
    have h : k ≤ 60 := hf
    simp only [holdsB, wd_len]
    rw [decide_eq_true (by omega), decide_eq_true (by omega)]
  | most k =>
    have h : k ≤ 60 := hf
    simp only [holdsB, wd_len]
    rw [decide_eq_false (by omega), decide_eq_false (by omega)]
theorem keeps_per {c : Nat → Nat} {p n : Nat} {fs : List Fact} (hf : okAll fs) (p1 : p ≤ 16) (per : ∀ i, c (i + p) = c i) (hn : 61 ≤ n) : keepsB fs (wd c (n + p)) = keepsB fs (wd c n) := by
  unfold keepsB
  rw [Bool.eq_iff_iff, List.all_eq_true, List.all_eq_true]
  constructor
  · intro h f hfm
    rw [← holds_per (hf f hfm) p1 per hn]
    exact h f hfm
  · intro h f hfm
    rw [holds_per (hf f hfm) p1 per hn]
    exact h f hfm
theorem keeps_mul {c : Nat → Nat} {p n : Nat} {fs : List Fact} (hf : okAll fs) (p1 : p ≤ 16) (per : ∀ i, c (i + p) = c i) (hn : 61 ≤ n) : ∀ k, keepsB fs (wd c (n + k * p)) = keepsB fs (wd c n)
  | 0 => by rw [Nat.zero_mul, Nat.add_zero]
  | k + 1 => by rw [Nat.succ_mul, ← Nat.add_assoc, keeps_per hf p1 per (by omega), keeps_mul hf p1 per hn k]
/-- by the rest -/
theorem keeps_mod {c : Nat → Nat} {p n b : Nat} {fs : List Fact} (hf : okAll fs) (p0 : 0 < p) (p1 : p ≤ 16) (per : ∀ i, c (i + p) = c i) (hb : 61 ≤ b) (hn : b ≤ n) : keepsB fs (wd c n) = keepsB fs (wd c (b + (n - b) % p)) := by
  have e : n = b + (n - b) % p + (n - b) / p * p := by
    have := Nat.mod_add_div (n - b) p
    rw [Nat.mul_comm] at this
    omega
  conv => lhs; rw [e]
  exact keeps_mul hf p1 per (by omega) _
/-! ### the chain as a word without end -/
def chA (ch : List Nat) (i : Nat) : Nat := ch.getD (i % ch.length) 0
theorem chA_per (ch : List Nat) (i : Nat) : chA ch (i + ch.length) = chA ch i := by unfold chA; rw [Nat.add_mod_right]
/-- the beginning of a chain -/
def beg (ch : List Nat) (n : Nat) : List Nat := wd (chA ch) n
theorem repL_at {α : Type} {l : List α} : ∀ {k i : Nat}, i < k * l.length → (repL k l)[i]? = l[i % l.length]?
  | 0, i, h => by omega
  | k + 1, i, h => by
    unfold repL
    rw [List.replicate_succ, List.flatten_cons]
    by_cases hi : i < l.length
    · rw [List.getElem?_append_left hi, Nat.mod_eq_of_lt hi]
    · rw [List.getElem?_append_right (by omega)]
      have := repL_at (k := k) (i := i - l.length) (l := l) (by rw [Nat.succ_mul] at h; omega)
      unfold repL at this
      rw [this, ← Nat.mod_eq_sub_mod (by omega)]
theorem beg_rep {ch : List Nat} {n : Nat} (h : 0 < ch.length) : (repL (n / ch.length + 1) ch).take n = beg ch n := by
  apply List.ext_getElem?
  intro i
  unfold beg
  rw [wd_at]
  by_cases hi : i < n
  · have hm : n < (n / ch.length + 1) * ch.length := by
      rw [Nat.mul_comm]
      exact Nat.lt_mul_div_succ n h
    rw [List.getElem?_take_of_lt hi, if_pos hi, repL_at (by omega)]
    unfold chA
    have hl := Nat.mod_lt i h
    rw [List.getD_eq_getElem?_getD, List.getElem?_eq_getElem hl]
    rfl
  · rw [if_neg hi, List.getElem?_eq_none]
    rw [List.length_take]
    omega
theorem beg_abc {ch : List Nat} {n : Nat} (h : 0 < ch.length) (hc : Abc ch) : Abc (beg ch n) := by
  rw [← beg_rep h]
  exact fun c hx => hc c (mem_repL (List.mem_of_mem_take hx))
@[simp] theorem beg_len (ch : List Nat) (n : Nat) : (beg ch n).length = n := wd_len ..
end DL.SH
namespace DL.SH
open PySem PySem.Spec L2 DL
/-! ### the chain of the facts -/
def tieB : Fact → Bool
  | .same a b => a != b
  | _ => false
theorem ev_ne_str {st : Store} {a b : List Nat} : pNe st (.str a) (.str b) = some (.bl (a != b)) := rfl
theorem t_tying {st : Store} {f : Fact} : F_is_tying [f.d] st = .ok (.bl (tieB f)) st := by
  unfold F_is_tying m_is_tying
  cases f with
  | same a b => simp [d_same, idx3_0, idx3_1, idx3_2, eq_str, ev_ne_str, tieB, retD]
  | begins x => simp [d_begins, idx2_0, eq_str, tieB, retD]
  | ends x => simp [d_ends, idx2_0, eq_str, tieB, retD]
  | least n => simp [d_least, idx2_0, eq_str, tieB, retD]
  | most n => simp [d_most, idx2_0, eq_str, tieB, retD]
theorem comp_tying {ρ : Env_} {st : Store} {i : Nat} (hi : i < ρ.length) (gs : List Fact) (hl : gs.length ≤ 1000) :
    compS (gName i) (tV (eFn F_is_tying (eCons (eVar i) eNil))) (eVar i) ρ (gs.map Fact.d) [] st = .ok ((gs.filter tieB).map Fact.d) st := by
  have key : ∀ (gs : List Fact) (acc : List D), acc.length + gs.length ≤ 1000 → compS (gName i) (tV (eFn F_is_tying (eCons (eVar i) eNil))) (eVar i) ρ (gs.map Fact.d) acc st = .ok (acc ++ (gs.filter tieB).map Fact.d) st := by
    intro gs
    induction gs with
    | nil => intro acc _; simp [compS]
    | cons f gs ih =>
      intro acc h2
      simp only [List.length_cons] at h2
      rw [List.map_cons]
      unfold compS
      rw [show gName i f.d ρ = some (ρ.set i (some f.d)) from if_pos f.plain]
      have e1 : (ρ.set i (some f.d))[i]? = some (some f.d) := List.getElem?_set_self hi
      have e3 := t_tying (st := st) (f := f)
      cases hb : tieB f with
      | false =>
        rw [hb] at e3
        simp [e1, f.frz, f.plain, e3, quietR, ih acc (by omega), hb]
      | true =>
        rw [hb] at e3
        have hk : acc.length < 1000000 := by omega
        simp [e1, f.frz, f.plain, e3, quietR, ih (acc ++ [f.d]) (by simp; omega), hb, hk]
  simpa using key gs [] (by simpa using hl)
/-- the first fact that ties -/
def tieOf (fs : List Fact) : Option Fact := (fs.filter tieB).head?
theorem t_tie {st : Store} {fs : List Fact} (hl : fs.length ≤ 1000) : F_tie_of [fsD fs] st = .ok (match tieOf fs with | some f => f.d | none => .non) st := by
  have hc := comp_tying (ρ := [some (fsD fs), none, none]) (st := st) (i := 2) (by simp) fs hl
  have it : itemsV (fsD fs) = some (fs.map Fact.d) := rfl
  have p : plain (fsD fs) = true := rfl
  have z : frz (fsD fs) = fsD fs := rfl
  unfold F_tie_of m_tie_of tieOf
  generalize fs.filter tieB = gs at hc
  cases gs with
  | nil =>
    have ne : pNe st (.lst []) (.new []) = some (.bl false) := rfl
    simp [p, z, it, wipeD, hc, ne, retD]
  | cons g gs =>
    have ne : pNe st (.lst (g.d :: gs.map Fact.d)) (.new []) = some (.bl true) := rfl
    have ix : pIdx st (.lst (g.d :: gs.map Fact.d)) (.int 0) = some g.d := by
      show itemV (.lst _) _ = _
      simp [itemV, D.vw, seqIx_of]
    simp [p, z, it, wipeD, hc, ne, ix, g.retD]
/-! ### letters and roots -/
def lettersAt (l : List Nat) : List Nat := l.takeWhile fun c => decide (c ∈ abc)
theorem takeWhile_step {l : List Nat} {at_ : Nat} (h : at_ < l.length) : lettersAt (l.drop at_) = if l[at_] ∈ abc then l[at_] :: lettersAt (l.drop (at_ + 1)) else [] := by
  unfold lettersAt
  rw [List.drop_eq_getElem_cons h, List.takeWhile_cons]
  by_cases q : l[at_] ∈ abc <;> simp [q]
theorem in_abc {st : Store} {c : Nat} : pIn st (.str [c]) (.cst [97, 98, 99]) = some (.bl (decide (c ∈ abc))) := by
  simp [pIn, inV, D.vw, txt, subIn_one, abc]
theorem t_letters {st : Store} {l : List Nat} (hl : l.length ≤ 300) : F_letters_at [.str l] st = .ok (.str (lettersAt l)) st := by
  have key : ∀ (n at_ : Nat), at_ ≤ l.length → l.length - at_ < n → whileS (tAnd (tV (eBin (pCmp fun i j => decide (i < j)) (eVar 1) (eCallP pLen (eCons (eVar 0) eNil)))) (tV (eBin pIn (eIdx (eVar 0) (eVar 1)) (eC (.cst [97, 98, 99]))))) b1_letters_at n [some (.str l), some (.int (at_ : Int))] st = .go .nx [some (.str l), some (.int ((at_ + (lettersAt (l.drop at_)).length : Nat) : Int))] st := by
    intro n
    induction n with
    | zero => intro at_ h1 h2; omega
    | succ n ih =>
      intro at_ h1 h2
      unfold whileS
      by_cases hlt : at_ < l.length
      · have ix := idx_str (st := st) hlt
        have hi : (at_ : Int) < l.length := by omega
        by_cases q : l[at_] ∈ abc
        · have e := ih (at_ + 1) (by omega) (by omega)
          rw [takeWhile_step hlt, if_pos q, List.length_cons]
          have eb : b1_letters_at [some (.str l), some (.int (at_ : Int))] st = .go .nx [some (.str l), some (.int ((at_ + 1 : Nat) : Int))] st := by
            unfold b1_letters_at
            simp
          simp [len_str, hi, ix, in_abc, q, eb]
          show whileS _ _ _ _ _ = _
          rw [show ((at_ : Int) + 1) = ((at_ + 1 : Nat) : Int) by omega, e]
          rw [show at_ + 1 + (lettersAt (List.drop (at_ + 1) l)).length = at_ + ((lettersAt (List.drop (at_ + 1) l)).length + 1) by omega]
          simp
        · rw [takeWhile_step hlt, if_neg q]
          simp [len_str, hi, ix, in_abc, q]
      · have hi : ¬ ((at_ : Int) < l.length) := by omega
        have e : l.drop at_ = [] := List.drop_eq_nil_of_le (by omega)
        rw [e]
        simp [len_str, hi, lettersAt]
  have k0 := key 400 0 (by omega) (by omega)
  have hle : (lettersAt l).length ≤ l.length := by unfold lettersAt; exact (List.takeWhile_prefix _).length_le
  have hc := cut_to l (i := ((lettersAt l).length : Int)) (by omega)
  have ht : l.take (lettersAt l).length = lettersAt l := by
    unfold lettersAt
    exact (List.prefix_iff_eq_take.mp (List.takeWhile_prefix _)).symm
  rw [show (((lettersAt l).length : Int)).toNat = (lettersAt l).length by omega, ht] at hc
  rw [List.drop_zero, Nat.zero_add] at k0
  unfold F_letters_at m_letters_at
  simp [sWhile, fuel_letters_at_1]
  rw [show ((0 : Int)) = ((0 : Nat) : Int) from rfl, k0]
  simp [sliceV_s, hc, retD]
def rootB (w : List Nat) (s : Nat) : Bool := w.length % s == 0 && repL (w.length / s) (w.take s) == w
def leastRoot (w : List Nat) : List Nat := match ((List.range (w.length - 1)).map (· + 1)).find? (rootB w) with
  | some s => w.take s
  | none => w
theorem t_root {st : Store} {w : List Nat} (hl : w.length ≤ 300) : F_least_root [.str w] st = .ok (.str (leastRoot w)) st := by
  have key : ∀ (L : List Nat) (a : Option D), (∀ s ∈ L, 1 ≤ s ∧ s < w.length) → ∃ b, loopS (gName 1) b1_least_root (L.map fun (j : Nat) => D.int (j : Int)) [some (.str w), a] st = match L.find? (rootB w) with
      | some s => .go (.rt (.str (w.take s))) [some (.str w), some (.int (s : Int))] st
      | none => .go .nx [some (.str w), b] st := by
    intro L
    induction L with
    | nil => intro a _; exact ⟨a, rfl⟩
    | cons s L ih =>
      intro a h
      obtain ⟨h1, h2⟩ := h s (List.mem_cons_self ..)
      obtain ⟨b, e⟩ := ih (some (.int (s : Int))) fun t ht => h t (List.mem_cons_of_mem _ ht)
      refine ⟨b, ?_⟩
      rw [List.map_cons, loop_cons (ρ1 := [some (.str w), some (.int (s : Int))]) rfl, List.find?_cons]
      have hm : pMod st (.int (w.length : Int)) (.int (s : Int)) = some (.int ((w.length : Int) % (s : Int))) := ev_mod (by omega)
      have hd : pFdiv st (.int (w.length : Int)) (.int (s : Int)) = some (.int ((w.length : Int) / (s : Int))) := ev_div (by omega)
      have hc := cut_to w (i := (s : Int)) (by omega)
      rw [show ((s : Int)).toNat = s by omega] at hc
      have q0 : 0 < w.length / s := Nat.div_pos (by omega) (by omega)
      have q1 : w.length / s ≤ w.length := Nat.div_le_self ..
      have q2 : (w.length : Int) / (s : Int) = ((w.length / s : Nat) : Int) := rfl
      have hmul := mul_str (st := st) (l := w.take s) (k := (w.length : Int) / (s : Int)) (by omega) (by omega) (by rw [List.length_take]; omega)
      rw [show ((w.length : Int) / (s : Int)).toNat = w.length / s by omega] at hmul
      have e0 : pEq st (.int ((w.length : Int) % (s : Int))) (.int 0) = some (.bl (w.length % s == 0)) := by
        show some (D.bl (_ == _)) = _
        have q3 : (w.length : Int) % (s : Int) = ((w.length % s : Nat) : Int) := rfl
        rw [Option.some.injEq, D.bl.injEq, Bool.eq_iff_iff, q3]
        simp
        omega
      have eb : b1_least_root [some (.str w), some (.int (s : Int))] st = if rootB w s = true then .go (.rt (.str (w.take s))) [some (.str w), some (.int (s : Int))] st else .go .nx [some (.str w), some (.int (s : Int))] st := by
        unfold b1_least_root rootB
        by_cases g : (w.length % s == 0) = true
        · by_cases g2 : (repL (w.length / s) (w.take s) == w) = true
          · simp only [g, g2, Bool.and_self, if_true]
            simp [len_str, hm, e0, g, hd, sliceV_s, hc, hmul, eq_str, g2]
          · rw [Bool.not_eq_true] at g2
            simp only [g, g2, Bool.and_false]
            simp [len_str, hm, e0, g, hd, sliceV_s, hc, hmul, eq_str, g2]
        · rw [Bool.not_eq_true] at g
          simp only [g, Bool.false_and]
          simp [len_str, hm, e0, g]
      rw [eb]
      cases hr : rootB w s with
      | true => rfl
      | false => exact e
  obtain ⟨b, e⟩ := key ((List.range (w.length - 1)).map (· + 1)) none fun s hs => by
    obtain ⟨j, hj, rfl⟩ := List.mem_map.mp hs
    have := List.mem_range.mp hj
    omega
  have hr : rng2 [.int 1, .int (w.length : Int)] = some (((List.range (w.length - 1)).map (· + 1)).map fun (j : Nat) => D.int (j : Int)) := by
    show rngL 1 (w.length : Int) = _
    unfold rngL
    rw [if_pos (by omega), List.map_map]
    congr 1
    rw [show ((w.length : Int) - 1).toNat = w.length - 1 by omega]
    apply List.map_congr_left
    intro j _
    show D.int (1 + (j : Int)) = D.int ((j + 1 : Nat) : Int)
    rw [show 1 + (j : Int) = ((j + 1 : Nat) : Int) by omega]
  unfold F_least_root m_least_root leastRoot
  generalize (List.range (w.length - 1)).map (· + 1) = L at e hr ⊢
  simp [len_str, hr, e]
  cases L.find? (rootB w) <;> simp [retD]
end DL.SH
namespace DL.SH
open PySem PySem.Spec L2 DL
def comm : List Nat → List Nat → Nat
  | x :: a, y :: b => if x = y then comm a b + 1 else 0
  | _, _ => 0
theorem comm_le : ∀ (a b : List Nat), comm a b ≤ a.length ∧ comm a b ≤ b.length
  | x :: a, y :: b => by
    have := comm_le a b
    unfold comm
    split <;> simp <;> omega
  | [], _ => by simp [comm]
  | _ :: _, [] => by simp [comm]
theorem comm_step {a b : List Nat} {k : Nat} (h1 : k < a.length) (h2 : k < b.length) : comm (a.drop k) (b.drop k) = if a[k] = b[k] then comm (a.drop (k + 1)) (b.drop (k + 1)) + 1 else 0 := by
  rw [List.drop_eq_getElem_cons h1, List.drop_eq_getElem_cons h2]
  conv => lhs; unfold comm
theorem comm_end {a b : List Nat} {k : Nat} (h : a.length ≤ k ∨ b.length ≤ k) : comm (a.drop k) (b.drop k) = 0 := by
  rcases h with h | h
  · rw [List.drop_eq_nil_of_le h]; rfl
  · rw [List.drop_eq_nil_of_le h]; cases a.drop k <;> rfl
def orA (l : List Nat) : List Nat := if l = [] then [97] else l
def chainT (a b : List Nat) : List Nat :=
  if (a.drop (comm a b)).take 1 = [88] then leastRoot (orA (lettersAt (b.drop (comm a b))))
  else if (b.drop (comm a b)).take 1 = [88] then leastRoot (orA (lettersAt (a.drop (comm a b)))) else [97]
def chainOf (fs : List Fact) : List Nat := match tieOf fs with
  | some (.same a b) => chainT a b
  | _ => [97]
theorem rootB_len {w : List Nat} : (leastRoot w).length ≤ w.length := by
  unfold leastRoot
  split
  · rw [List.length_take]; omega
  · omega
theorem root_pos {w : List Nat} (h : 1 ≤ w.length) : 1 ≤ (leastRoot w).length := by
  unfold leastRoot
  split
  · next s e =>
    have hm := List.mem_of_find?_eq_some e
    obtain ⟨j, hj, rfl⟩ := List.mem_map.mp hm
    rw [List.length_take]; omega
  · omega
theorem root_abc {w : List Nat} (h : Abc w) : Abc (leastRoot w) := by
  unfold leastRoot
  split
  · exact h.take _
  · exact h
theorem letters_abc {l : List Nat} : Abc (lettersAt l) := fun c hc => by
  unfold lettersAt at hc
  induction l with
  | nil => cases hc
  | cons x l ih =>
    rw [List.takeWhile_cons] at hc
    split at hc
    · next h =>
      rcases List.mem_cons.mp hc with rfl | hc
      · simpa using h
      · exact ih hc
    · cases hc
theorem letters_len {l : List Nat} : (lettersAt l).length ≤ l.length := by unfold lettersAt; exact (List.takeWhile_prefix _).length_le
theorem orA_ok {l : List Nat} {n : Nat} (h : Abc l) (hl : l.length ≤ n) (hn : 1 ≤ n) : Abc (orA l) ∧ 1 ≤ (orA l).length ∧ (orA l).length ≤ n := by
  unfold orA
  split
  · exact ⟨by unfold Abc; decide, by simp, by simpa using hn⟩
  · next h0 => exact ⟨h, by cases l with | nil => exact absurd rfl h0 | cons _ _ => simp, hl⟩
theorem chainT_ok {a b : List Nat} (ha : a.length ≤ 16) (hb : b.length ≤ 16) : Abc (chainT a b) ∧ 1 ≤ (chainT a b).length ∧ (chainT a b).length ≤ 16 := by
  have k : ∀ l : List Nat, l.length ≤ 16 → Abc (leastRoot (orA (lettersAt l))) ∧ 1 ≤ (leastRoot (orA (lettersAt l))).length ∧ (leastRoot (orA (lettersAt l))).length ≤ 16 := fun l hl => by
    obtain ⟨o1, o2, o3⟩ := orA_ok (n := 16) (letters_abc (l := l)) (Nat.le_trans letters_len hl) (by omega)
    exact ⟨root_abc o1, root_pos o2, Nat.le_trans rootB_len o3⟩
  unfold chainT
  split
  · exact k _ (by rw [List.length_drop]; omega)
  · split
    · exact k _ (by rw [List.length_drop]; omega)
    · exact ⟨by unfold Abc; decide, by simp, by simp⟩
theorem chain_ok {fs : List Fact} (ho : okAll fs) : Abc (chainOf fs) ∧ 1 ≤ (chainOf fs).length ∧ (chainOf fs).length ≤ 16 := by
  unfold chainOf
  split
  · next a b e =>
    have hm : Fact.same a b ∈ fs.filter tieB := List.mem_of_mem_head? e
    have := ho _ (List.mem_filter.mp hm).1
    exact chainT_ok this.2.1 this.2.2.2
  · exact ⟨by unfold Abc; decide, by simp, by simp⟩
theorem min2_len {st : Store} {a b : List Nat} : pMin2 st [.int (a.length : Int), .int (b.length : Int)] = some (.int (if (b.length : Int) < a.length then (b.length : Int) else a.length)) := rfl
theorem eq_one {st : Store} {x y : Nat} : pEq st (.str [x]) (.str [y]) = some (.bl (decide (x = y))) := by
  rw [eq_str]
  congr 2
  rw [Bool.eq_iff_iff]
  simp
theorem eq_mark {st : Store} {l : List Nat} : pEq st (.str l) (.cst [88]) = some (.bl (l == [88])) := rfl
theorem truth_str {l : List Nat} : truth (.str l) = some (!l.isEmpty) := by cases l <;> rfl
theorem t_chain {st : Store} {fs : List Fact} (ho : okAll fs) (hl : fs.length ≤ 1000) (ht : tieOf fs ≠ none) : F_chain_of [fsD fs] st = .ok (.str (chainOf fs)) st := by
  have e0 := t_tie (st := st) hl
  cases hf : tieOf fs with
  | none => exact absurd hf ht
  | some f =>
    have hm : f ∈ fs.filter tieB := List.mem_of_mem_head? hf
    obtain ⟨hm1, hm2⟩ := List.mem_filter.mp hm
    rw [hf] at e0
    cases f with
    | begins _ => cases hm2
    | ends _ => cases hm2
    | least _ => cases hm2
    | most _ => cases hm2
    | same a b =>
      obtain ⟨_, la, _, lb⟩ := (show (Fact.same a b).ok from ho _ hm1)
      have e0 : F_tie_of [fsD fs] st = .ok (.tup [.str wSame, .str a, .str b]) st := e0
      have hch : chainOf fs = chainT a b := by unfold chainOf; rw [hf]
      have key : ∀ (n k : Nat), k ≤ a.length → k ≤ b.length → a.length - k < n → whileS (tAnd (tV (eBin (pCmp fun i j => decide (i < j)) (eVar 4) (eCallP pMin2 (eCons (eCallP pLen (eCons (eVar 2) eNil)) (eCons (eCallP pLen (eCons (eVar 3) eNil)) eNil))))) (tV (eBin pEq (eIdx (eVar 2) (eVar 4)) (eIdx (eVar 3) (eVar 4))))) b1_chain_of n [some (fsD fs), some (.str wSame), some (.str a), some (.str b), some (.int (k : Int)), none, none] st = .go .nx [some (fsD fs), some (.str wSame), some (.str a), some (.str b), some (.int ((k + comm (a.drop k) (b.drop k) : Nat) : Int)), none, none] st := by
        intro n
        induction n with
        | zero => intro k h1 h2 h3; omega
        | succ n ih =>
          intro k h1 h2 h3
          unfold whileS
          by_cases hlt : k < a.length ∧ k < b.length
          · obtain ⟨k1, k2⟩ := hlt
            have i1 := idx_str (st := st) k1
            have i2 := idx_str (st := st) k2
            have hi : (k : Int) < (if b.length < a.length then (b.length : Int) else a.length) := by split <;> omega
            by_cases q : a[k] = b[k]
            · have e := ih (k + 1) (by omega) (by omega) (by omega)
              rw [comm_step k1 k2, if_pos q]
              have eb : b1_chain_of [some (fsD fs), some (.str wSame), some (.str a), some (.str b), some (.int (k : Int)), none, none] st = .go .nx [some (fsD fs), some (.str wSame), some (.str a), some (.str b), some (.int ((k + 1 : Nat) : Int)), none, none] st := by
                unfold b1_chain_of
                simp
              simp [len_str, min2_len, hi, i1, i2, eq_one, q, eb]
              show whileS _ _ _ _ _ = _
              rw [show ((k : Int) + 1) = ((k + 1 : Nat) : Int) by omega, e]
              rw [show k + 1 + comm (a.drop (k + 1)) (b.drop (k + 1)) = k + (comm (a.drop (k + 1)) (b.drop (k + 1)) + 1) by omega]
              simp
            · rw [comm_step k1 k2, if_neg q]
              simp [len_str, min2_len, hi, i1, i2, eq_one, q]
          · have hi : ¬ ((k : Int) < (if b.length < a.length then (b.length : Int) else a.length)) := by split <;> omega
            rw [comm_end (by omega)]
            simp [len_str, min2_len, hi]
      have k0 := key 400 0 (by omega) (by omega) (by omega)
      rw [List.drop_zero, List.drop_zero, Nat.zero_add, show ((0 : Nat) : Int) = 0 from rfl] at k0
      have hc := comm_le a b
      rw [hch]
      unfold chainT
      generalize comm a b = k at k0 hc
      have c1 := cut_from a (i := (k : Int)) (by omega)
      have c2 := cut_from b (i := (k : Int)) (by omega)
      rw [show ((k : Int)).toNat = k by omega] at c1 c2
      have d1 : (a.drop k).length ≤ 16 := by rw [List.length_drop]; omega
      have d2 : (b.drop k).length ≤ 16 := by rw [List.length_drop]; omega
      generalize a.drop k = x at c1 d1
      generalize b.drop k = y at c2 d2
      have x1 := cut_to x (i := 1) (by omega)
      have y1 := cut_to y (i := 1) (by omega)
      have p : plain (fsD fs) = true := rfl
      have z : frz (fsD fs) = fsD fs := rfl
      have fin : ∀ l : List Nat, l.length ≤ 16 → F_least_root [.str (orA (lettersAt l))] st = .ok (.str (leastRoot (orA (lettersAt l)))) st := fun l hl => by
        obtain ⟨_, _, o3⟩ := orA_ok (n := 16) (letters_abc (l := l)) (Nat.le_trans letters_len hl) (by omega)
        exact t_root (by omega)
      have or_ : ∀ l : List Nat, (if l.isEmpty = false then (R.ok (D.str l) st : R D) else R.ok (D.str [97]) st) = R.ok (.str (orA l)) st := fun l => by cases l <;> rfl
      have l1 := t_letters (st := st) (l := x) (by omega)
      have l2 := t_letters (st := st) (l := y) (by omega)
      have u1 : orA (lettersAt x) = if lettersAt x = [] then [97] else lettersAt x := rfl
      have r1 := fin x d1
      have r2 := fin y d2
      unfold F_chain_of m_chain_of
      by_cases g1 : x.take 1 = [88]
      · rw [if_pos g1]
        by_cases q : lettersAt y = []
        · rw [show orA (lettersAt y) = [97] by unfold orA; rw [if_pos q]] at r2 ⊢
          simp [p, z, e0, rsO, setAll, ev_par, sWhile, fuel_chain_of_1, k0, sliceV_s, c1, c2, x1, y1, eq_mark, g1, l2, q, truth_str, r2, retD]
        · have q2 : (lettersAt y).isEmpty = false := by cases h : lettersAt y with | nil => exact absurd h q | cons _ _ => rfl
          rw [show orA (lettersAt y) = lettersAt y by unfold orA; rw [if_neg q]] at r2 ⊢
          simp [p, z, e0, rsO, setAll, ev_par, sWhile, fuel_chain_of_1, k0, sliceV_s, c1, c2, x1, y1, eq_mark, g1, l2, q, q2, truth_str, r2, retD]
      · rw [if_neg g1]
        have n1 : (x.take 1 == [88]) = false := by simpa using g1
        by_cases g2 : y.take 1 = [88]
        · rw [if_pos g2]
          by_cases q : lettersAt x = []
          · rw [show orA (lettersAt x) = [97] by unfold orA; rw [if_pos q]] at r1 ⊢
            simp [p, z, e0, rsO, setAll, ev_par, sWhile, fuel_chain_of_1, k0, sliceV_s, c1, c2, x1, y1, eq_mark, n1, g2, l1, q, truth_str, r1, retD]
          · have q2 : (lettersAt x).isEmpty = false := by cases h : lettersAt x with | nil => exact absurd h q | cons _ _ => rfl
            rw [show orA (lettersAt x) = lettersAt x by unfold orA; rw [if_neg q]] at r1 ⊢
            simp [p, z, e0, rsO, setAll, ev_par, sWhile, fuel_chain_of_1, k0, sliceV_s, c1, c2, x1, y1, eq_mark, n1, g2, l1, q, q2, truth_str, r1, retD]
        · rw [if_neg g2]
          have n2 : (y.take 1 == [88]) = false := by simpa using g2
          simp [p, z, e0, rsO, setAll, ev_par, sWhile, fuel_chain_of_1, k0, sliceV_s, c1, c2, x1, y1, eq_mark, n1, n2, retD]
end DL.SH
namespace DL
open PySem PySem.Spec PyProof.Rows L2
theorem ev_app {i : Nat} {me : EM} {ρ : Env_} {st st1 : Store} {l : List D} {d : D} (h : ownAt ρ i = some l) (hm : me ρ st = .ok d st1) (hp : plain (frz d) = true) (hl : l.length < 1000000) : sApp i me ρ st = .go .nx (ρ.set i (some (.own i (l ++ [frz d])))) st1 := by
  unfold sApp
  rw [h, hm]
  exact if_pos ⟨hp, hl⟩
end DL
namespace DL.SH
open PySem PySem.Spec L2 DL
theorem idx_lst {st : Store} {l : List D} {j : Nat} (h : j < l.length) : pIdx st (.lst l) (.int j) = some l[j] := by
  show itemV (.lst l) _ = _
  simp [itemV, D.vw, seqIx_of, h]
theorem len_lst {st : Store} {l : List D} : pLen st [.lst l] = some (.int l.length) := rfl
theorem t_beg {st : Store} {ch : List Nat} {n : Nat} (h0 : 1 ≤ ch.length) (h1 : ch.length ≤ 1000) (hn : n ≤ 15000) : F_beginning [.str ch, .int n] st = .ok (.str (beg ch n)) st := by
  have hd : pFdiv st (.int (n : Int)) (.int (ch.length : Int)) = some (.int ((n : Int) / (ch.length : Int))) := ev_div (by omega)
  have q1 : n / ch.length ≤ n := Nat.div_le_self ..
  have q2 : (n : Int) / (ch.length : Int) = ((n / ch.length : Nat) : Int) := rfl
  have q0 : 0 ≤ (n : Int) / (ch.length : Int) := Int.ediv_nonneg (by omega) (by omega)
  have hmul := mul_str (st := st) (l := ch) (k := (n : Int) / (ch.length : Int) + 1) (by omega) (by omega) h1
  rw [show ((n : Int) / (ch.length : Int) + 1).toNat = n / ch.length + 1 by omega] at hmul
  have hc := cut_to (repL (n / ch.length + 1) ch) (i := (n : Int)) (by omega)
  rw [show ((n : Int)).toNat = n by omega, beg_rep (by omega)] at hc
  unfold F_beginning m_beginning
  simp [len_str, hd, hmul, sliceV_s, hc, retD]
/-- the truth at a size -/
def tr (fs : List Fact) (ch : List Nat) (n : Nat) : D := .bl (keepsB fs (beg ch n))
theorem t_truths {st : Store} {fs : List Fact} {ch : List Nat} (ho : okAll fs) (hl : fs.length ≤ 1000) (hc : Abc ch) (h0 : 1 ≤ ch.length) (h1 : ch.length ≤ 1000) :
    F_truths_of [fsD fs, .str ch] st = .ok (.new ((List.range (96 + ch.length)).map (tr fs ch))) st := by
  have p : plain (fsD fs) = true := rfl
  have z : frz (fsD fs) = fsD fs := rfl
  have it : itemsV (fsD fs) = some (fs.map Fact.d) := rfl
  have key : ∀ (L : List Nat) (acc : List D) (a3 a4 a5 : Option D), (∀ n ∈ L, n ≤ 10000) → acc.length + L.length ≤ 10000 → ∃ b3 b4, loopS (gName 3) b1_truths_of (L.map fun (j : Nat) => D.int (j : Int)) [some (fsD fs), some (.str ch), some (.own 2 acc), a3, a4, a5] st = .go .nx [some (fsD fs), some (.str ch), some (.own 2 (acc ++ L.map (tr fs ch))), b3, b4, a5] st := by
    intro L
    induction L with
    | nil => intro acc a3 a4 a5 _ _; exact ⟨a3, a4, by simp [loopS]⟩
    | cons n L ih =>
      intro acc a3 a4 a5 hL hlen
      simp only [List.length_cons] at hlen
      have hn := hL n (List.mem_cons_self ..)
      obtain ⟨b3, b4, e⟩ := ih (acc ++ [tr fs ch n]) (some (.int (n : Int))) (some (.str (beg ch n))) a5 (fun m hm => hL m (List.mem_cons_of_mem _ hm)) (by simp; omega)
      refine ⟨b3, b4, ?_⟩
      rw [List.map_cons, loop_cons (ρ1 := [some (fsD fs), some (.str ch), some (.own 2 acc), some (.int (n : Int)), a4, a5]) rfl]
      have eb := t_beg (st := st) (ch := ch) (n := n) h0 h1 (by omega)
      have hcmp := comp_holds (ρ := [some (fsD fs), some (.str ch), some (.own 2 acc), some (.int (n : Int)), some (.str (beg ch n)), none]) (st := st) (i := 5) (j := 4) (by simp) (by decide) rfl ho (beg_abc (n := n) h0 hc) (by rw [beg_len]; omega) hl
      have eapp := ev_app (i := 2) (me := (eCallP (p1 fAll) (eCons (eComp [5] (iVal (eVar 0)) (gName 5) tYes (eFn F_holds (eCons (eVar 5) (eCons (eVar 4) eNil)))) eNil))) (ρ := [some (fsD fs), some (.str ch), some (.own 2 acc), some (.int (n : Int)), some (.str (beg ch n)), a5]) (st := st) (st1 := st) (l := acc) (d := tr fs ch n) rfl
        (by simp [it, wipeD, hcmp, all_bl, tr]) rfl (by omega)
      have e1 : b1_truths_of [some (fsD fs), some (.str ch), some (.own 2 acc), some (.int (n : Int)), a4, a5] st = .go .nx [some (fsD fs), some (.str ch), some (.own 2 (acc ++ [tr fs ch n])), some (.int (n : Int)), some (.str (beg ch n)), a5] st := by
        unfold b1_truths_of
        have fz : frz (tr fs ch n) = tr fs ch n := rfl
        simp [eb, eapp, fz]
      rw [e1]
      show loopS _ _ _ _ _ = _
      rw [e]
      simp
  obtain ⟨b3, b4, e⟩ := key (List.range (96 + ch.length)) [] none none none (fun n hn => by have := List.mem_range.mp hn; omega) (by simp; omega)
  have hr : rng1 [.int (96 + (ch.length : Int))] = some ((List.range (96 + ch.length)).map fun (j : Nat) => D.int (j : Int)) := by
    rw [show (96 : Int) + (ch.length : Int) = ((96 + ch.length : Nat) : Int) by omega]
    exact rng_to (by omega)
  unfold F_truths_of m_truths_of
  generalize List.range (96 + ch.length) = L at e hr ⊢
  simp [len_str, newL, hr, e, retD]
theorem range_take {n m : Nat} (h : m ≤ n) : (List.range n).take m = List.range m := by rw [List.take_range, Nat.min_eq_left h]
/-- a book's parts -/
def partsD (fs : List Fact) (ch : List Nat) : D := .tup [.str ch, .lst ((List.range 96).map (tr fs ch)), .lst ((List.range ch.length).map fun i => tr fs ch (96 + i))]
theorem range_drop {α : Type} (f : Nat → α) (m k : Nat) : ((List.range (m + k)).map f).drop m = (List.range k).map fun i => f (m + i) := by
  apply List.ext_getElem?
  intro i
  rw [List.getElem?_drop, List.getElem?_map, List.getElem?_map]
  by_cases h : i < k
  · simp [h]
  · rw [List.getElem?_eq_none (by simp; omega), List.getElem?_eq_none (by simp; omega)]; rfl
theorem t_parts {st : Store} {fs : List Fact} (ho : okAll fs) (hl : fs.length ≤ 1000) (ht : tieOf fs ≠ none) : F_parts_of [fsD fs] st = .ok (partsD fs (chainOf fs)) st := by
  obtain ⟨c1, c2, c3⟩ := chain_ok ho
  have e1 := t_chain (st := st) ho hl ht
  have e2 := t_truths (st := st) (fs := fs) ho hl c1 c2 (by omega)
  generalize chainOf fs = ch at *
  have p : plain (fsD fs) = true := rfl
  have z : frz (fsD fs) = fsD fs := rfl
  have k1 := cut_to ((List.range (96 + ch.length)).map (tr fs ch)) (i := 96) (by omega)
  have k2 := cut_from ((List.range (96 + ch.length)).map (tr fs ch)) (i := 96) (by omega)
  rw [show (96 : Int).toNat = 96 from rfl, ← List.map_take, range_take (by omega)] at k1
  rw [show (96 : Int).toNat = 96 from rfl, range_drop] at k2
  have pp : plain (partsD fs ch) = true := rfl
  have q1 : ∀ L : List Nat, plain (.lst (L.map (tr fs ch))) = true := fun _ => rfl
  unfold F_parts_of m_parts_of partsD
  generalize (List.range (96 + ch.length)).map (tr fs ch) = L at *
  generalize (List.range 96).map (tr fs ch) = L1 at *
  generalize ((List.range ch.length).map fun i => tr fs ch (96 + i)) = L2 at *
  have s1 : sliceV (.lst L) none (some 96) = some (.new L1) := by rw [sliceV_lst, k1]
  have s2 : sliceV (.lst L) (some 96) none = some (.new L2) := by rw [sliceV_lst, k2]
  simp [p, z, e1, e2, s1, s2, retD]
theorem t_there {st : Store} {fs : List Fact} {ch : List Nat} (ho : okAll fs) (h0 : 1 ≤ ch.length) (h1 : ch.length ≤ 16) (n : Nat) : F_is_there [partsD fs ch, .int n] st = .ok (tr fs ch n) st := by
  have p : plain (partsD fs ch) = true := rfl
  have z : frz (partsD fs ch) = partsD fs ch := rfl
  unfold F_is_there m_is_there
  by_cases h : n < 96
  · have ix := idx_lst (st := st) (l := (List.range 96).map (tr fs ch)) (j := n) (by simpa using h)
    rw [List.getElem_map, List.getElem_range] at ix
    have hi : (n : Int) < 96 := by omega
    have rt : retD (tr fs ch n) = tr fs ch n := rfl
    simp [partsD, p, z, rsO, setAll, hi, ix, rt]
  · have hm : (n - 96) % ch.length < ch.length := Nat.mod_lt _ (by omega)
    have ix := idx_lst (st := st) (l := (List.range ch.length).map fun i => tr fs ch (96 + i)) (j := (n - 96) % ch.length) (by simpa using hm)
    rw [List.getElem_map, List.getElem_range] at ix
    have e : tr fs ch (96 + (n - 96) % ch.length) = tr fs ch n := by
      unfold tr beg
      rw [← keeps_mod ho (by omega) h1 (chA_per ch) (by omega) (by omega)]
    rw [e, show (((n - 96) % ch.length : Nat) : Int) = ((n - 96 : Nat) : Int) % (ch.length : Int) from rfl] at ix
    have hi : ¬ ((n : Int) < 96) := by omega
    have rt : retD (tr fs ch n) = tr fs ch n := rfl
    have em : pMod st (.int ((n : Int) - 96)) (.int (ch.length : Int)) = some (.int (((n - 96 : Nat) : Int) % (ch.length : Int))) := by
      rw [ev_mod (by omega), show (n : Int) - 96 = ((n - 96 : Nat) : Int) by omega]
    simp [partsD, p, z, rsO, setAll, hi, ix, rt, em, len_lst]
abbrev exFree : Ex := ⟨"Free", none⟩
abbrev exN : Ex := ⟨"InvalidNumber", none⟩
/-- a book: facts that tie -/
structure Book (fs : List Fact) : Prop where
  ok : okAll fs
  h1 : 1 ≤ fs.length
  h2 : fs.length ≤ 6
  tie : tieOf fs ≠ none
theorem t_needB {st : Store} {fs : List Fact} (B : Book fs) : F_need_tied [fsD fs] st = .ok .non st := by
  have f1 := t_needF (st := st) (n := 200) (d := 2) (by omega) (okV_fsD B.ok (by omega) (by have := B.h2; omega))
  rw [facts_true B.ok B.h1 B.h2, if_pos rfl] at f1
  have f2 := t_tie (st := st) (fs := fs) (by have := B.h2; omega)
  have p : plain (fsD fs) = true := rfl
  have z : frz (fsD fs) = fsD fs := rfl
  have ht := B.tie
  unfold F_need_tied m_need_tied
  cases h : tieOf fs with
  | none => exact absurd h ht
  | some f =>
    rw [h] at f2
    have fi : pIs st f.d .non = some (.bl false) := by cases f <;> rfl
    simp [p, z, f1, f2, fi]
/-- facts that do not tie -/
theorem t_needFree {st : Store} {fs : List Fact} (ho : okAll fs) (h1 : 1 ≤ fs.length) (h2 : fs.length ≤ 6) (h : tieOf fs = none) : F_need_tied [fsD fs] st = .exn exFree st := by
  have f1 := t_needF (st := st) (n := 200) (d := 2) (by omega) (okV_fsD ho (by omega) (by omega))
  rw [facts_true ho h1 h2, if_pos rfl] at f1
  have f2 := t_tie (st := st) (fs := fs) (by omega)
  rw [h] at f2
  have p : plain (fsD fs) = true := rfl
  have z : frz (fsD fs) = fsD fs := rfl
  have fi : pIs st .non .non = some (.bl true) := rfl
  unfold F_need_tied m_need_tied
  simp [p, z, f1, f2, fi]
/-- no facts -/
theorem t_needBad {st : Store} {n d : Nat} {v : D} (hn : n ≤ 100000) (hv : okV n d v) (h : isFacts v = false) : F_need_tied [v] st = .exn exF st := by
  have f1 := t_needF (st := st) hn hv
  rw [h] at f1
  have f1 : F_need_facts [v] st = .exn exF st := f1
  unfold F_need_tied m_need_tied
  simp [okV_plain hv, okV_frz hv, f1]
/-- the stamp of a size -/
def stD (fs : List Fact) (n : Nat) : D := if keepsB fs (beg (chainOf fs) n) = true then .str (beg (chainOf fs) n) else .non
theorem t_number {st : Store} {n m : Nat} (h : n ≤ m) : F_need_number [.int n, .int m] st = .ok .non st := by
  have q : F_is_from [.int n, .int 0, .int m] st = .ok (.bl true) st := by
    rw [t_from (n := 0) (d := 0) (v := .int n) (lo := 0) (hi := m) trivial]
    simp only [isFrom]
    rw [decide_eq_true (by omega), decide_eq_true (by omega)]
    rfl
  unfold F_need_number m_need_number
  simp [q]
theorem t_stamp_of {st : Store} {fs : List Fact} (B : Book fs) {n : Nat} (hn : n ≤ 200) : F_stamp_of [fsD fs, .int n] st = .ok (stD fs n) st := by
  have f1 := t_needB (st := st) B
  have f2 := t_number (st := st) hn
  have f3 := t_parts (st := st) B.ok (by have := B.h2; omega) B.tie
  obtain ⟨c1, c2, c3⟩ := chain_ok B.ok
  have f4 := t_there (st := st) B.ok c2 c3 n
  have f5 := t_beg (st := st) (ch := chainOf fs) (n := n) c2 (by omega) (by omega)
  have p : plain (fsD fs) = true := rfl
  have z : frz (fsD fs) = fsD fs := rfl
  have p2 : plain (partsD fs (chainOf fs)) = true := rfl
  have z2 : frz (partsD fs (chainOf fs)) = partsD fs (chainOf fs) := rfl
  have ix : pIdx st (partsD fs (chainOf fs)) (.int 0) = some (.str (chainOf fs)) := rfl
  simp only [Int.cast_ofNat_Int] at f2
  unfold F_stamp_of m_stamp_of stD
  unfold tr at f4
  cases hk : keepsB fs (beg (chainOf fs) n) <;> rw [hk] at f4 <;> simp [p, z, f1, f2, f3, p2, z2, f4, ix, f5, retD]
end DL.SH
namespace DL.SH
open PySem PySem.Spec L2 DL
/-! ### two books -/
def stO (fs : List Fact) (n : Nat) : Option (List Nat) := if keepsB fs (beg (chainOf fs) n) = true then some (beg (chainOf fs) n) else none
def oD : Option (List Nat) → D
  | some w => .str w
  | none => .non
theorem stD_eq (fs : List Fact) (n : Nat) : stD fs n = oD (stO fs n) := by
  unfold stD stO
  split <;> rfl
theorem oD_frz (o : Option (List Nat)) : frz (oD o) = oD o := by cases o <;> rfl
theorem oD_plain (o : Option (List Nat)) : plain (oD o) = true := by cases o <;> rfl
theorem oD_ret (o : Option (List Nat)) : retD (oD o) = oD o := by cases o <;> rfl
def minO : Option (List Nat) → Option (List Nat) → List Nat
  | some x, some y => if y < x then y else x
  | some x, none => x
  | none, some y => y
  | none, none => []
theorem minL1 {st : Store} {x : List Nat} : pMinL st [.lst [.str x]] = some (.str x) := rfl
theorem minL1n {st : Store} {x : List Nat} : pMinL st [.new [.str x]] = some (.str x) := rfl
theorem best2 (x y : List Nat) : [x, y].getD (bestS [x, y]) [] = if y < x then y else x := by
  show [x, y].getD (if decide ([x, y].getD 1 [] < [x, y].getD 0 []) = true then 1 else 0) [] = _
  by_cases h : y < x <;> simp [h]
theorem minL2 {st : Store} {x y : List Nat} : pMinL st [.lst [.str x, .str y]] = some (.str (if y < x then y else x)) := by
  rw [← best2]; rfl
theorem minL2n {st : Store} {x y : List Nat} : pMinL st [.new [.str x, .str y]] = some (.str (if y < x then y else x)) := by
  rw [← best2]; rfl
theorem ne_oD {st : Store} (a b : Option (List Nat)) : pNe st (oD a) (oD b) = some (.bl (a != b)) := by
  cases a <;> cases b <;> rfl
def diffB (fs gs : List Fact) (n : Nat) : Bool := stO fs n != stO gs n
/-- the first stamp of just one of two books, below a size -/
def partTo (fs gs : List Fact) (N : Nat) : Option (List Nat) := ((List.range N).find? (diffB fs gs)).map fun n => minO (stO fs n) (stO gs n)
theorem t_stamp_at {st : Store} {fs : List Fact} (B : Book fs) {n : Nat} (hn : n ≤ 15000) : F_stamp_at [partsD fs (chainOf fs), .int n] st = .ok (oD (stO fs n)) st := by
  obtain ⟨c1, c2, c3⟩ := chain_ok B.ok
  have f4 := t_there (st := st) B.ok c2 c3 n
  have f5 := t_beg (st := st) (ch := chainOf fs) (n := n) c2 (by omega) hn
  have p2 : plain (partsD fs (chainOf fs)) = true := rfl
  have z2 : frz (partsD fs (chainOf fs)) = partsD fs (chainOf fs) := rfl
  have ix : pIdx st (partsD fs (chainOf fs)) (.int 0) = some (.str (chainOf fs)) := rfl
  unfold F_stamp_at m_stamp_at stO
  unfold tr at f4
  cases hk : keepsB fs (beg (chainOf fs) n) <;> rw [hk] at f4 <;> simp [p2, z2, f4, ix, f5, retD, oD]
theorem isn_non {st : Store} : pIsNot st .non .non = some (.bl false) := rfl
theorem isn_str {st : Store} {w : List Nat} : pIsNot st (.str w) .non = some (.bl true) := rfl
/-- what is there of two -/
def both : Option (List Nat) → Option (List Nat) → List D
  | some x, some y => [.str x, .str y]
  | some x, none => [.str x]
  | none, some y => [.str y]
  | none, none => []
theorem comp_both {ρ : Env_} {st : Store} {i : Nat} (hi : i < ρ.length) (a b : Option (List Nat)) : compS (gName i) (tV (eBin pIsNot (eVar i) (eC .non))) (eVar i) ρ [oD a, oD b] [] st = .ok (both a b) st := by
  have e1 : ∀ d, (ρ.set i (some d))[i]? = some (some d) := fun d => List.getElem?_set_self hi
  cases a <;> cases b <;> simp [compS, oD, gName, e1, quietR, isn_non, isn_str, both]
theorem part_loop {st : Store} {fs gs : List Fact} (A : Book fs) (B : Book gs) : ∀ (L : List Nat) (a4 a5 a6 a7 : Option D), (∀ n ∈ L, n ≤ 15000) → ∃ ρ', loopS (gName 4) b1_first_parting (L.map fun (j : Nat) => D.int (j : Int)) [some (fsD fs), some (fsD gs), some (partsD fs (chainOf fs)), some (partsD gs (chainOf gs)), a4, a5, a6, a7] st =
      match L.find? (diffB fs gs) with
      | some n => .go (.rt (.str (minO (stO fs n) (stO gs n)))) ρ' st
      | none => .go .nx ρ' st := by
  have p2 : ∀ fs, plain (partsD fs (chainOf fs)) = true := fun _ => rfl
  have z2 : ∀ fs, frz (partsD fs (chainOf fs)) = partsD fs (chainOf fs) := fun _ => rfl
  intro L
  induction L with
  | nil => intro a4 a5 a6 a7 _; exact ⟨_, rfl⟩
  | cons n L ih =>
    intro a4 a5 a6 a7 hL
    have hn := hL n (List.mem_cons_self ..)
    have g1 := t_stamp_at (st := st) A hn
    have g2 := t_stamp_at (st := st) B hn
    obtain ⟨ρ', e⟩ := ih (some (.int (n : Int))) (some (oD (stO fs n))) (some (oD (stO gs n))) a7 fun m hm => hL m (List.mem_cons_of_mem _ hm)
    rw [List.map_cons, loop_cons (ρ1 := [some (fsD fs), some (fsD gs), some (partsD fs (chainOf fs)), some (partsD gs (chainOf gs)), some (.int (n : Int)), a5, a6, a7]) rfl, List.find?_cons]
    have hc := comp_both (ρ := [some (fsD fs), some (fsD gs), some (partsD fs (chainOf fs)), some (partsD gs (chainOf gs)), some (.int (n : Int)), some (oD (stO fs n)), some (oD (stO gs n)), none]) (st := st) (i := 7) (by simp) (stO fs n) (stO gs n)
    have hne := ne_oD (st := st) (stO fs n) (stO gs n)
    cases hd : diffB fs gs n with
    | false =>
      refine ⟨ρ', ?_⟩
      unfold diffB at hd
      rw [hd] at hne
      have eb : b1_first_parting [some (fsD fs), some (fsD gs), some (partsD fs (chainOf fs)), some (partsD gs (chainOf gs)), some (.int (n : Int)), a5, a6, a7] st = .go .nx [some (fsD fs), some (fsD gs), some (partsD fs (chainOf fs)), some (partsD gs (chainOf gs)), some (.int (n : Int)), some (oD (stO fs n)), some (oD (stO gs n)), a7] st := by
        unfold b1_first_parting
        simp [ev_par, p2, z2, g1, g2, rsO, setAll, oD_frz, oD_plain, hne]
      rw [eb]
      exact e
    | true =>
      unfold diffB at hd
      rw [hd] at hne
      have hm : pMinL st [.new (both (stO fs n) (stO gs n))] = some (.str (minO (stO fs n) (stO gs n))) := by
        cases h1 : stO fs n <;> cases h2 : stO gs n
        · rw [h1, h2] at hd; cases hd
        · rfl
        · rfl
        · exact minL2n
      have hm' : pMinL st [.lst (both (stO fs n) (stO gs n))] = some (.str (minO (stO fs n) (stO gs n))) := hm
      have it : itemsV (.tup [oD (stO fs n), oD (stO gs n)]) = some [oD (stO fs n), oD (stO gs n)] := rfl
      refine ⟨[some (fsD fs), some (fsD gs), some (partsD fs (chainOf fs)), some (partsD gs (chainOf gs)), some (.int (n : Int)), some (oD (stO fs n)), some (oD (stO gs n)), a7], ?_⟩
      have eb : b1_first_parting [some (fsD fs), some (fsD gs), some (partsD fs (chainOf fs)), some (partsD gs (chainOf gs)), some (.int (n : Int)), a5, a6, a7] st = .go (.rt (.str (minO (stO fs n) (stO gs n)))) [some (fsD fs), some (fsD gs), some (partsD fs (chainOf fs)), some (partsD gs (chainOf gs)), some (.int (n : Int)), some (oD (stO fs n)), some (oD (stO gs n)), a7] st := by
        unfold b1_first_parting
        simp [ev_par, p2, z2, g1, g2, rsO, setAll, oD_frz, oD_plain, hne, it, wipeD, hc, hm, hm']
      rw [eb]
      rfl
theorem t_first_parting {st : Store} {fs gs : List Fact} (A : Book fs) (B : Book gs) : ∃ N, 81 ≤ N ∧ F_first_parting [fsD fs, fsD gs] st = .ok (oD (partTo fs gs N)) st := by
  obtain ⟨_, a2, a3⟩ := chain_ok A.ok
  obtain ⟨_, b2, b3⟩ := chain_ok B.ok
  have f1 := t_parts (st := st) A.ok (by have := A.h2; omega) A.tie
  have f2 := t_parts (st := st) B.ok (by have := B.h2; omega) B.tie
  have p : ∀ fs, plain (fsD fs) = true := fun _ => rfl
  have z : ∀ fs, frz (fsD fs) = fsD fs := fun _ => rfl
  have p2 : ∀ fs, plain (partsD fs (chainOf fs)) = true := fun _ => rfl
  have z2 : ∀ fs, frz (partsD fs (chainOf fs)) = partsD fs (chainOf fs) := fun _ => rfl
  have ix : ∀ fs st, pIdx st (partsD fs (chainOf fs)) (.int 0) = some (.str (chainOf fs)) := fun _ _ => rfl
  have key := part_loop (st := st) A B
  have q : (chainOf fs).length * (chainOf gs).length ≤ 16 * 16 := Nat.mul_le_mul a3 b3
  obtain ⟨m, hm⟩ : ∃ m, (chainOf fs).length * (chainOf gs).length = m := ⟨_, rfl⟩
  have hmi : ((chainOf fs).length : Int) * ((chainOf gs).length : Int) = (m : Int) := by rw [← hm, Int.natCast_mul]
  rw [hm] at q
  obtain ⟨ρ', e⟩ := key (List.range (96 + m + 32)) none none none none fun n hn => by have := List.mem_range.mp hn; omega
  refine ⟨96 + m + 32, by omega, ?_⟩
  have hmul : pMul st (.int ((chainOf fs).length : Int)) (.int ((chainOf gs).length : Int)) = some (.int (m : Int)) := by
    have h := ev_mul' (st := st) (a := ((chainOf fs).length : Int)) (b := ((chainOf gs).length : Int)) (by omega)
    rw [hmi] at h
    exact h
  have hr : rng1 [.int (96 + (m : Int) + 32)] = some ((List.range (96 + m + 32)).map fun (j : Nat) => D.int (j : Int)) := by
    have h := rng_to (n := 96 + m + 32) (by omega)
    rw [show ((96 + m + 32 : Nat) : Int) = 96 + (m : Int) + 32 by omega] at h
    exact h
  have pa := p2 fs
  have pb := p2 gs
  have za := z2 fs
  have zb := z2 gs
  have ia : ∀ st, pIdx st (partsD fs (chainOf fs)) (.int 0) = some (.str (chainOf fs)) := fun _ => rfl
  have ib : ∀ st, pIdx st (partsD gs (chainOf gs)) (.int 0) = some (.str (chainOf gs)) := fun _ => rfl
  have pf := p fs
  have pg := p gs
  have zf := z fs
  have zg := z gs
  unfold F_first_parting m_first_parting partTo
  clear p2 z2 ix p z key
  generalize partsD fs (chainOf fs) = P1 at *
  generalize partsD gs (chainOf gs) = P2 at *
  have add1 : pAdd st (.int 96) (.int (m : Int)) = some (.int (96 + (m : Int))) := rfl
  have add2 : pAdd st (.int (96 + (m : Int))) (.int 32) = some (.int (96 + (m : Int) + 32)) := rfl
  generalize 96 + (m : Int) = x1 at *
  generalize x1 + 32 = x2 at *
  generalize List.range (96 + m + 32) = L at e hr ⊢
  have s1 : sPar [2, 3] (eCons (eFn F_parts_of (eCons (eVar 0) eNil)) (eCons (eFn F_parts_of (eCons (eVar 1) eNil)) eNil)) [some (fsD fs), some (fsD gs), none, none, none, none, none, none] st = .go .nx [some (fsD fs), some (fsD gs), some P1, some P2, none, none, none, none] st := by
    simp [ev_par, pf, pg, zf, zg, f1, f2, rsO, setAll, pa, pb, za, zb]
  have s2 : iRng1D (eCons (eBin pAdd (eBin pAdd (eC (.int 96)) (eBin pMul (eCallP pLen (eCons (eIdx (eVar 2) (eC (.int 0))) eNil)) (eCallP pLen (eCons (eIdx (eVar 3) (eC (.int 0))) eNil)))) (eC (.int 32))) eNil) [some (fsD fs), some (fsD gs), some P1, some P2, none, none, none, none] st = .ok (L.map fun (j : Nat) => D.int (j : Int)) st := by
    have t1 : eIdx (eVar 2) (eC (.int 0)) [some (fsD fs), some (fsD gs), some P1, some P2, none, none, none, none] st = .ok (.str (chainOf fs)) st := by
      show R.of (pIdx st P1 (.int 0)) st = _
      rw [ia]; rfl
    have t2 : eIdx (eVar 3) (eC (.int 0)) [some (fsD fs), some (fsD gs), some P1, some P2, none, none, none, none] st = .ok (.str (chainOf gs)) st := by
      show R.of (pIdx st P2 (.int 0)) st = _
      rw [ib]; rfl
    have t3 : eCallP pLen (eCons (eIdx (eVar 2) (eC (.int 0))) eNil) [some (fsD fs), some (fsD gs), some P1, some P2, none, none, none, none] st = .ok (.int ((chainOf fs).length : Int)) st := by
      rw [ev_callP, ev_cons, t1]; rfl
    have t4 : eCallP pLen (eCons (eIdx (eVar 3) (eC (.int 0))) eNil) [some (fsD fs), some (fsD gs), some P1, some P2, none, none, none, none] st = .ok (.int ((chainOf gs).length : Int)) st := by
      rw [ev_callP, ev_cons, t2]; rfl
    have t5 : eBin pMul (eCallP pLen (eCons (eIdx (eVar 2) (eC (.int 0))) eNil)) (eCallP pLen (eCons (eIdx (eVar 3) (eC (.int 0))) eNil)) [some (fsD fs), some (fsD gs), some P1, some P2, none, none, none, none] st = .ok (.int (m : Int)) st := by
      rw [ev_bin, t3, bind_ok, t4, bind_ok, hmul]; rfl
    have t6 : eBin pAdd (eC (.int 96)) (eBin pMul (eCallP pLen (eCons (eIdx (eVar 2) (eC (.int 0))) eNil)) (eCallP pLen (eCons (eIdx (eVar 3) (eC (.int 0))) eNil))) [some (fsD fs), some (fsD gs), some P1, some P2, none, none, none, none] st = .ok (.int x1) st := by
      rw [ev_bin, ev_c, bind_ok, t5, bind_ok, add1]; rfl
    have t7 : eBin pAdd (eBin pAdd (eC (.int 96)) (eBin pMul (eCallP pLen (eCons (eIdx (eVar 2) (eC (.int 0))) eNil)) (eCallP pLen (eCons (eIdx (eVar 3) (eC (.int 0))) eNil)))) (eC (.int 32)) [some (fsD fs), some (fsD gs), some P1, some P2, none, none, none, none] st = .ok (.int x2) st := by
      rw [ev_bin, t6, bind_ok, ev_c, bind_ok, add2]; rfl
    rw [ev_rng1, ev_cons, t7, bind_ok, ev_nil, bind_ok, bind_ok, ev_frz_int, hr]; rfl
  rw [ev_fm]
  show finR (sSeq (sPar [2, 3] (eCons (eFn F_parts_of (eCons (eVar 0) eNil)) (eCons (eFn F_parts_of (eCons (eVar 1) eNil)) eNil))) _ [some (fsD fs), some (fsD gs), none, none, none, none, none, none] st) = _
  rw [ev_seq, s1, then_nx, ev_seq, ev_for, s2, ev_ofe]
  cases hf : L.find? (diffB fs gs) with
  | none =>
    rw [hf] at e
    rw [e, then_nx]
    rfl
  | some n =>
    rw [hf] at e
    rw [e, ev_then_rt]
    rfl
end DL.SH
namespace DL.SH
open PySem PySem.Spec L2 DL
theorem words_eq {c d : Nat → Nat} {p q m : Nat} (p0 : 1 ≤ p) (q0 : 1 ≤ q) (pc : ∀ i, c (i + p) = c i) (pd : ∀ i, d (i + q) = d i) (hm : p + q ≤ m) (h : ∀ i, i < m → c i = d i) : ∀ n i, i < n → c i = d i
  | 0, i, hi => by omega
  | n + 1, i, hi => by
    by_cases him : i < m
    · exact h i him
    · have ih := words_eq p0 q0 pc pd hm h n
      have e1 : c i = c (i - p) := by rw [← pc (i - p), show i - p + p = i by omega]
      have e2 : d (i - p) = d (i - p - q) := by rw [← pd (i - p - q), show i - p - q + q = i - p by omega]
      have e3 : c (i - q) = c (i - p - q) := by rw [← pc (i - p - q), show i - p - q + p = i - q by omega]
      have e4 : d i = d (i - q) := by rw [← pd (i - q), show i - q + q = i by omega]
      rw [e1, ih (i - p) (by omega), e2, ← ih (i - p - q) (by omega), ← e3, ih (i - q) (by omega), e4]
theorem stO_some {fs : List Fact} {n : Nat} (h : keepsB fs (beg (chainOf fs) n) = true) : stO fs n = some (beg (chainOf fs) n) := if_pos h
theorem stO_none {fs : List Fact} {n : Nat} (h : keepsB fs (beg (chainOf fs) n) = false) : stO fs n = none := by unfold stO; rw [h]; rfl
theorem stO_tell {fs : List Fact} {n : Nat} {w : List Nat} (h : stO fs n = some w) : keepsB fs (beg (chainOf fs) n) = true ∧ w = beg (chainOf fs) n := by
  unfold stO at h
  split at h
  · next k => exact ⟨k, (Option.some.inj h).symm⟩
  · cases h
/-- a difference comes early -/
theorem diff_early {fs gs : List Fact} (A : Book fs) (B : Book gs) (h : ∀ n, n < 81 → stO fs n = stO gs n) (n : Nat) : stO fs n = stO gs n := by
  by_cases hn : n < 81
  · exact h n hn
  obtain ⟨_, p0, p1⟩ := chain_ok A.ok
  obtain ⟨_, q0, q1⟩ := chain_ok B.ok
  have mp := Nat.mod_lt (n - 61) (show 0 < (chainOf fs).length by omega)
  have mq := Nat.mod_lt (n - 61) (show 0 < (chainOf gs).length by omega)
  by_cases hex : ∃ m, 61 ≤ m ∧ m < 81 ∧ keepsB fs (beg (chainOf fs) m) = true
  · obtain ⟨m, m1, m2, hk⟩ := hex
    have e := h m m2
    rw [stO_some hk] at e
    obtain ⟨_, ew⟩ := stO_tell e.symm
    have hcd : ∀ i, chA (chainOf fs) i = chA (chainOf gs) i := fun i => words_eq p0 q0 (chA_per _) (chA_per _) (show _ ≤ m by omega) (wd_eq.mp ew) (i + 1) i (by omega)
    have ef : chA (chainOf fs) = chA (chainOf gs) := funext hcd
    have eb : ∀ k, beg (chainOf gs) k = beg (chainOf fs) k := fun k => by unfold beg; rw [ef]
    have k1 : keepsB fs (beg (chainOf fs) n) = keepsB fs (beg (chainOf fs) (61 + (n - 61) % (chainOf fs).length)) := keeps_mod A.ok (by omega) p1 (chA_per _) (by omega) (by omega)
    have k2 : keepsB gs (beg (chainOf fs) n) = keepsB gs (beg (chainOf fs) (61 + (n - 61) % (chainOf fs).length)) := keeps_mod B.ok (by omega) p1 (chA_per _) (by omega) (by omega)
    have e2 := h (61 + (n - 61) % (chainOf fs).length) (by omega)
    cases hv : keepsB fs (beg (chainOf fs) (61 + (n - 61) % (chainOf fs).length)) with
    | true =>
      rw [stO_some hv] at e2
      obtain ⟨g1, _⟩ := stO_tell e2.symm
      rw [eb, ← k2] at g1
      rw [stO_some (k1.trans hv), stO_some (by rw [eb]; exact g1), eb]
    | false =>
      rw [stO_none hv] at e2
      have g1 : keepsB gs (beg (chainOf gs) (61 + (n - 61) % (chainOf fs).length)) = false := by
        cases g : keepsB gs (beg (chainOf gs) (61 + (n - 61) % (chainOf fs).length)) with
        | false => rfl
        | true => rw [stO_some g] at e2; cases e2
      rw [eb, ← k2] at g1
      rw [stO_none (k1.trans hv), stO_none (by rw [eb]; exact g1)]
  · have no : ∀ m, 61 ≤ m → m < 81 → keepsB fs (beg (chainOf fs) m) = false := fun m m1 m2 => by
      cases hv : keepsB fs (beg (chainOf fs) m) with
      | false => rfl
      | true => exact absurd ⟨m, m1, m2, hv⟩ hex
    have no2 : ∀ m, 61 ≤ m → m < 81 → keepsB gs (beg (chainOf gs) m) = false := fun m m1 m2 => by
      cases hv : keepsB gs (beg (chainOf gs) m) with
      | false => rfl
      | true =>
        have e := h m m2
        rw [stO_some hv, stO_none (no m m1 m2)] at e
        cases e
    have k1 : keepsB fs (beg (chainOf fs) n) = keepsB fs (beg (chainOf fs) (61 + (n - 61) % (chainOf fs).length)) := keeps_mod A.ok (by omega) p1 (chA_per _) (by omega) (by omega)
    have k2 : keepsB gs (beg (chainOf gs) n) = keepsB gs (beg (chainOf gs) (61 + (n - 61) % (chainOf gs).length)) := keeps_mod B.ok (by omega) q1 (chA_per _) (by omega) (by omega)
    rw [stO_none (k1.trans (no _ (by omega) (by omega))), stO_none (k2.trans (no2 _ (by omega) (by omega)))]
theorem diff_no {fs gs : List Fact} {n : Nat} : diffB fs gs n = false ↔ stO fs n = stO gs n := by
  unfold diffB
  rw [bne_eq_false_iff_eq]
theorem part_81 {fs gs : List Fact} (A : Book fs) (B : Book gs) {N : Nat} (hN : 81 ≤ N) : partTo fs gs N = partTo fs gs 81 := by
  have e : List.range N = List.range 81 ++ (List.range (N - 81)).map (81 + ·) := by
    rw [← List.range_add, show 81 + (N - 81) = N by omega]
  unfold partTo
  rw [e, List.find?_append]
  cases h : (List.range 81).find? (diffB fs gs) with
  | some n => rfl
  | none =>
    rw [List.find?_eq_none] at h
    have all := diff_early A B fun n hn => by
      have := h n (List.mem_range.mpr hn)
      rw [Bool.not_eq_true] at this
      exact diff_no.mp this
    have h2 : ((List.range (N - 81)).map (81 + ·)).find? (diffB fs gs) = none := by
      rw [List.find?_eq_none]
      intro n _
      rw [Bool.not_eq_true]
      exact diff_no.mpr (all n)
    rw [h2]
    rfl
theorem t_both {st : Store} {fs gs : List Fact} (A : Book fs) (B : Book gs) : F_need_both [fsD fs, fsD gs] st = .ok .non st := by
  have p : ∀ fs, plain (fsD fs) = true := fun _ => rfl
  have z : ∀ fs, frz (fsD fs) = fsD fs := fun _ => rfl
  unfold F_need_both m_need_both
  simp [p, z, t_needB A, t_needB B]
theorem t_parting {st : Store} {fs gs : List Fact} (A : Book fs) (B : Book gs) : F_parting [fsD fs, fsD gs] st = .ok (oD (partTo fs gs 81)) st := by
  have p : ∀ fs, plain (fsD fs) = true := fun _ => rfl
  have z : ∀ fs, frz (fsD fs) = fsD fs := fun _ => rfl
  obtain ⟨N, hN, e⟩ := t_first_parting (st := st) A B
  rw [part_81 A B hN] at e
  unfold F_parting m_parting
  simp [p, z, t_both A B, e, oD_ret]
theorem is_oD {st : Store} (o : Option (List Nat)) : pIs st (oD o) .non = some (.bl o.isNone) := by cases o <;> rfl
theorem t_alike {st : Store} {fs gs : List Fact} (A : Book fs) (B : Book gs) : F_alike [fsD fs, fsD gs] st = .ok (.bl (partTo fs gs 81).isNone) st := by
  have p : ∀ fs, plain (fsD fs) = true := fun _ => rfl
  have z : ∀ fs, frz (fsD fs) = fsD fs := fun _ => rfl
  obtain ⟨N, hN, e⟩ := t_first_parting (st := st) A B
  rw [part_81 A B hN] at e
  unfold F_alike m_alike
  simp [p, z, t_both A B, e, is_oD, retD]
theorem book_of {fs : List Fact} (ho : okAll fs) (ht : tied1 fs) (hl : fs.length ≤ 6) : Book fs := by
  obtain ⟨a, b, r, rfl, hab⟩ := ht
  refine ⟨ho, by simp, hl, ?_⟩
  have : tieB (.same a b) = true := by simpa [tieB] using hab
  unfold tieOf
  rw [List.filter_cons_of_pos this]
  simp
/-- what both raise -/
theorem t_alikeBad {st : Store} {n d : Nat} {v : D} (hn : n ≤ 100000) (hv : okV n d v) (h : isFacts v = false) : F_alike [v, .non] st = .exn exF st := by
  have q : F_need_both [v, .non] st = .exn exF st := by
    unfold F_need_both m_need_both
    simp [okV_plain hv, okV_frz hv, t_needBad hn hv h]
  unfold F_alike m_alike
  simp [okV_plain hv, okV_frz hv, q]
theorem t_alikeFree {st : Store} {fs : List Fact} (ho : okAll fs) (h1 : 1 ≤ fs.length) (h2 : fs.length ≤ 6) (h : tieOf fs = none) : F_alike [fsD fs, .non] st = .exn exFree st := by
  have p : ∀ fs, plain (fsD fs) = true := fun _ => rfl
  have z : ∀ fs, frz (fsD fs) = fsD fs := fun _ => rfl
  have q : F_need_both [fsD fs, .non] st = .exn exFree st := by
    unfold F_need_both m_need_both
    simp [p, z, t_needFree ho h1 h2 h]
  unfold F_alike m_alike
  simp [p, z, q]
theorem t_partingFree {st : Store} {fs gs : List Fact} (A : Book fs) (ho : okAll gs) (h1 : 1 ≤ gs.length) (h2 : gs.length ≤ 6) (h : tieOf gs = none) : F_parting [fsD fs, fsD gs] st = .exn exFree st := by
  have p : ∀ fs, plain (fsD fs) = true := fun _ => rfl
  have z : ∀ fs, frz (fsD fs) = fsD fs := fun _ => rfl
  have q : F_need_both [fsD fs, fsD gs] st = .exn exFree st := by
    unfold F_need_both m_need_both
    simp [p, z, t_needB A, t_needFree ho h1 h2 h]
  unfold F_parting m_parting
  simp [p, z, q]
theorem t_partingBad {st : Store} {n d : Nat} {fs : List Fact} {v : D} (B : Book fs) (hn : n ≤ 100000) (hv : okV n d v) (h : isFacts v = false) : F_parting [fsD fs, v] st = .exn exF st := by
  have p : ∀ fs, plain (fsD fs) = true := fun _ => rfl
  have z : ∀ fs, frz (fsD fs) = fsD fs := fun _ => rfl
  have q : F_need_both [fsD fs, v] st = .exn exF st := by
    unfold F_need_both m_need_both
    simp [p, z, okV_plain hv, okV_frz hv, t_needB B, t_needBad hn hv h]
  unfold F_parting m_parting
  simp [p, z, okV_plain hv, okV_frz hv, q]
end DL.SH
namespace DL.SH
open PySem PySem.Spec L2 DL
/-! ### written facts -/
def okFactB : Fact → Bool
  | .same a b => a.all (fun c => decide (c ∈ abcX)) && decide (a.length ≤ 16) && b.all (fun c => decide (c ∈ abcX)) && decide (b.length ≤ 16)
  | .begins x => x.all (fun c => decide (c ∈ abc)) && decide (1 ≤ x.length) && decide (x.length ≤ 8)
  | .ends x => x.all (fun c => decide (c ∈ abc)) && decide (1 ≤ x.length) && decide (x.length ≤ 8)
  | .least n => decide (n ≤ 60)
  | .most n => decide (n ≤ 60)
theorem okFactB_ok {f : Fact} (h : okFactB f = true) : f.ok := by
  cases f <;> simp only [okFactB, Bool.and_eq_true, decide_eq_true_eq, List.all_eq_true] at h
  · exact ⟨h.1.1.1, h.1.1.2, h.1.2, h.2⟩
  · exact ⟨h.1.1, h.1.2, h.2⟩
  · exact ⟨h.1.1, h.1.2, h.2⟩
  · exact h
  · exact h
def bookB (fs : List Fact) : Bool := fs.all okFactB && decide (1 ≤ fs.length) && decide (fs.length ≤ 6) && (tieOf fs).isSome
theorem bookB_ok {fs : List Fact} (h : bookB fs = true) : Book fs := by
  simp only [bookB, Bool.and_eq_true, decide_eq_true_eq, List.all_eq_true] at h
  refine ⟨fun f hf => okFactB_ok (h.1.1.1 f hf), h.1.1.2, h.1.2, fun e => ?_⟩
  rw [e] at h
  cases h.2
theorem t_parts81 {st : Store} {fs gs : List Fact} {o : Option (List Nat)} (h1 : bookB fs = true) (h2 : bookB gs = true) (h : partTo fs gs 81 = o) : F_parting [fsD fs, fsD gs] st = .ok (oD o) st := by
  rw [t_parting (bookB_ok h1) (bookB_ok h2), h]
theorem t_alike81 {st : Store} {fs gs : List Fact} {b : Bool} (h1 : bookB fs = true) (h2 : bookB gs = true) (h : (partTo fs gs 81).isNone = b) : F_alike [fsD fs, fsD gs] st = .ok (.bl b) st := by
  rw [t_alike (bookB_ok h1) (bookB_ok h2), h]
end DL.SH
namespace DL.SH
open PySem PySem.Spec L2 DL
/-! ### a chain is no shorter word, again and again; the sizes of a tied stamp stand in one row -/
def Per (c : Nat → Nat) (p : Nat) : Prop := ∀ i, c (i + p) = c i
theorem Per.gcd {c : Nat → Nat} : ∀ (p q : Nat), Per c p → Per c q → Per c (Nat.gcd p q) := by
  intro p q
  induction p, q using Nat.gcd.induction with
  | H0 q => intro _ h; rw [Nat.gcd_zero_left]; exact h
  | H1 p q hp ih =>
    intro h1 h2
    rw [Nat.gcd_rec]
    refine ih (fun i => ?_) h1
    rw [← per_mul h1 (i + q % p) (q / p), show i + q % p + q / p * p = i + q by
      have := Nat.mod_add_div q p
      rw [Nat.mul_comm] at this
      omega]
    exact h2 i
def prim (r : List Nat) : Prop := ∀ d, 1 ≤ d → d < r.length → rootB r d = false
theorem rootB_iff {w : List Nat} {s : Nat} (h1 : 1 ≤ s) (h2 : s ≤ w.length) : rootB w s = true ↔ (w.length % s = 0 ∧ ∀ i, i < w.length → w[i]? = w[i % s]?) := by
  unfold rootB
  rw [Bool.and_eq_true, beq_iff_eq, beq_iff_eq]
  refine and_congr_right fun hm => ?_
  have hlen : (w.take s).length = s := by rw [List.length_take]; omega
  have hd : w.length / s * s = w.length := Nat.div_mul_cancel (Nat.dvd_of_mod_eq_zero hm)
  constructor
  · intro e i hi
    have q : (repL (w.length / s) (w.take s))[i]? = (w.take s)[i % s]? := by
      have := repL_at (l := w.take s) (k := w.length / s) (i := i) (by rw [hlen, hd]; exact hi)
      rw [hlen] at this
      exact this
    rw [e, List.getElem?_take_of_lt (Nat.mod_lt _ h1)] at q
    exact q
  · intro h
    apply List.ext_getElem?
    intro i
    by_cases hi : i < w.length
    · have := repL_at (l := w.take s) (k := w.length / s) (i := i) (by rw [hlen, hd]; exact hi)
      rw [hlen] at this
      rw [this, List.getElem?_take_of_lt (Nat.mod_lt _ h1), ← h i hi]
    · rw [List.getElem?_eq_none (by rw [len_repL, hlen, hd]; omega), List.getElem?_eq_none (by omega)]
theorem find_first {f : Nat → Bool} {n s : Nat} (h : ((List.range n).map (· + 1)).find? f = some s) : ∀ d, 1 ≤ d → d < s → f d = false := by
  rw [List.find?_eq_some_iff_getElem] at h
  obtain ⟨_, i, hi, e, h⟩ := h
  intro d h1 h2
  simp only [List.getElem_map, List.getElem_range] at e h
  have := h (d - 1) (by omega)
  rw [show d - 1 + 1 = d by omega] at this
  simpa using this
theorem root_div {w : List Nat} (h : 1 ≤ w.length) : 1 ≤ (leastRoot w).length ∧ (leastRoot w).length ≤ w.length ∧ w.length % (leastRoot w).length = 0 ∧ ∀ i, i < w.length → w[i]? = (leastRoot w)[i % (leastRoot w).length]? := by
  refine ⟨root_pos h, rootB_len, ?_⟩
  unfold leastRoot
  split
  · next s e =>
    have hm := List.mem_of_find?_eq_some e
    obtain ⟨j, hj, rfl⟩ := List.mem_map.mp hm
    have hj := List.mem_range.mp hj
    have hb := List.find?_some e
    obtain ⟨q1, q2⟩ := (rootB_iff (by omega) (by omega)).mp hb
    have hlen : (w.take (j + 1)).length = j + 1 := by rw [List.length_take]; omega
    rw [hlen]
    exact ⟨q1, fun i hi => by rw [List.getElem?_take_of_lt (Nat.mod_lt _ (by omega))]; exact q2 i hi⟩
  · exact ⟨Nat.mod_self _, fun i hi => by rw [Nat.mod_eq_of_lt hi]⟩
theorem root_prim {w : List Nat} (h : 1 ≤ w.length) : prim (leastRoot w) := by
  obtain ⟨p1, p2, p3, p4⟩ := root_div h
  intro d d1 d2
  rw [← Bool.not_eq_true]
  intro hb
  obtain ⟨q1, q2⟩ := (rootB_iff d1 (by omega)).mp hb
  have hw : rootB w d = true := by
    refine (rootB_iff d1 (by omega)).mpr ⟨?_, fun i hi => ?_⟩
    · exact Nat.mod_eq_zero_of_dvd (Nat.dvd_trans (Nat.dvd_of_mod_eq_zero q1) (Nat.dvd_of_mod_eq_zero p3))
    · have hid : i % d < w.length := Nat.lt_of_lt_of_le (Nat.mod_lt _ d1) (by omega)
      rw [p4 i hi, p4 _ hid, q2 _ (Nat.mod_lt _ p1), Nat.mod_mod_of_dvd _ (Nat.dvd_of_mod_eq_zero q1)]
      rw [q2 (i % d % (leastRoot w).length) (Nat.mod_lt _ p1), Nat.mod_mod_of_dvd _ (Nat.dvd_of_mod_eq_zero q1), Nat.mod_mod]
  unfold leastRoot at hb d2
  split at d2
  · next s e =>
    rw [List.length_take] at d2
    have := find_first e d d1 (by omega)
    rw [this] at hw
    cases hw
  · next e =>
    have := List.find?_eq_none.mp e d (List.mem_map.mpr ⟨d - 1, List.mem_range.mpr (by omega), by omega⟩)
    exact this hw
theorem prim_dvd {r : List Nat} (h : prim r) (h0 : 1 ≤ r.length) {q : Nat} (hq : Per (chA r) q) : r.length ∣ q := by
  have g := Per.gcd r.length q (chA_per r) hq
  have d1 : Nat.gcd r.length q ∣ r.length := Nat.gcd_dvd_left ..
  have d2 : Nat.gcd r.length q ∣ q := Nat.gcd_dvd_right ..
  have gp : 1 ≤ Nat.gcd r.length q := Nat.pos_of_dvd_of_pos d1 h0
  have gle : Nat.gcd r.length q ≤ r.length := Nat.le_of_dvd h0 d1
  by_cases hg : Nat.gcd r.length q < r.length
  · exfalso
    have hb := h _ gp hg
    rw [← Bool.not_eq_true] at hb
    refine hb ((rootB_iff gp gle).mpr ⟨Nat.mod_eq_zero_of_dvd d1, fun i hi => ?_⟩)
    generalize Nat.gcd r.length q = d at *
    have e : chA r i = chA r (i % d) := by
      have := per_mul g (i % d) (i / d)
      rw [show i % d + i / d * d = i by
        have := Nat.mod_add_div i d
        rw [Nat.mul_comm] at this
        exact this] at this
      exact this
    have hid : i % d < r.length := Nat.lt_of_lt_of_le (Nat.mod_lt _ gp) (by omega)
    unfold chA at e
    rw [Nat.mod_eq_of_lt hi, Nat.mod_eq_of_lt hid, List.getD_eq_getElem?_getD, List.getD_eq_getElem?_getD, List.getElem?_eq_getElem hi, List.getElem?_eq_getElem hid] at e
    rw [List.getElem?_eq_getElem hi, List.getElem?_eq_getElem hid]
    exact congrArg some e
  · have e : Nat.gcd r.length q = r.length := by omega
    rw [e] at d2
    exact d2
theorem fill_app (a b w : List Nat) : fill (a ++ b) w = fill a w ++ fill b w := by
  induction a with
  | nil => rfl
  | cons c a ih =>
    by_cases h : c = 88
    · subst h
      rw [List.cons_append, fill_X, fill_X, ih, List.append_assoc]
    · rw [List.cons_append, fill_c h, fill_c h, ih]; rfl
theorem fill_abc {v w : List Nat} (h : Abc v) : fill v w = v := by
  induction v with
  | nil => rfl
  | cons c v ih =>
    have hc : c ≠ 88 := fun e => by
      have := h c (List.mem_cons_self ..)
      rw [e] at this
      revert this; decide
    rw [fill_c hc, ih fun x hx => h x (List.mem_cons_of_mem _ hx)]
theorem fill_pre {w v : List Nat} : ∀ (a : List Nat) (j : Nat), j ≤ w.length → j ≤ v.length → (∀ i, i ≤ j → w.take i = v.take i) → (fill a w).take j = (fill a v).take j
  | [], j, _, _, _ => by rw [fill_nil, fill_nil]
  | c :: a, j, h1, h2, h => by
    by_cases hc : c = 88
    · subst hc
      rw [fill_X, fill_X, List.take_append_of_le_length h1, List.take_append_of_le_length h2]
      exact h j (Nat.le_refl _)
    · rw [fill_c hc, fill_c hc]
      cases j with
      | zero => rfl
      | succ j => rw [List.take_succ_cons, List.take_succ_cons, fill_pre a j (by omega) (by omega) fun i hi => h i (by omega)]
/-- behind the first letters of a tie -/
theorem head_X {v A B w ch : List Nat} {n : Nat} (hw : w = beg ch n) (h0 : 1 ≤ ch.length) (hv : v.length % ch.length = 0) (hl : v.length ≤ n) (e : w ++ A = v ++ (w ++ B)) : ∀ i, i < v.length → A[i]? = some (chA ch (n + i)) := by
  intro i hi
  have q : (w ++ A)[n + i]? = (v ++ (w ++ B))[n + i]? := congrArg (fun l => l[n + i]?) e
  have wl : w.length = n := by rw [hw]; exact beg_len ..
  rw [List.getElem?_append_right (by omega), List.getElem?_append_right (by omega), List.getElem?_append_left (by omega), show n + i - w.length = i by omega] at q
  rw [q, hw]
  show (wd (chA ch) n)[_]? = _
  rw [wd_at, if_pos (by omega)]
  obtain ⟨k, hk⟩ := Nat.dvd_of_mod_eq_zero hv
  have := per_mul (chA_per ch) (n + i - v.length) k
  rw [show n + i - v.length + k * ch.length = n + i by rw [Nat.mul_comm]; omega] at this
  rw [this]
/-- two sizes, one row -/
theorem row_one {ch : List Nat} {n m k : Nat} (hp : prim ch) (h0 : 1 ≤ ch.length) (hk : ch.length ≤ k) (hnm : n ≤ m) (h : ∀ i, i < k → chA ch (n + i) = chA ch (m + i)) : n % ch.length = m % ch.length := by
  have all : ∀ i, chA ch (n + i) = chA ch (m + i) := fun i => by
    have e1 := per_mul (chA_per ch) (n + i % ch.length) (i / ch.length)
    have e2 := per_mul (chA_per ch) (m + i % ch.length) (i / ch.length)
    have hm := Nat.mod_add_div i ch.length
    rw [Nat.mul_comm] at hm
    rw [show n + i % ch.length + i / ch.length * ch.length = n + i by omega] at e1
    rw [show m + i % ch.length + i / ch.length * ch.length = m + i by omega] at e2
    rw [e1, e2]
    exact h _ (Nat.lt_of_lt_of_le (Nat.mod_lt _ h0) hk)
  have per : Per (chA ch) (m - n) := fun i => by
    have hle : n ≤ n * ch.length := Nat.le_mul_of_pos_right n h0
    have e1 := per_mul (chA_per ch) i n
    have e2 := per_mul (chA_per ch) (i + (m - n)) n
    rw [← e1, ← e2]
    have := all (i + n * ch.length - n)
    rw [show n + (i + n * ch.length - n) = i + n * ch.length by omega, show m + (i + n * ch.length - n) = i + (m - n) + n * ch.length by omega] at this
    exact this.symm
  obtain ⟨t, ht⟩ := prim_dvd hp h0 per
  rw [show m = n + ch.length * t by omega, Nat.add_mul_mod_self_left]
theorem beg_take {ch : List Nat} {n j : Nat} (h : j ≤ n) : (beg ch n).take j = beg ch j := wd_take h
theorem tie_row {v A B ch : List Nat} {n m : Nat} (hp : prim ch) (h0 : 1 ≤ ch.length) (hk : ch.length ≤ v.length) (hv : v.length % ch.length = 0) (hv16 : v.length ≤ 16) (hn : 16 ≤ n) (hm : 16 ≤ m)
    (e1 : beg ch n ++ fill A (beg ch n) = v ++ (beg ch n ++ fill B (beg ch n))) (e2 : beg ch m ++ fill A (beg ch m) = v ++ (beg ch m ++ fill B (beg ch m))) : n % ch.length = m % ch.length := by
  have key : ∀ i, i < v.length → chA ch (n + i) = chA ch (m + i) := fun i hi => by
    have q1 := head_X rfl h0 hv (by omega) e1 i hi
    have q2 := head_X rfl h0 hv (by omega) e2 i hi
    have t : (fill A (beg ch n)).take 16 = (fill A (beg ch m)).take 16 := fill_pre A 16 (by rw [beg_len]; omega) (by rw [beg_len]; omega) fun i hi => by rw [beg_take (by omega), beg_take (by omega)]
    have t := congrArg (fun l => l[i]?) t
    simp only [List.getElem?_take_of_lt (show i < 16 by omega)] at t
    rw [q1, q2] at t
    exact Option.some.inj t
  rcases Nat.le_total n m with h | h
  · exact row_one hp h0 hk h key
  · exact (row_one hp h0 hk h fun i hi => (key i hi).symm).symm
end DL.SH
namespace DL.SH
open PySem PySem.Spec L2 DL
theorem comm_take : ∀ (a b : List Nat), a.take (comm a b) = b.take (comm a b)
  | x :: a, y :: b => by
    unfold comm
    split
    · next h => rw [List.take_succ_cons, List.take_succ_cons, comm_take a b, h]
    · rfl
  | [], b => by simp [comm]
  | _ :: _, [] => by simp [comm]
theorem comm_drop : ∀ (a b : List Nat) {x y : Nat} {xs ys : List Nat}, a.drop (comm a b) = x :: xs → b.drop (comm a b) = y :: ys → x ≠ y
  | u :: a, v :: b, x, y, xs, ys => by
    unfold comm
    split
    · next h => rw [List.drop_succ_cons, List.drop_succ_cons]; exact comm_drop a b
    · next h =>
      intro e1 e2 e3
      simp only [List.drop_zero, List.cons.injEq] at e1 e2
      exact h (e1.1.trans (e3.trans e2.1.symm))
  | [], b, _, _, _, _ => by simp [comm]
  | _ :: _, [], _, _, _, _ => by simp [comm]
theorem fill_some {y : Nat} {ys w : List Nat} (hw : w ≠ []) : fill (y :: ys) w ≠ [] := by
  by_cases h : y = 88
  · subst h
    rw [fill_X]
    intro e
    exact hw (List.append_eq_nil_iff.mp e).1
  · rw [fill_c h]; simp
theorem letters_split (l : List Nat) : lettersAt l ++ l.dropWhile (fun c => decide (c ∈ abc)) = l := List.takeWhile_append_dropWhile
theorem rest_X {l : List Nat} (h : AbcX l) : l.dropWhile (fun c => decide (c ∈ abc)) = [] ∨ ∃ rs, l.dropWhile (fun c => decide (c ∈ abc)) = 88 :: rs := by
  cases e : l.dropWhile (fun c => decide (c ∈ abc)) with
  | nil => exact .inl rfl
  | cons r rs =>
    right
    have hm : r ∈ l := (List.dropWhile_sublist _).subset (by rw [e]; exact List.mem_cons_self ..)
    have hn : ¬ (r ∈ abc) := by
      have := List.head_dropWhile_not (p := fun c => decide (c ∈ abc)) (l := l) (by rw [e]; simp)
      simp only [e, List.head_cons] at this
      simpa using this
    have := h r hm
    have hr : r = 88 := by
      revert this hn
      simp only [abcX, abc, List.mem_cons, List.not_mem_nil, or_false]
      omega
    exact ⟨rs, by rw [hr]⟩
/-- what a tie says of long words -/
theorem side {x y : Nat} {xs ys : List Nat} (hx : x = 88) (hy : y ≠ 88) (ok : AbcX (y :: ys)) (hl : (y :: ys).length ≤ 16) :
    1 ≤ (lettersAt (y :: ys)).length ∧ orA (lettersAt (y :: ys)) = lettersAt (y :: ys) ∧ ((∀ w : List Nat, 17 ≤ w.length → fill (x :: xs) w ≠ fill (y :: ys) w) ∨
      ∃ A B, (lettersAt (y :: ys)).length ≤ 15 ∧ ∀ w, fill (x :: xs) w = fill (y :: ys) w → w ++ fill A w = lettersAt (y :: ys) ++ (w ++ fill B w)) := by
  subst hx
  have hya : y ∈ abc := by
    have := ok y (List.mem_cons_self ..)
    revert this hy
    simp only [abcX, abc, List.mem_cons, List.not_mem_nil, or_false]
    omega
  have hv : 1 ≤ (lettersAt (y :: ys)).length := by
    unfold lettersAt
    rw [List.takeWhile_cons, if_pos (by simpa using hya)]
    simp
  refine ⟨hv, ?_, ?_⟩
  · unfold orA
    rw [if_neg]
    intro e
    rw [e] at hv
    simp at hv
  · have sp := letters_split (y :: ys)
    have ha : Abc (lettersAt (y :: ys)) := letters_abc
    generalize lettersAt (y :: ys) = v at *
    rcases rest_X ok with e | ⟨rs, e⟩
    · left
      rw [e, List.append_nil] at sp
      intro w hw q
      rw [← sp, fill_abc ha, fill_X] at q
      have := congrArg List.length q
      rw [List.length_append] at this
      rw [← sp] at hl
      omega
    · right
      rw [e] at sp
      refine ⟨xs, rs, ?_, fun w q => ?_⟩
      · have := congrArg List.length sp
        rw [List.length_append, List.length_cons] at this
        omega
      · rw [← sp, fill_app, fill_abc ha, fill_X, fill_X] at q
        exact q
theorem tie_form {a b : List Nat} (hab : a ≠ b) (oa : AbcX a) (la : a.length ≤ 16) (ob : AbcX b) (lb : b.length ≤ 16) :
    (∀ w : List Nat, 17 ≤ w.length → fill a w ≠ fill b w) ∨ ∃ v A B, chainT a b = leastRoot v ∧ 1 ≤ v.length ∧ v.length ≤ 15 ∧ ∀ w, fill a w = fill b w → w ++ fill A w = v ++ (w ++ fill B w) := by
  have ct := comm_take a b
  have cd := @comm_drop a b
  have sa := List.take_append_drop (comm a b) a
  have sb := List.take_append_drop (comm a b) b
  have cut : ∀ w, fill a w = fill b w ↔ fill (a.drop (comm a b)) w = fill (b.drop (comm a b)) w := fun w => by
    have h1 : fill a w = fill (a.take (comm a b)) w ++ fill (a.drop (comm a b)) w := by rw [← fill_app, sa]
    have h2 : fill b w = fill (a.take (comm a b)) w ++ fill (b.drop (comm a b)) w := by rw [ct, ← fill_app, sb]
    rw [h1, h2]
    exact ⟨fun q => List.append_cancel_left q, fun q => by rw [q]⟩
  have oa' : AbcX (a.drop (comm a b)) := fun c hc => oa c ((List.drop_sublist _ _).subset hc)
  have ob' : AbcX (b.drop (comm a b)) := fun c hc => ob c ((List.drop_sublist _ _).subset hc)
  have la' : (a.drop (comm a b)).length ≤ 16 := by rw [List.length_drop]; omega
  have lb' : (b.drop (comm a b)).length ≤ 16 := by rw [List.length_drop]; omega
  unfold chainT
  cases ea : a.drop (comm a b) with
  | nil =>
    cases eb : b.drop (comm a b) with
    | nil =>
      rw [ea] at sa; rw [eb] at sb
      exact absurd (sa.symm.trans ((congrArg (· ++ []) ct).trans sb)) hab
    | cons y ys =>
      left
      intro w hw q
      rw [cut, ea, eb, fill_nil] at q
      exact fill_some (by intro e; rw [e] at hw; simp at hw) q.symm
  | cons x xs =>
    cases eb : b.drop (comm a b) with
    | nil =>
      left
      intro w hw q
      rw [cut, ea, eb, fill_nil] at q
      exact fill_some (by intro e; rw [e] at hw; simp at hw) q
    | cons y ys =>
      have hne := cd ea eb
      rw [ea] at oa' la'
      rw [eb] at ob' lb'
      simp only [List.take_succ_cons, List.take_zero, List.cons.injEq, and_true]
      by_cases hx : x = 88
      · have hy : y ≠ 88 := fun e => hne (hx.trans e.symm)
        obtain ⟨h1, h2, h3⟩ := side (xs := xs) hx hy ob' lb'
        rw [if_pos hx, h2]
        rcases h3 with h3 | ⟨A, B, h4, h5⟩
        · left
          intro w hw q
          rw [cut, ea, eb] at q
          exact h3 w hw q
        · right
          exact ⟨_, A, B, rfl, h1, h4, fun w q => by rw [cut, ea, eb] at q; exact h5 w q⟩
      · by_cases hy : y = 88
        · obtain ⟨h1, h2, h3⟩ := side (xs := ys) hy hx oa' la'
          rw [if_neg hx, if_pos hy, h2]
          rcases h3 with h3 | ⟨A, B, h4, h5⟩
          · left
            intro w hw q
            rw [cut, ea, eb] at q
            exact h3 w hw q.symm
          · right
            exact ⟨_, A, B, rfl, h1, h4, fun w q => by rw [cut, ea, eb] at q; exact h5 w q.symm⟩
        · left
          intro w hw q
          rw [cut, ea, eb, fill_c hx, fill_c hy] at q
          exact hne (List.cons.inj q).1
theorem chain_prim (fs : List Fact) : prim (chainOf fs) := by
  have k : ∀ l : List Nat, prim (leastRoot (orA (lettersAt l))) := fun l => root_prim (by
    unfold orA
    split
    · simp
    · next h => cases e : lettersAt l with | nil => exact absurd e h | cons _ _ => simp)
  have k2 : prim [97] := fun d h1 h2 => by simp at h2; omega
  unfold chainOf
  split
  · unfold chainT
    split
    · exact k _
    · split
      · exact k _
      · exact k2
  · exact k2
/-- does the book's word of a size keep it? -/
def kept (fs : List Fact) (n : Nat) : Bool := keepsB fs (beg (chainOf fs) n)
/-- long stamps stand in one row -/
theorem one_row {fs : List Fact} (B : Book fs) {n m : Nat} (hn : 17 ≤ n) (hm : 17 ≤ m) (k1 : kept fs n = true) (k2 : kept fs m = true) : n % (chainOf fs).length = m % (chainOf fs).length ∧ (chainOf fs).length ≤ 15 := by
  have pr := chain_prim fs
  obtain ⟨c1, c2, c3⟩ := chain_ok B.ok
  have ht := B.tie
  unfold kept at k1 k2
  cases h : tieOf fs with
  | none => exact absurd h ht
  | some f =>
    have hm' : f ∈ fs.filter tieB := List.mem_of_mem_head? h
    obtain ⟨hf, tf⟩ := List.mem_filter.mp hm'
    have q1 : holdsB f _ = true := List.all_eq_true.mp k1 f hf
    have q2 : holdsB f _ = true := List.all_eq_true.mp k2 f hf
    cases f with
    | same a b =>
      have hab : a ≠ b := by simpa [tieB] using tf
      obtain ⟨o1, o2, o3, o4⟩ := B.ok _ hf
      have ec : chainOf fs = chainT a b := by unfold chainOf; rw [h]
      simp only [holdsB, beq_iff_eq] at q1 q2
      rcases tie_form hab o1 o2 o3 o4 with z | ⟨v, A, C, e, v1, v2, z⟩
      · exact absurd q1 (z _ (by rw [beg_len]; omega))
      · obtain ⟨r1, r2, r3, r4⟩ := root_div v1
        rw [← e, ← ec] at r1 r2 r3
        exact ⟨tie_row pr c2 r2 r3 (by omega) (by omega) (by omega) (z _ q1) (z _ q2), by omega⟩
    | begins _ => simp [tieB] at tf
    | ends _ => simp [tieB] at tf
    | least _ => simp [tieB] at tf
    | most _ => simp [tieB] at tf
theorem kept_mod {fs : List Fact} (B : Book fs) {n b : Nat} (hb : 61 ≤ b) (hn : b ≤ n) : kept fs n = kept fs (b + (n - b) % (chainOf fs).length) := by
  obtain ⟨c1, c2, c3⟩ := chain_ok B.ok
  exact keeps_mod B.ok c2 c3 (chA_per _) hb hn
theorem kept_per {fs : List Fact} (B : Book fs) {n : Nat} (hn : 61 ≤ n) (k : Nat) : kept fs (n + k * (chainOf fs).length) = kept fs n := by
  obtain ⟨c1, c2, c3⟩ := chain_ok B.ok
  exact keeps_mul B.ok c3 (chA_per _) hn k
end DL.SH
namespace DL.SH
open PySem PySem.Spec L2 DL
/-! ### the calendar of a book -/
theorem eqL_map {α : Type} [BEq α] {F : D → D → Option Bool} {f : α → D} (h : ∀ x y, F (f x) (f y) = some (x == y)) : ∀ A B : List α, eqL F (A.map f) (B.map f) = some (A == B)
  | [], [] => rfl
  | [], _ :: _ => rfl
  | _ :: _, [] => rfl
  | x :: A, y :: B => by
    simp only [List.map_cons, eqL, h, eqL_map h A B]
    rfl
def bD (L : List Bool) : D := .tup (L.map .bl)
theorem eq_bD {st : Store} (A B : List Bool) : pEq st (bD A) (bD B) = some (.bl (A == B)) := by
  have := eqL_map (F := eqF 49) (f := D.bl) (fun x y => rfl) A B
  show (eqL (eqF 49) (A.map .bl) (B.map .bl)).map D.bl = _
  rw [this]; rfl
theorem in_bls (A : List Bool) : inL (eqF 50) (A.map .bl) (.bl true) = some (decide (true ∈ A)) := by
  induction A with
  | nil => rfl
  | cons x A ih =>
    have e : eqF 50 (.bl x) (.bl true) = some (x == true) := rfl
    simp only [List.map_cons, inL, e, ih]
    cases x <;> simp
theorem in_bD {st : Store} (A : List Bool) : pIn st (.bl true) (bD A) = some (.bl (decide (true ∈ A))) := by
  show (inL (eqF 50) (A.map .bl) (.bl true)).map D.bl = _
  rw [in_bls]; rfl
theorem notin_bD {st : Store} (A : List Bool) : pNotIn st (.bl true) (bD A) = some (.bl (!decide (true ∈ A))) := by
  show (inL (eqF 50) (A.map .bl) (.bl true)).map (fun b => D.bl (!b)) = _
  rw [in_bls]; rfl
theorem in_bL {st : Store} (A : List Bool) : pIn st (.bl true) (.lst (A.map .bl)) = some (.bl (decide (true ∈ A))) := by
  show (inL (eqF 50) (A.map .bl) (.bl true)).map D.bl = _
  rw [in_bls]; rfl
def rootG (w : List Bool) (s : Nat) : Bool := w.length % s == 0 && repL (w.length / s) (w.take s) == w
def againOf (w : List Bool) : List Bool := match ((List.range (w.length - 1)).map (· + 1)).find? (rootG w) with
  | some s => w.take s
  | none => w
theorem map_repL {α β : Type} (f : α → β) (l : List α) : ∀ k, (repL k l).map f = repL k (l.map f)
  | 0 => rfl
  | k + 1 => by
    unfold repL
    rw [List.replicate_succ, List.replicate_succ, List.flatten_cons, List.flatten_cons, List.map_append]
    congr 1
    exact map_repL f l k
theorem cut_toD {A : List Bool} {s : Nat} : sliceV (bD A) none (some (s : Int)) = some (bD (A.take s)) := by
  have hc := cut_to (A.map D.bl) (i := (s : Int)) (by omega)
  rw [show ((s : Int)).toNat = s by omega] at hc
  unfold bD
  rw [sliceV_tup, hc, List.map_take]
theorem len_bD {st : Store} {A : List Bool} : pLen st [bD A] = some (.int A.length) := by
  show some (D.int ((A.map D.bl).length : Int)) = _
  rw [List.length_map]
theorem bD_plain (A : List Bool) : plain (bD A) = true := rfl
theorem bD_frz (A : List Bool) : frz (bD A) = bD A := rfl
theorem bD_ret (A : List Bool) : retD (bD A) = bD A := rfl
theorem t_again {st : Store} {w : List Bool} (h0 : 1 ≤ w.length) (hl : w.length ≤ 300) : F_least_again [bD w] st = .ok (bD (againOf w)) st := by
  have key : ∀ (L : List Nat) (a : Option D), (∀ s ∈ L, 1 ≤ s ∧ s < w.length) → ∃ b, loopS (gName 1) b1_least_again (L.map fun (j : Nat) => D.int (j : Int)) [some (bD w), a] st = match L.find? (rootG w) with
      | some s => .go (.rt (bD (w.take s))) [some (bD w), some (.int (s : Int))] st
      | none => .go .nx [some (bD w), b] st := by
    intro L
    induction L with
    | nil => intro a _; exact ⟨a, rfl⟩
    | cons s L ih =>
      intro a h
      obtain ⟨h1, h2⟩ := h s (List.mem_cons_self ..)
      obtain ⟨b, e⟩ := ih (some (.int (s : Int))) fun t ht => h t (List.mem_cons_of_mem _ ht)
      refine ⟨b, ?_⟩
      rw [List.map_cons, loop_cons (ρ1 := [some (bD w), some (.int (s : Int))]) rfl, List.find?_cons]
      have hm : pMod st (.int (w.length : Int)) (.int (s : Int)) = some (.int ((w.length : Int) % (s : Int))) := ev_mod (by omega)
      have hd : pFdiv st (.int (w.length : Int)) (.int (s : Int)) = some (.int ((w.length : Int) / (s : Int))) := ev_div (by omega)
      have e0 : pEq st (.int ((w.length : Int) % (s : Int))) (.int 0) = some (.bl (w.length % s == 0)) := by
        show some (D.bl (_ == _)) = _
        have q3 : (w.length : Int) % (s : Int) = ((w.length % s : Nat) : Int) := rfl
        rw [Option.some.injEq, D.bl.injEq, Bool.eq_iff_iff, q3]
        simp
        omega
      have q2 : (w.length : Int) / (s : Int) = ((w.length / s : Nat) : Int) := rfl
      have eb : b1_least_again [some (bD w), some (.int (s : Int))] st = if rootG w s = true then .go (.rt (bD (w.take s))) [some (bD w), some (.int (s : Int))] st else .go .nx [some (bD w), some (.int (s : Int))] st := by
        unfold b1_least_again rootG
        by_cases g : (w.length % s == 0) = true
        · have hk : 2 ≤ w.length / s := by
            have hz : w.length % s = 0 := by simpa using g
            have hq := Nat.div_mul_cancel (Nat.dvd_of_mod_eq_zero hz)
            generalize w.length / s = u at hq ⊢
            rcases Nat.lt_or_ge u 2 with z | z
            · have z1 : u = 0 ∨ u = 1 := by omega
              rcases z1 with z2 | z2
              · rw [z2, Nat.zero_mul] at hq; omega
              · rw [z2, Nat.one_mul] at hq; omega
            · exact z
          have hk2 : w.length / s ≤ w.length := Nat.div_le_self ..
          have hmul : pMul st (bD (w.take s)) (.int ((w.length : Int) / (s : Int))) = some (bD (repL (w.length / s) (w.take s))) := by
            have := mul_tup (st := st) (l := (w.take s).map D.bl) (k := (w.length : Int) / (s : Int)) ⟨by
              intro e
              have hz : ((w.take s).map D.bl).length = 0 := by rw [e]; rfl
              rw [List.length_map, List.length_take] at hz
              omega, by omega, by omega, by rw [List.length_map, List.length_take]; omega⟩
            rw [show ((w.length : Int) / (s : Int)).toNat = w.length / s by omega, ← map_repL] at this
            exact this
          by_cases g2 : (repL (w.length / s) (w.take s) == w) = true
          · simp only [g, g2, Bool.and_self, if_true]
            simp [len_bD, bD_plain, bD_frz, hm, e0, g, hd, cut_toD, hmul, eq_bD, g2]
          · rw [Bool.not_eq_true] at g2
            simp only [g, g2, Bool.and_false]
            simp [len_bD, bD_plain, bD_frz, hm, e0, g, hd, cut_toD, hmul, eq_bD, g2]
        · rw [Bool.not_eq_true] at g
          simp only [g, Bool.false_and]
          simp [len_bD, bD_plain, bD_frz, hm, e0, g]
      rw [eb]
      cases hr : rootG w s with
      | true => rfl
      | false => exact e
  obtain ⟨b, e⟩ := key ((List.range (w.length - 1)).map (· + 1)) none fun s hs => by
    obtain ⟨j, hj, rfl⟩ := List.mem_map.mp hs
    have := List.mem_range.mp hj
    omega
  have hr : rng2 [.int 1, .int (w.length : Int)] = some (((List.range (w.length - 1)).map (· + 1)).map fun (j : Nat) => D.int (j : Int)) := by
    show rngL 1 (w.length : Int) = _
    unfold rngL
    rw [if_pos (by omega), List.map_map]
    congr 1
    rw [show ((w.length : Int) - 1).toNat = w.length - 1 by omega]
    apply List.map_congr_left
    intro j _
    show D.int (1 + (j : Int)) = D.int ((j + 1 : Nat) : Int)
    rw [show 1 + (j : Int) = ((j + 1 : Nat) : Int) by omega]
  unfold F_least_again m_least_again againOf
  generalize (List.range (w.length - 1)).map (· + 1) = L at e hr ⊢
  simp [len_bD, bD_plain, bD_frz, hr, e]
  cases L.find? (rootG w) <;> simp [bD_ret, bD_plain, bD_frz]
theorem again_ok {w : List Bool} (h : 1 ≤ w.length) : 1 ≤ (againOf w).length ∧ (againOf w).length ≤ w.length ∧ w.length % (againOf w).length = 0 ∧ ∀ i, i < w.length → w[i]? = (againOf w)[i % (againOf w).length]? := by
  unfold againOf
  split
  · next s e =>
    have hm := List.mem_of_find?_eq_some e
    obtain ⟨j, hj, rfl⟩ := List.mem_map.mp hm
    have hj := List.mem_range.mp hj
    have hb := List.find?_some e
    unfold rootG at hb
    rw [Bool.and_eq_true, beq_iff_eq, beq_iff_eq] at hb
    obtain ⟨q1, q2⟩ := hb
    have hlen : (w.take (j + 1)).length = j + 1 := by rw [List.length_take]; omega
    have hd : w.length / (j + 1) * (j + 1) = w.length := Nat.div_mul_cancel (Nat.dvd_of_mod_eq_zero q1)
    rw [hlen]
    refine ⟨by omega, by omega, q1, fun i hi => ?_⟩
    have := repL_at (l := w.take (j + 1)) (k := w.length / (j + 1)) (i := i) (by rw [hlen, hd]; exact hi)
    rw [hlen, q2] at this
    exact this
  · exact ⟨h, Nat.le_refl _, Nat.mod_self _, fun i hi => by rw [Nat.mod_eq_of_lt hi]⟩
/-- what a calendar tells -/
def toldB (E A : List Bool) (n : Nat) : Bool := if n < E.length then E.getD n false else A.getD ((n - E.length) % A.length) false
theorem told_turn (E A : List Bool) (x : Bool) (n : Nat) : toldB (E ++ [x]) (A ++ [x]) n = toldB E (x :: A) n := by
  unfold toldB
  simp only [List.length_append, List.length_cons, List.length_nil, List.getD_eq_getElem?_getD, Nat.zero_add]
  by_cases h1 : n < E.length
  · rw [if_pos (by omega), if_pos h1, List.getElem?_append_left h1]
  · rw [if_neg h1]
    by_cases h2 : n = E.length
    · subst h2
      rw [if_pos (by omega), List.getElem?_append_right (Nat.le_refl _), Nat.sub_self, Nat.zero_mod]
      rfl
    · rw [if_neg (by omega)]
      obtain ⟨t, ht⟩ : ∃ t, n = E.length + 1 + t := ⟨n - E.length - 1, by omega⟩
      subst ht
      rw [show E.length + 1 + t - (E.length + 1) = t by omega, show E.length + 1 + t - E.length = t + 1 by omega]
      have hlt : t % (A.length + 1) < A.length + 1 := Nat.mod_lt _ (by omega)
      rw [Nat.add_mod t 1]
      generalize t % (A.length + 1) = r at hlt ⊢
      by_cases hr : r = A.length
      · subst hr
        rw [List.getElem?_append_right (Nat.le_refl _), Nat.sub_self]
        by_cases ha : A.length = 0
        · rw [ha]; rfl
        · rw [Nat.mod_eq_of_lt (show 1 < A.length + 1 by omega), Nat.mod_self]; rfl
      · by_cases ha : A.length = 0
        · omega
        · rw [Nat.mod_eq_of_lt (show 1 < A.length + 1 by omega), Nat.mod_eq_of_lt (show r + 1 < A.length + 1 by omega), List.getElem?_append_left (by omega)]
          rfl
theorem idx_last {st : Store} {l : List D} {x : D} : pIdx st (.tup (l ++ [x])) (.int (-1)) = some x := by
  show (seqIndex? (-1) (l ++ [x]).length).bind _ = _
  have e : seqIndex? (-1) (l ++ [x]).length = some l.length := by
    unfold seqIndex?
    rw [List.length_append, List.length_singleton]
    simp
    omega
  rw [e]
  simp
theorem cut_init {l : List D} {x : D} : cutD (l ++ [x]) none (some (-1)) = l := by
  unfold cutD
  have e : HT.sIx (l ++ [x]).length (l ++ [x]).length (some (-1)) = l.length := by
    unfold HT.sIx
    simp only []
    rw [if_pos (by omega), List.length_append, List.length_singleton]
    omega
  rw [e, show HT.sIx (l ++ [x]).length 0 none = 0 from rfl, List.drop_zero, Nat.sub_zero, List.take_left']
  rfl
theorem cut_last {l : List D} {x : D} : cutD (l ++ [x]) (some (-1)) none = [x] := by
  unfold cutD
  have e : HT.sIx (l ++ [x]).length 0 (some (-1)) = l.length := by
    unfold HT.sIx
    simp only []
    rw [if_pos (by omega), List.length_append, List.length_singleton]
    omega
  rw [e, show HT.sIx (l ++ [x]).length (l ++ [x]).length none = l.length + 1 by show (l ++ [x]).length = _; simp, List.drop_left']
  · simp
  · rfl
/-- the calendar tells which sizes keep the book -/
structure Cal (fs : List Fact) (E A : List Bool) : Prop where
  a1 : 1 ≤ A.length
  a2 : A.length ≤ 16
  e1 : E.length ≤ 96
  told : ∀ n, toldB E A n = kept fs n
theorem ends_or (E : List Bool) : E = [] ∨ ∃ E0 x, E = E0 ++ [x] := by
  rcases List.eq_nil_or_concat E with h | ⟨E0, x, h⟩
  · exact .inl h
  · exact .inr ⟨E0, x, by rw [h]; simp⟩
theorem len_loop {fs : List Fact} {ch : List Nat} {v2 v3 : D} : ∀ (n : Nat) (E A : List Bool), E.length < n → Cal fs E A → ∃ E' A', Cal fs E' A' ∧ ∀ st, whileS (tAnd (tV (eBin pNe (eVar 4) (eTup eNil))) (tV (eBin pEq (eIdx (eVar 4) (eNeg (eC (.int 1)))) (eIdx (eVar 5) (eNeg (eC (.int 1))))))) b1_lengths n [some (fsD fs), some (.str ch), some v2, some v3, some (bD E), some (bD A)] st = .go .nx [some (fsD fs), some (.str ch), some v2, some v3, some (bD E'), some (bD A')] st := by
  intro n
  induction n with
  | zero => intro E A h; omega
  | succ n ih =>
    intro E A h C
    rcases ends_or E with rfl | ⟨E0, x, rfl⟩
    · refine ⟨[], A, C, fun st => ?_⟩
      have ne : pNe st (bD []) (.tup []) = some (.bl false) := rfl
      unfold whileS
      simp [ne, bD_plain]
    · rcases ends_or A with rfl | ⟨A0, y, rfl⟩
      · exact absurd C.a1 (by simp)
      · have hE : bD (E0 ++ [x]) = .tup (E0.map D.bl ++ [.bl x]) := by unfold bD; rw [List.map_append]; rfl
        have hA : bD (A0 ++ [y]) = .tup (A0.map D.bl ++ [.bl y]) := by unfold bD; rw [List.map_append]; rfl
        have ne : ∀ st : Store, pNe st (.tup (E0.map D.bl ++ [.bl x])) (.tup []) = some (.bl true) := fun st => by cases E0 <;> rfl
        have eq : ∀ st : Store, pEq st (.bl x) (.bl y) = some (.bl (x == y)) := fun st => rfl
        have ng : negD (.int 1) = some (.int (-1)) := rfl
        by_cases hxy : x = y
        · subst hxy
          have C2 : Cal fs E0 (x :: A0) := ⟨by simp, by have := C.a2; simp at this ⊢; omega, by have := C.e1; simp at this; omega, fun n => by rw [← told_turn]; exact C.told n⟩
          obtain ⟨E', A', C3, e⟩ := ih E0 (x :: A0) (by rw [List.length_append, List.length_singleton] at h; omega) C2
          refine ⟨E', A', C3, fun st => ?_⟩
          rw [← e st, hE, hA]
          have hl1 : A0.length ≤ 16 := by have := C.a2; simp at this; omega
          have ad : pAdd st (.tup [.bl x]) (.tup (A0.map D.bl)) = some (bD (x :: A0)) := by
            rw [add_tup (by simp; omega)]; rfl
          have eb : b1_lengths [some (fsD fs), some (.str ch), some v2, some v3, some (.tup (E0.map D.bl ++ [.bl x])), some (.tup (A0.map D.bl ++ [.bl x]))] st = .go .nx [some (fsD fs), some (.str ch), some v2, some v3, some (bD E0), some (bD (x :: A0))] st := by
            have hb : D.tup (E0.map D.bl) = bD E0 := rfl
            unfold b1_lengths
            simp [ev_par, rsO, setAll, ng, sliceV_tup, cut_init, cut_last, ad, hb, bD_plain, bD_frz]
          conv => lhs; unfold whileS
          simp [ne, eq, ng, idx_last, eb]
          rfl
        · refine ⟨E0 ++ [x], A0 ++ [y], C, fun st => ?_⟩
          have hb : (x == y) = false := by simpa using hxy
          rw [hE, hA]
          unfold whileS
          simp [ne, eq, ng, idx_last, hb]
theorem t_lengths {fs : List Fact} (B : Book fs) : ∃ E A, Cal fs E A ∧ ∀ st, F_lengths [fsD fs] st = .ok (.tup [bD E, bD A]) st := by
  obtain ⟨c1, c2, c3⟩ := chain_ok B.ok
  have hE : ((List.range 96).map (kept fs)).length = 96 := by simp
  have hA : ((List.range (chainOf fs).length).map fun i => kept fs (96 + i)).length = (chainOf fs).length := by simp
  obtain ⟨a1, a2, a3, a4⟩ := again_ok (w := (List.range (chainOf fs).length).map fun i => kept fs (96 + i)) (by rw [hA]; exact c2)
  rw [hA] at a2 a3 a4
  have C : Cal fs ((List.range 96).map (kept fs)) (againOf ((List.range (chainOf fs).length).map fun i => kept fs (96 + i))) := by
    refine ⟨a1, by omega, by simp, fun n => ?_⟩
    unfold toldB
    rw [hE]
    by_cases h : n < 96
    · rw [if_pos h, List.getD_eq_getElem?_getD, List.getElem?_map, List.getElem?_range h]; rfl
    · rw [if_neg h, List.getD_eq_getElem?_getD, kept_mod B (show 61 ≤ 96 by omega) (show 96 ≤ n by omega)]
      have hlt : (n - 96) % (chainOf fs).length < (chainOf fs).length := Nat.mod_lt _ c2
      have := a4 _ hlt
      rw [Nat.mod_mod_of_dvd _ (Nat.dvd_of_mod_eq_zero a3)] at this
      rw [← this, List.getElem?_map, List.getElem?_range hlt]; rfl
  obtain ⟨E', A', C', e⟩ := len_loop (ch := chainOf fs) (v2 := .lst ((List.range 96).map (tr fs (chainOf fs)))) (v3 := .lst ((List.range (chainOf fs).length).map fun i => tr fs (chainOf fs) (96 + i))) 400 _ _ (by rw [hE]; omega) C
  refine ⟨E', A', C', fun st => ?_⟩
  have f1 := t_needB (st := st) B
  have f2 := t_parts (st := st) B.ok (by have := B.h2; omega) B.tie
  have f3 := t_again (st := st) (w := (List.range (chainOf fs).length).map fun i => kept fs (96 + i)) (by rw [hA]; exact c2) (by rw [hA]; omega)
  have p : plain (fsD fs) = true := rfl
  have z : frz (fsD fs) = fsD fs := rfl
  have e1 : (List.range 96).map (tr fs (chainOf fs)) = ((List.range 96).map (kept fs)).map D.bl := by rw [List.map_map]; rfl
  have e2 : ((List.range (chainOf fs).length).map fun i => tr fs (chainOf fs) (96 + i)) = ((List.range (chainOf fs).length).map fun i => kept fs (96 + i)).map D.bl := by rw [List.map_map]; rfl
  have e := e st
  unfold partsD at f2
  rw [e1, e2] at e f2
  generalize (List.range 96).map (kept fs) = E at *
  generalize (List.range (chainOf fs).length).map (fun i => kept fs (96 + i)) = A at *
  have t1 : p1 fTup st [.lst (E.map D.bl)] = some (bD E) := rfl
  have t2 : p1 fTup st [.lst (A.map D.bl)] = some (bD A) := rfl
  unfold F_lengths m_lengths
  simp [p, z, f1, f2, f3, t1, t2, ev_par, rsO, setAll, bD_plain, bD_frz, sWhile, fuel_lengths_1, e, retD]
end DL.SH
namespace DL.SH
open PySem PySem.Spec L2 DL
/-! ### families and lone stamps -/
def row96 (fs : List Fact) : List Bool := (List.range (chainOf fs).length).map fun i => kept fs (96 + i)
def early96 (fs : List Fact) : List Bool := (List.range 96).map (kept fs)
theorem parts_eq (fs : List Fact) : partsD fs (chainOf fs) = .tup [.str (chainOf fs), .lst ((early96 fs).map .bl), .lst ((row96 fs).map .bl)] := by
  unfold partsD early96 row96
  rw [List.map_map, List.map_map]
  rfl
def endB (fs : List Fact) : Bool := decide (true ∈ row96 fs)
theorem t_endless {st : Store} {fs : List Fact} : F_is_endless [partsD fs (chainOf fs)] st = .ok (.bl (endB fs)) st := by
  have p : plain (partsD fs (chainOf fs)) = true := rfl
  have z : frz (partsD fs (chainOf fs)) = partsD fs (chainOf fs) := rfl
  have ix : pIdx st (partsD fs (chainOf fs)) (.int 2) = some (.lst ((row96 fs).map .bl)) := by rw [parts_eq]; rfl
  unfold F_is_endless m_is_endless endB
  generalize partsD fs (chainOf fs) = P at *
  simp [p, z, ix, in_bL, retD]
def down (q : Nat → Bool) : Nat → Nat
  | 0 => 0
  | t + 1 => if q t = true then down q t else t + 1
theorem down_le (q : Nat → Bool) : ∀ t, down q t ≤ t
  | 0 => Nat.le_refl _
  | t + 1 => by
    unfold down
    split
    · exact Nat.le_succ_of_le (down_le q t)
    · exact Nat.le_refl _
theorem down_in (q : Nat → Bool) : ∀ t s, down q t ≤ s → s < t → q s = true
  | 0, s, _, h => absurd h (by omega)
  | t + 1, s, h1, h2 => by
    unfold down at h1
    split at h1
    · next h =>
      rcases Nat.lt_or_ge s t with h3 | h3
      · exact down_in q t s h1 h3
      · rw [show s = t by omega]; exact h
    · omega
theorem down_end (q : Nat → Bool) : ∀ t, down q t = 0 ∨ q (down q t - 1) = false
  | 0 => .inl rfl
  | t + 1 => by
    unfold down
    split
    · exact down_end q t
    · next h => exact .inr (by rw [Nat.add_sub_cancel]; simpa using h)
def restOf (fs : List Fact) : Nat := (96 + (row96 fs).idxOf true) % (chainOf fs).length
def leastOf (fs : List Fact) : Nat := down (fun t => kept fs (restOf fs + t * (chainOf fs).length)) (96 / (chainOf fs).length + 1)
def famD (fs : List Fact) : D := if endB fs = true then .tup [.str ((chainOf fs).take (restOf fs)), .str ((chainOf fs).drop (restOf fs)), .int (leastOf fs : Int)] else .non
theorem famD_plain (fs : List Fact) : plain (famD fs) = true := by unfold famD; split <;> rfl
theorem famD_frz (fs : List Fact) : frz (famD fs) = famD fs := by unfold famD; split <;> rfl
theorem famD_ret (fs : List Fact) : retD (famD fs) = famD fs := by unfold famD; split <;> rfl
theorem idx_bls {st : Store} (A : List Bool) (h : true ∈ A) : pIndex st (.lst (A.map .bl)) [.bl true] = some (.int (A.idxOf true : Nat)) := by
  have e : blsOf (A.map D.bl) = some A := by
    clear h
    induction A with
    | nil => rfl
    | cons x A ih => simp [blsOf, ih]
  show (blsOf (A.map D.bl)).bind _ = _
  rw [e, Option.bind_some, if_pos h]
@[simp] theorem ev_metL {p : Store → D → List D → Option D} {mo : EM} {ml : EL} {ρ : Env_} {st : Store} : eMetL p mo ml ρ st = (mo ρ st).bind fun x st1 => if (lstV x).isSome = true then (ml ρ st1).bind fun ds st2 => R.of (p st2 x ds) st2 else .bad := rfl
theorem fam_cond {st : Store} {P v1 v2 v3 : D} {F : FM} {q : Nat → Bool} {c r t : Nat} {f1 f2 f3 : Store → D → D → Option D} (p : plain P = true) (z : frz P = P) (m1 : f3 st (.int ((t + 1 : Nat) : Int)) (.int 1) = some (.int (t : Int))) (m2 : f1 st (.int (t : Int)) (.int (c : Int)) = some (.int ((t * c : Nat) : Int)))
   (m3 : f2 st (.int (r : Int)) (.int ((t * c : Nat) : Int)) = some (.int ((r + t * c : Nat) : Int))) (m4 : F [P, .int ((r + t * c : Nat) : Int)] st = .ok (.bl (q (r + t * c))) st) : tV (eFn F (eCons (eVar 0) (eCons (eBin f2 (eVar 5) (eBin f1 (eBin f3 (eVar 6) (eC (.int 1))) (eVar 4))) eNil))) [some P, some v1, some v2, some v3, some (.int (c : Int)), some (.int (r : Int)), some (.int ((t + 1 : Nat) : Int))] st = .ok (q (r + t * c)) st := by
  simp only [ev_tV, ev_bin, ev_var, ev_c, List.getElem?_cons_succ, List.getElem?_cons_zero, Option.bind_some, id, of_some, bind_ok, ev_truth_bl, ev_fn, ev_cons, ev_nil, m1, m2, m3, ev_frz_int, z]
  rw [if_pos (by simp [p]), m4]
  rfl
theorem fam_loop {st : Store} {P v1 v2 v3 : D} {F : FM} {q : Nat → Bool} {c r : Nat} (hc : c ≤ 16) (p : plain P = true) (z : frz P = P) (th : ∀ n : Nat, F [P, .int (n : Int)] st = .ok (.bl (q n)) st) : ∀ (n t : Nat), t < n → whileS (tAnd (tV (eBin (pCmp fun i j => decide (j < i)) (eVar 6) (eC (.int 0)))) (tV (eFn F (eCons (eVar 0) (eCons (eBin pAdd (eVar 5) (eBin pMul (eBin pSub (eVar 6) (eC (.int 1))) (eVar 4))) eNil))))) b1_family_of n
      [some P, some v1, some v2, some v3, some (.int (c : Int)), some (.int (r : Int)), some (.int (t : Int))] st =
      .go .nx [some P, some v1, some v2, some v3, some (.int (c : Int)), some (.int (r : Int)), some (.int ((down (fun t => q (r + t * c)) t : Nat) : Int))] st := by
  intro n
  induction n with
  | zero => intro t h; omega
  | succ n ih =>
    intro t h
    cases t with
    | zero =>
      unfold whileS down
      simp
    | succ t =>
      have m0 : pCmp (fun i j => decide (j < i)) st (.int ((t + 1 : Nat) : Int)) (.int 0) = some (.bl true) := by
        show some (D.bl (decide ((0 : Int) < ((t + 1 : Nat) : Int)))) = _
        rw [decide_eq_true (by omega)]
      have m1 : pSub st (.int ((t + 1 : Nat) : Int)) (.int 1) = some (.int (t : Int)) := by
        show some (D.int (((t + 1 : Nat) : Int) - 1)) = _
        rw [show (((t + 1 : Nat) : Int) - 1) = (t : Int) by omega]
      have m2 : pMul st (.int (t : Int)) (.int (c : Int)) = some (.int ((t * c : Nat) : Int)) := by
        rw [ev_mul (by omega), Int.natCast_mul]
      have m3 : pAdd st (.int (r : Int)) (.int ((t * c : Nat) : Int)) = some (.int ((r + t * c : Nat) : Int)) := by
        rw [ev_add, Int.natCast_add]
      have m4 := th (r + t * c)
      have b1 : b1_family_of [some P, some v1, some v2, some v3, some (.int (c : Int)), some (.int (r : Int)), some (.int ((t + 1 : Nat) : Int))] st = .go .nx [some P, some v1, some v2, some v3, some (.int (c : Int)), some (.int (r : Int)), some (.int (t : Int))] st := by
        unfold b1_family_of
        simp only [ev_seq, ev_asg, ev_bin, ev_var, ev_c, List.getElem?_cons_succ, List.getElem?_cons_zero, Option.bind_some, id, of_some, bind_ok, m1, ev_ofe, frz, plain, if_true]
        rfl
      have e := ih t (by omega)
      have cA : tV (eBin (pCmp fun i j => decide (j < i)) (eVar 6) (eC (.int 0))) [some P, some v1, some v2, some v3, some (.int (c : Int)), some (.int (r : Int)), some (.int ((t + 1 : Nat) : Int))] st = .ok true st := by
        simp only [ev_tV, ev_bin, ev_var, ev_c, List.getElem?_cons_succ, List.getElem?_cons_zero, Option.bind_some, id, of_some, bind_ok, m0, ev_truth_bl]
      have cB : tV (eFn F (eCons (eVar 0) (eCons (eBin pAdd (eVar 5) (eBin pMul (eBin pSub (eVar 6) (eC (.int 1))) (eVar 4))) eNil))) [some P, some v1, some v2, some v3, some (.int (c : Int)), some (.int (r : Int)), some (.int ((t + 1 : Nat) : Int))] st = .ok (q (r + t * c)) st := fam_cond p z m1 m2 m3 m4
      unfold whileS
      rw [ev_tAnd, cA, bind_ok, if_pos rfl, cB, ev_ofe]
      unfold down
      cases hq : q (r + t * c) with
      | true =>
        rw [if_pos rfl, if_pos rfl, b1]
        exact e
      | false =>
        rw [if_neg (by simp), if_neg (by simp)]
theorem t_family_of {st : Store} {fs : List Fact} (B : Book fs) : F_family_of [partsD fs (chainOf fs)] st = .ok (famD fs) st := by
  obtain ⟨c1, c2, c3⟩ := chain_ok B.ok
  have f1 := t_endless (st := st) (fs := fs)
  have p : plain (partsD fs (chainOf fs)) = true := by rw [parts_eq]; rfl
  have z : frz (partsD fs (chainOf fs)) = partsD fs (chainOf fs) := by rw [parts_eq]; rfl
  have th := fun n => t_there (st := st) (ch := chainOf fs) B.ok c2 c3 n
  unfold F_family_of m_family_of famD
  cases hE : endB fs with
  | false =>
    rw [hE] at f1
    have s1 : sUnp [1, 2, 3] (eVar 0) [some (partsD fs (chainOf fs)), none, none, none, none, none, none] st = .go .nx [some (partsD fs (chainOf fs)), some (.str (chainOf fs)), some (.lst ((early96 fs).map .bl)), some (.lst ((row96 fs).map .bl)), none, none, none] st := by
      rw [parts_eq]
      generalize (row96 fs).map D.bl = R2
      generalize (early96 fs).map D.bl = R1
      rfl
    have s2 : (sIf (tNot (tV (eFn F_is_endless (eCons (eVar 0) eNil)))) (sSeq (sRet (eC .non)) sNext) sNext) [some (partsD fs (chainOf fs)), some (.str (chainOf fs)), some (.lst ((early96 fs).map .bl)), some (.lst ((row96 fs).map .bl)), none, none, none] st = .go (.rt .non) [some (partsD fs (chainOf fs)), some (.str (chainOf fs)), some (.lst ((early96 fs).map .bl)), some (.lst ((row96 fs).map .bl)), none, none, none] st := by
      generalize partsD fs (chainOf fs) = P at *
      simp [f1, p, z]
    generalize partsD fs (chainOf fs) = P at *
    have en : startD 7 [P] = [some P, none, none, none, none, none, none] := rfl
    simp only [ev_fm, List.length_cons, List.length_nil, if_true, en, ev_seq, s1, then_nx, s2, ev_then_rt, ev_finR]
    simp [retD]
  | true =>
    rw [hE] at f1
    have hm : true ∈ row96 fs := of_decide_eq_true hE
    have s1 : sUnp [1, 2, 3] (eVar 0) [some (partsD fs (chainOf fs)), none, none, none, none, none, none] st = .go .nx [some (partsD fs (chainOf fs)), some (.str (chainOf fs)), some (.lst ((early96 fs).map .bl)), some (.lst ((row96 fs).map .bl)), none, none, none] st := by
      rw [parts_eq]
      generalize (row96 fs).map D.bl = R2
      generalize (early96 fs).map D.bl = R1
      rfl
    have ixo := idx_bls (st := st) (row96 fs) hm
    have li : (lstV (.lst ((row96 fs).map .bl))).isSome = true := rfl
    have m1 : pMod st (.int (96 + ((row96 fs).idxOf true : Int))) (.int ((chainOf fs).length : Int)) = some (.int (restOf fs : Int)) := by
      rw [ev_mod (by omega)]
      unfold restOf
      simp
    have m2 : pFdiv st (.int 96) (.int ((chainOf fs).length : Int)) = some (.int ((96 / (chainOf fs).length : Nat) : Int)) := by
      rw [ev_div (by omega)]
      simp
    have hr : restOf fs < (chainOf fs).length := Nat.mod_lt _ c2
    have k := fam_loop (st := st) (P := partsD fs (chainOf fs)) (v1 := .str (chainOf fs)) (v2 := .lst ((early96 fs).map .bl)) (v3 := .lst ((row96 fs).map .bl)) (q := kept fs) (c := (chainOf fs).length) (r := restOf fs) c3 p z th 400 (96 / (chainOf fs).length + 1) (by have := Nat.div_le_self 96 (chainOf fs).length; omega)
    have kd : down (fun t => kept fs (restOf fs + t * (chainOf fs).length)) (96 / (chainOf fs).length + 1) = leastOf fs := rfl
    rw [kd] at k
    have ct := cut_to (chainOf fs) (i := (restOf fs : Int)) (by omega)
    have cf := cut_from (chainOf fs) (i := (restOf fs : Int)) (by omega)
    rw [show ((restOf fs : Int)).toNat = restOf fs by omega] at ct cf
    have a1 : pAdd st (.int ((96 / (chainOf fs).length : Nat) : Int)) (.int 1) = some (.int ((96 / (chainOf fs).length + 1 : Nat) : Int)) := by
      show some (D.int (_ + 1)) = _
      rw [Int.natCast_add]; rfl
    have a0 : pAdd st (.int 96) (.int ((row96 fs).idxOf true : Int)) = some (.int (96 + ((row96 fs).idxOf true : Int))) := rfl
    have s2 : (sIf (tNot (tV (eFn F_is_endless (eCons (eVar 0) eNil)))) (sSeq (sRet (eC .non)) sNext) sNext) [some (partsD fs (chainOf fs)), some (.str (chainOf fs)), some (.lst ((early96 fs).map .bl)), some (.lst ((row96 fs).map .bl)), none, none, none] st = .go .nx [some (partsD fs (chainOf fs)), some (.str (chainOf fs)), some (.lst ((early96 fs).map .bl)), some (.lst ((row96 fs).map .bl)), none, none, none] st := by
      generalize partsD fs (chainOf fs) = P at *
      simp [f1, p, z]
    generalize partsD fs (chainOf fs) = P at *
    generalize (row96 fs).map D.bl = R2 at *
    generalize (early96 fs).map D.bl = R1 at *
    generalize restOf fs = r at *
    generalize (row96 fs).idxOf true = ri at *
    generalize hD : 96 / (chainOf fs).length = dv at *
    have s3 : (sAsg 4 (eCallP pLen (eCons (eVar 1) eNil))) [some P, some (.str (chainOf fs)), some (.lst R1), some (.lst R2), none, none, none] st = .go .nx [some P, some (.str (chainOf fs)), some (.lst R1), some (.lst R2), some (.int ((chainOf fs).length : Int)), none, none] st := by
      simp [len_str]
    have s4 : (sAsg 5 (eBin pMod (eBin pAdd (eC (.int 96)) (eMetL pIndex (eVar 3) (eCons (eC (.bl true)) eNil))) (eVar 4))) [some P, some (.str (chainOf fs)), some (.lst R1), some (.lst R2), some (.int ((chainOf fs).length : Int)), none, none] st = .go .nx [some P, some (.str (chainOf fs)), some (.lst R1), some (.lst R2), some (.int ((chainOf fs).length : Int)), some (.int (r : Int)), none] st := by
      simp only [ev_asg, ev_bin, ev_var, ev_c, ev_metL, ev_cons, ev_nil, List.getElem?_cons_succ, List.getElem?_cons_zero, Option.bind_some, id, of_some, bind_ok, li, if_true, ev_frz_bl, ixo, a0, m1, ev_ofe, ev_frz_int, pl_int]
      rfl
    have s5 : (sAsg 6 (eBin pAdd (eBin pFdiv (eC (.int 96)) (eVar 4)) (eC (.int 1)))) [some P, some (.str (chainOf fs)), some (.lst R1), some (.lst R2), some (.int ((chainOf fs).length : Int)), some (.int (r : Int)), none] st = .go .nx [some P, some (.str (chainOf fs)), some (.lst R1), some (.lst R2), some (.int ((chainOf fs).length : Int)), some (.int (r : Int)), some (.int ((dv + 1 : Nat) : Int))] st := by
      simp only [ev_asg, ev_bin, ev_var, ev_c, List.getElem?_cons_succ, List.getElem?_cons_zero, Option.bind_some, id, of_some, bind_ok, m2, a1, ev_ofe, ev_frz_int, pl_int, if_true]
      rfl
    have en : startD 7 [P] = [some P, none, none, none, none, none, none] := rfl
    simp only [ev_fm, List.length_cons, List.length_nil, if_true, en, ev_seq, s1, then_nx, s2, s3, s4, s5, sWhile, fuel_family_of_1, k]
    simp [sliceV_s, ct, cf, retD]
theorem t_family {st : Store} {fs : List Fact} (B : Book fs) : F_family [fsD fs] st = .ok (famD fs) st := by
  have f1 := t_needB (st := st) B
  have f2 := t_parts (st := st) B.ok (by have := B.h2; omega) B.tie
  have f3 := t_family_of (st := st) B
  have p : plain (fsD fs) = true := rfl
  have z : frz (fsD fs) = fsD fs := rfl
  have p2 : plain (partsD fs (chainOf fs)) = true := rfl
  have z2 : frz (partsD fs (chainOf fs)) = partsD fs (chainOf fs) := rfl
  have q1 := famD_plain fs
  have q2 := famD_frz fs
  have q3 := famD_ret fs
  unfold F_family m_family
  generalize partsD fs (chainOf fs) = P at *
  generalize famD fs = Q at *
  generalize fsD fs = U at *
  simp [p, z, f1, f2, p2, z2, f3, q1, q2, q3]
end DL.SH
namespace DL.SH
open PySem PySem.Spec L2 DL
/-! ### lone stamps -/
/-- a size that the told family does not hold -/
def otherB (fs : List Fact) (n : Nat) : Bool := if endB fs = true then (n % (chainOf fs).length != restOf fs || decide (n < restOf fs + leastOf fs * (chainOf fs).length)) else true
def loneL (fs : List Fact) : List (List Nat) := ((List.range 96).filter fun n => kept fs n && otherB fs n).map (beg (chainOf fs))
def loneD (fs : List Fact) : List D := (loneL fs).map .str
theorem rest_lt {fs : List Fact} (h : 1 ≤ (chainOf fs).length) : restOf fs < (chainOf fs).length := Nat.mod_lt _ h
theorem least_le (fs : List Fact) : leastOf fs ≤ 96 / (chainOf fs).length + 1 := down_le _ _
theorem other_none {st : Store} {ρ : Env_} {n c : Nat} {fs : List Fact} (h : endB fs = false) (e1 : ρ[1]? = some (some .non)) :
    eOr (eBin pIs (eVar 1) (eC .non)) (eOr (eBin pNe (eBin pMod (eVar 6) (eCallP pLen (eCons (eVar 2) eNil))) (eCallP pLen (eCons (eIdx (eVar 1) (eC (.int 0))) eNil))) (eBin (pCmp fun i j => decide (i < j)) (eVar 6) (eBin pAdd (eCallP pLen (eCons (eIdx (eVar 1) (eC (.int 0))) eNil)) (eBin pMul (eIdx (eVar 1) (eC (.int 2))) (eCallP pLen (eCons (eVar 2) eNil)))))) ρ st = .ok (.bl (otherB fs n)) st := by
  have v1 : eVar 1 ρ st = .ok .non st := by rw [ev_var, e1]; rfl
  have k1 : eBin pIs (eVar 1) (eC .non) ρ st = .ok (.bl true) st := by
    rw [ev_bin, v1, bind_ok, ev_c, bind_ok]; rfl
  unfold otherB
  rw [if_neg (by rw [h]; simp), ev_or, k1, bind_ok, ev_truth_bl, of_some, bind_ok, if_pos rfl]
theorem other_some {st : Store} {ρ : Env_} {n c r l : Nat} {ch a b : List Nat} (hc1 : 1 ≤ c) (hc : c ≤ 16) (hl : ch.length = c) (ha : a.length = r) (e1 : ρ[1]? = some (some (.tup [.str a, .str b, .int (l : Int)]))) (e2 : ρ[2]? = some (some (.str ch))) (e6 : ρ[6]? = some (some (.int (n : Int)))) :
    eOr (eBin pIs (eVar 1) (eC .non)) (eOr (eBin pNe (eBin pMod (eVar 6) (eCallP pLen (eCons (eVar 2) eNil))) (eCallP pLen (eCons (eIdx (eVar 1) (eC (.int 0))) eNil))) (eBin (pCmp fun i j => decide (i < j)) (eVar 6) (eBin pAdd (eCallP pLen (eCons (eIdx (eVar 1) (eC (.int 0))) eNil)) (eBin pMul (eIdx (eVar 1) (eC (.int 2))) (eCallP pLen (eCons (eVar 2) eNil)))))) ρ st = .ok (.bl (n % c != r || decide (n < r + l * c))) st := by
  have v1 : eVar 1 ρ st = .ok (.tup [.str a, .str b, .int (l : Int)]) st := by rw [ev_var, e1]; rfl
  have v2 : eVar 2 ρ st = .ok (.str ch) st := by rw [ev_var, e2]; rfl
  have v6 : eVar 6 ρ st = .ok (.int (n : Int)) st := by rw [ev_var, e6]; rfl
  have k1 : eBin pIs (eVar 1) (eC .non) ρ st = .ok (.bl false) st := by
    rw [ev_bin, v1, bind_ok, ev_c, bind_ok]; rfl
  have x0 : eIdx (eVar 1) (eC (.int 0)) ρ st = .ok (.str a) st := by rw [ev_idx, v1, bind_ok, ev_c, bind_ok]; rfl
  have x2 : eIdx (eVar 1) (eC (.int 2)) ρ st = .ok (.int (l : Int)) st := by rw [ev_idx, v1, bind_ok, ev_c, bind_ok]; rfl
  have l0 : eCallP pLen (eCons (eIdx (eVar 1) (eC (.int 0))) eNil) ρ st = .ok (.int (r : Int)) st := by
    rw [ev_callP, ev_cons, x0, bind_ok, ev_nil, bind_ok, bind_ok, ev_frz_str, len_str, ha]; rfl
  have l2 : eCallP pLen (eCons (eVar 2) eNil) ρ st = .ok (.int (c : Int)) st := by
    rw [ev_callP, ev_cons, v2, bind_ok, ev_nil, bind_ok, bind_ok, ev_frz_str, len_str, hl]; rfl
  have md : eBin pMod (eVar 6) (eCallP pLen (eCons (eVar 2) eNil)) ρ st = .ok (.int ((n % c : Nat) : Int)) st := by
    rw [ev_bin, v6, bind_ok, l2, bind_ok, ev_mod (by omega)]; rfl
  have ne : eBin pNe (eBin pMod (eVar 6) (eCallP pLen (eCons (eVar 2) eNil))) (eCallP pLen (eCons (eIdx (eVar 1) (eC (.int 0))) eNil)) ρ st = .ok (.bl (n % c != r)) st := by
    rw [ev_bin, md, bind_ok, l0, bind_ok]
    have q : pNe st (.int ((n % c : Nat) : Int)) (.int (r : Int)) = some (.bl (n % c != r)) := by
      show some (D.bl (!(((n % c : Nat) : Int) == (r : Int)))) = _
      rw [show (((n % c : Nat) : Int) == (r : Int)) = (n % c == r) by rw [Bool.eq_iff_iff, beq_iff_eq, beq_iff_eq]; omega]
      rfl
    rw [q]; rfl
  have ml : eBin pMul (eIdx (eVar 1) (eC (.int 2))) (eCallP pLen (eCons (eVar 2) eNil)) ρ st = .ok (.int ((l * c : Nat) : Int)) st := by
    rw [ev_bin, x2, bind_ok, l2, bind_ok, ev_mul (by omega), Int.natCast_mul]; rfl
  have ad : eBin pAdd (eCallP pLen (eCons (eIdx (eVar 1) (eC (.int 0))) eNil)) (eBin pMul (eIdx (eVar 1) (eC (.int 2))) (eCallP pLen (eCons (eVar 2) eNil))) ρ st = .ok (.int ((r + l * c : Nat) : Int)) st := by
    rw [ev_bin, l0, bind_ok, ml, bind_ok, ev_add, Int.natCast_add]; rfl
  have lt : eBin (pCmp fun i j => decide (i < j)) (eVar 6) (eBin pAdd (eCallP pLen (eCons (eIdx (eVar 1) (eC (.int 0))) eNil)) (eBin pMul (eIdx (eVar 1) (eC (.int 2))) (eCallP pLen (eCons (eVar 2) eNil)))) ρ st = .ok (.bl (decide (n < r + l * c))) st := by
    rw [ev_bin, v6, bind_ok, ad, bind_ok, ev_cmp]
    rw [show decide (((n : Nat) : Int) < ((r + l * c : Nat) : Int)) = decide (n < r + l * c) by rw [decide_eq_decide]; omega]
    rfl
  rw [ev_or, k1, bind_ok, ev_truth_bl, of_some, bind_ok, if_neg (by simp), ev_or, ne, bind_ok, ev_truth_bl, of_some, bind_ok]
  cases h : (n % c != r) with
  | true => rw [if_pos rfl, Bool.true_or]
  | false => rw [if_neg (by simp), Bool.false_or, lt]
theorem other_is {st : Store} {ρ : Env_} {n : Nat} {fs : List Fact} (B : Book fs) (e1 : ρ[1]? = some (some (famD fs))) (e2 : ρ[2]? = some (some (.str (chainOf fs)))) (e6 : ρ[6]? = some (some (.int (n : Int)))) :
    eOr (eBin pIs (eVar 1) (eC .non)) (eOr (eBin pNe (eBin pMod (eVar 6) (eCallP pLen (eCons (eVar 2) eNil))) (eCallP pLen (eCons (eIdx (eVar 1) (eC (.int 0))) eNil))) (eBin (pCmp fun i j => decide (i < j)) (eVar 6) (eBin pAdd (eCallP pLen (eCons (eIdx (eVar 1) (eC (.int 0))) eNil)) (eBin pMul (eIdx (eVar 1) (eC (.int 2))) (eCallP pLen (eCons (eVar 2) eNil)))))) ρ st = .ok (.bl (otherB fs n)) st := by
  obtain ⟨c1, c2, c3⟩ := chain_ok B.ok
  cases hE : endB fs with
  | false =>
    unfold famD at e1
    rw [if_neg (by rw [hE]; simp)] at e1
    exact other_none (c := 0) hE e1
  | true =>
    unfold famD at e1
    rw [if_pos hE] at e1
    have hr := rest_lt c2
    rw [other_some (c := (chainOf fs).length) (r := restOf fs) (l := leastOf fs) c2 c3 rfl (by rw [List.length_take]; omega) e1 e2 e6]
    unfold otherB
    rw [if_pos hE]
theorem lone_body {st : Store} {fs : List Fact} (B : Book fs) {v3 : D} {P : D} {l : List D} {n : Nat} (hn : n < 96) (hl : l.length < 1000) {a7 : Option D} :
    b1_lone_of [some P, some (famD fs), some (.str (chainOf fs)), some (.lst ((early96 fs).map .bl)), some v3, some (.own 5 l), some (.int (n : Int)), a7] st =
    .go .nx [some P, some (famD fs), some (.str (chainOf fs)), some (.lst ((early96 fs).map .bl)), some v3, some (.own 5 (l ++ if (kept fs n && otherB fs n) = true then [.str (beg (chainOf fs) n)] else [])), some (.int (n : Int)), some (.bl (otherB fs n))] st := by
  obtain ⟨c1, c2, c3⟩ := chain_ok B.ok
  have ho := other_is (st := st) (ρ := [some P, some (famD fs), some (.str (chainOf fs)), some (.lst ((early96 fs).map .bl)), some v3, some (.own 5 l), some (.int (n : Int)), a7]) (n := n) B rfl rfl rfl
  have hx : ∀ a : Option D, eIdx (eVar 3) (eVar 6) [some P, some (famD fs), some (.str (chainOf fs)), some (.lst ((early96 fs).map .bl)), some v3, some (.own 5 l), some (.int (n : Int)), a] st = .ok (.bl (kept fs n)) st := fun a => by
    have hlen : n < ((early96 fs).map D.bl).length := by unfold early96; simp; exact hn
    have := idx_lst (st := st) (l := (early96 fs).map D.bl) (j := n) hlen
    show R.of (pIdx st (.lst ((early96 fs).map .bl)) (.int (n : Int))) st = _
    rw [this]
    simp [early96]
  have f5 := t_beg (st := st) (ch := chainOf fs) (n := n) c2 (by omega) (by omega)
  have s1 : sAsg 7 (eOr (eBin pIs (eVar 1) (eC .non)) (eOr (eBin pNe (eBin pMod (eVar 6) (eCallP pLen (eCons (eVar 2) eNil))) (eCallP pLen (eCons (eIdx (eVar 1) (eC (.int 0))) eNil))) (eBin (pCmp fun i j => decide (i < j)) (eVar 6) (eBin pAdd (eCallP pLen (eCons (eIdx (eVar 1) (eC (.int 0))) eNil)) (eBin pMul (eIdx (eVar 1) (eC (.int 2))) (eCallP pLen (eCons (eVar 2) eNil))))))) [some P, some (famD fs), some (.str (chainOf fs)), some (.lst ((early96 fs).map .bl)), some v3, some (.own 5 l), some (.int (n : Int)), a7] st =
      .go .nx [some P, some (famD fs), some (.str (chainOf fs)), some (.lst ((early96 fs).map .bl)), some v3, some (.own 5 l), some (.int (n : Int)), some (.bl (otherB fs n))] st := by
    rw [ev_asg, ho, ev_ofe]
    rfl
  unfold b1_lone_of
  rw [ev_seq, s1, then_nx, ev_seq, ev_if, ev_tAnd, ev_tV, hx, bind_ok, ev_truth_bl, of_some, bind_ok]
  generalize famD fs = Q at *
  generalize (early96 fs).map D.bl = R1 at *
  generalize beg (chainOf fs) n = W at *
  cases hk : kept fs n with
  | false => simp
  | true =>
    cases hb : otherB fs n with
    | false => simp
    | true =>
      have me : eFn F_beginning (eCons (eVar 2) (eCons (eVar 6) eNil)) [some P, some Q, some (.str (chainOf fs)), some (.lst R1), some v3, some (.own 5 l), some (.int (n : Int)), some (.bl true)] st = .ok (.str W) st := by
        generalize F_beginning = F at *
        show (if [D.str (chainOf fs), D.int (n : Int)].all plain = true then F [.str (chainOf fs), .int (n : Int)] st else R.bad) = _
        rw [if_pos (by rfl), f5]
      have ap := ev_app (i := 5) (me := eFn F_beginning (eCons (eVar 2) (eCons (eVar 6) eNil))) (ρ := [some P, some Q, some (.str (chainOf fs)), some (.lst R1), some v3, some (.own 5 l), some (.int (n : Int)), some (.bl true)]) (st := st) (l := l) (d := .str W) rfl me rfl (by omega)
      rw [if_pos rfl, ev_tV, ev_var]
      show ((RS.ofE _ (R.ok true st) _).then _) = _
      rw [ev_ofe, if_pos rfl, ev_seq, ap]
      rfl
theorem lone_loop {st : Store} {fs : List Fact} (B : Book fs) {v3 : D} {P : D} : ∀ (L : List Nat) (l : List D) (a6 a7 : Option D), (∀ n ∈ L, n < 96) → l.length + L.length < 1000 → ∃ b6 b7, loopS (gName 6) b1_lone_of (L.map fun (j : Nat) => D.int (j : Int)) [some P, some (famD fs), some (.str (chainOf fs)), some (.lst ((early96 fs).map .bl)), some v3, some (.own 5 l), a6, a7] st =
    .go .nx [some P, some (famD fs), some (.str (chainOf fs)), some (.lst ((early96 fs).map .bl)), some v3, some (.own 5 (l ++ ((L.filter fun n => kept fs n && otherB fs n).map (beg (chainOf fs))).map .str)), b6, b7] st
  | [], l, a6, a7, _, _ => ⟨a6, a7, by rw [List.map_nil, List.filter_nil, List.map_nil, List.map_nil, List.append_nil]; rfl⟩
  | n :: L, l, a6, a7, h1, h2 => by
    have hb := lone_body (st := st) (fs := fs) B (v3 := v3) (P := P) (l := l) (n := n) (h1 n (List.mem_cons_self ..)) (by simp at h2; omega) (a7 := a7)
    obtain ⟨b6, b7, e⟩ := lone_loop (st := st) B (v3 := v3) (P := P) L (l ++ if (kept fs n && otherB fs n) = true then [.str (beg (chainOf fs) n)] else []) (some (.int (n : Int))) (some (.bl (otherB fs n))) (fun m hm => h1 m (List.mem_cons_of_mem _ hm)) (by
      have hq : (if (kept fs n && otherB fs n) = true then [D.str (beg (chainOf fs) n)] else []).length ≤ 1 := by split <;> simp
      simp only [List.length_append, List.length_cons] at h2 ⊢
      omega)
    refine ⟨b6, b7, ?_⟩
    rw [List.map_cons, loop_cons (ρ1 := [some P, some (famD fs), some (.str (chainOf fs)), some (.lst ((early96 fs).map .bl)), some v3, some (.own 5 l), some (.int (n : Int)), a7]) rfl, hb]
    show loopS _ _ _ _ _ = _
    rw [e, List.filter_cons]
    cases (kept fs n && otherB fs n) <;> simp
theorem t_lone_of {st : Store} {fs : List Fact} (B : Book fs) : F_lone_of [partsD fs (chainOf fs)] st = .ok (.new (loneD fs)) st := by
  have f1 := t_family_of (st := st) B
  have p : plain (partsD fs (chainOf fs)) = true := by rw [parts_eq]; rfl
  have z : frz (partsD fs (chainOf fs)) = partsD fs (chainOf fs) := by rw [parts_eq]; rfl
  have q1 := famD_plain fs
  have q2 := famD_frz fs
  obtain ⟨b6, b7, e⟩ := lone_loop (st := st) B (v3 := .lst ((row96 fs).map .bl)) (P := partsD fs (chainOf fs)) (List.range 96) [] none none (fun n hn => List.mem_range.mp hn) (by simp)
  have hr : rng1 [.int 96] = some ((List.range 96).map fun (j : Nat) => D.int (j : Int)) := by
    show rngL 0 96 = _
    unfold rngL
    rw [if_pos (by omega)]
    congr 1
  have s0 : (sAsg 1 (eFn F_family_of (eCons (eVar 0) eNil))) [some (partsD fs (chainOf fs)), none, none, none, none, none, none, none] st = .go .nx [some (partsD fs (chainOf fs)), some (famD fs), none, none, none, none, none, none] st := by
    generalize partsD fs (chainOf fs) = P at *
    generalize famD fs = Q at *
    simp [p, z, f1, q1, q2]
  have s1 : sUnp [2, 3, 4] (eVar 0) [some (partsD fs (chainOf fs)), some (famD fs), none, none, none, none, none, none] st = .go .nx [some (partsD fs (chainOf fs)), some (famD fs), some (.str (chainOf fs)), some (.lst ((early96 fs).map .bl)), some (.lst ((row96 fs).map .bl)), none, none, none] st := by
    rw [parts_eq]
    generalize (row96 fs).map D.bl = R2
    generalize (early96 fs).map D.bl = R1
    generalize famD fs = Q
    rfl
  have s2 : (sAsgO 5 (eLst eNil)) [some (partsD fs (chainOf fs)), some (famD fs), some (.str (chainOf fs)), some (.lst ((early96 fs).map .bl)), some (.lst ((row96 fs).map .bl)), none, none, none] st = .go .nx [some (partsD fs (chainOf fs)), some (famD fs), some (.str (chainOf fs)), some (.lst ((early96 fs).map .bl)), some (.lst ((row96 fs).map .bl)), some (.own 5 []), none, none] st := by
    generalize partsD fs (chainOf fs) = P
    generalize (row96 fs).map D.bl = R2
    generalize (early96 fs).map D.bl = R1
    generalize famD fs = Q
    rfl
  unfold F_lone_of m_lone_of loneD loneL
  have en : startD 8 [partsD fs (chainOf fs)] = [some (partsD fs (chainOf fs)), none, none, none, none, none, none, none] := rfl
  generalize partsD fs (chainOf fs) = P at *
  generalize ((List.range 96).filter fun n => kept fs n && otherB fs n).map (beg (chainOf fs)) = LL at *
  generalize (List.range 96).map (fun (j : Nat) => D.int (j : Int)) = XX at *
  generalize (row96 fs).map D.bl = R2 at *
  generalize (early96 fs).map D.bl = R1 at *
  generalize famD fs = Q at *
  rw [ev_fm, if_pos (show [P].length = 1 from rfl), en, ev_seq, s0, then_nx, ev_seq, s1, then_nx, ev_seq, s2, then_nx, ev_seq, ev_for, ev_rng1]
  have c1 : (eCons (eC (.int 96)) eNil) [some P, some Q, some (.str (chainOf fs)), some (.lst R1), some (.lst R2), some (.own 5 []), none, none] st = .ok [.int 96] st := rfl
  rw [c1, bind_ok, hr, of_some, ev_ofe, e, then_nx]
  rfl
theorem t_lone {st : Store} {fs : List Fact} (B : Book fs) : F_lone [fsD fs] st = .ok (.new (loneD fs)) st := by
  have f1 := t_needB (st := st) B
  have f2 := t_parts (st := st) B.ok (by have := B.h2; omega) B.tie
  have f3 := t_lone_of (st := st) B
  have p : plain (fsD fs) = true := rfl
  have z : frz (fsD fs) = fsD fs := rfl
  have p2 : plain (partsD fs (chainOf fs)) = true := by rw [parts_eq]; rfl
  have z2 : frz (partsD fs (chainOf fs)) = partsD fs (chainOf fs) := by rw [parts_eq]; rfl
  unfold F_lone m_lone
  generalize partsD fs (chainOf fs) = P at *
  generalize loneD fs = Q at *
  generalize fsD fs = U at *
  simp [p, z, f1, f2, p2, z2, f3, retD]
end DL.SH
namespace DL.SH
open PySem PySem.Spec L2 DL
/-! ### steps, one by one -/
section
variable {α : Type} {ρ ρ1 : Env_} {st st1 st2 : Store} {m ma mb mc : EM} {d x y r : D} {i : Nat} {b : Bool} {t u : EB} {k1 k2 : SM} {R1 : RS} {F : FM}
theorem evv (e : ρ[i]? = some (some d)) : eVar i ρ st = .ok d st := by rw [ev_var, e]; rfl
theorem ev2 {f : Store → D → D → Option D} (h1 : ma ρ st = .ok x st1) (h2 : mb ρ st1 = .ok y st2) (h3 : f st2 x y = some d) : eBin f ma mb ρ st = .ok d st2 := by rw [ev_bin, h1, bind_ok, h2, bind_ok, h3]; rfl
theorem evX (h1 : ma ρ st = .ok x st1) (h2 : mb ρ st1 = .ok y st2) (h3 : pIdx st2 x y = some d) : eIdx ma mb ρ st = .ok d st2 := by rw [ev_idx, h1, bind_ok, h2, bind_ok, h3]; rfl
theorem evP1 {p : Store → List D → Option D} (h : m ρ st = .ok d st1) (h2 : p st1 [frz d] = some r) : eCallP p (eCons m eNil) ρ st = .ok r st1 := by rw [ev_callP, ev_cons, h, bind_ok, ev_nil, bind_ok, bind_ok, h2]; rfl
theorem evF1 {q : R D} (h : m ρ st = .ok d st1) (hp : plain (frz d) = true) (h2 : F [frz d] st1 = q) : eFn F (eCons m eNil) ρ st = q := by
  rw [ev_fn, ev_cons, h, bind_ok, ev_nil, bind_ok, bind_ok, if_pos (by simp [hp]), h2]
theorem evF2 {q : R D} (h : ma ρ st = .ok x st1) (h' : mb ρ st1 = .ok y st2) (hp : plain (frz x) = true) (hq : plain (frz y) = true) (h2 : F [frz x, frz y] st2 = q) : eFn F (eCons ma (eCons mb eNil)) ρ st = q := by
  rw [ev_fn, ev_cons, h, bind_ok, ev_cons, h', bind_ok, ev_nil, bind_ok, bind_ok, bind_ok, if_pos (by simp [hp, hq]), h2]
theorem evT (h : m ρ st = .ok d st1) (h2 : truth d = some b) : tV m ρ st = .ok b st1 := by rw [ev_tV, h, bind_ok, h2]; rfl
theorem evN (h : t ρ st = .ok b st1) : tNot t ρ st = .ok (!b) st1 := by rw [ev_tNot, h, bind_ok]
theorem evAT {q : R Bool} (h : t ρ st = .ok true st1) (h2 : u ρ st1 = q) : tAnd t u ρ st = q := by rw [ev_tAnd, h, bind_ok, if_pos rfl, h2]
theorem evAF (h : t ρ st = .ok false st1) : tAnd t u ρ st = .ok false st1 := by rw [ev_tAnd, h, bind_ok, if_neg (by simp)]
theorem evOT (h : t ρ st = .ok true st1) : tOr t u ρ st = .ok true st1 := by rw [ev_tOr, h, bind_ok, if_pos rfl]
theorem evOF {q : R Bool} (h : t ρ st = .ok false st1) (h2 : u ρ st1 = q) : tOr t u ρ st = q := by rw [ev_tOr, h, bind_ok, if_neg (by simp), h2]
theorem evA (h : t ρ st = .ok b st1) {c : Bool} (h2 : u ρ st1 = .ok c st1) : tAnd t u ρ st = .ok (b && c) st1 := by
  cases b with
  | true => rw [evAT h h2, Bool.true_and]
  | false => rw [evAF h, Bool.false_and]
theorem eIfT {q : R D} (h : t ρ st = .ok true st1) (h2 : ma ρ st1 = q) : eIf t ma mb ρ st = q := by rw [ev_eif, h, bind_ok, if_pos rfl, h2]
theorem eIfF {q : R D} (h : t ρ st = .ok false st1) (h2 : mb ρ st1 = q) : eIf t ma mb ρ st = q := by rw [ev_eif, h, bind_ok, if_neg (by simp), h2]
theorem sIfT {q : RS} (h : t ρ st = .ok true st1) (h2 : k1 ρ st1 = q) : sIf t k1 k2 ρ st = q := by rw [ev_if, h, ev_ofe, if_pos rfl, h2]
theorem sIfF {q : RS} (h : t ρ st = .ok false st1) (h2 : k2 ρ st1 = q) : sIf t k1 k2 ρ st = q := by rw [ev_if, h, ev_ofe, if_neg (by simp), h2]
theorem asg (h : m ρ st = .ok d st1) (hp : plain (frz d) = true) (h2 : ρ.set i (some (frz d)) = ρ1) : sAsg i m ρ st = .go .nx ρ1 st1 := by rw [ev_asg, h, ev_ofe, if_pos hp, h2]
theorem seqN {q : RS} (h : k1 ρ st = .go .nx ρ1 st1) (h2 : k2 ρ1 st1 = q) : sSeq k1 k2 ρ st = q := by rw [ev_seq, h, then_nx, h2]
theorem seqR (h : k1 ρ st = .go (.rt d) ρ1 st1) : sSeq k1 k2 ρ st = .go (.rt d) ρ1 st1 := by rw [ev_seq, h]; rfl
theorem retS (h : m ρ st = .ok d st1) : sRet m ρ st = .go (.rt d) ρ st1 := by rw [ev_ret, h, ev_ofe]
theorem lst1e (h : m ρ st = .ok d st1) (hp : plain (frz d) = true) : eLst (eCons m eNil) ρ st = .ok (.new [frz d]) st1 := by
  rw [ev_lst, ev_cons, h, bind_ok, ev_nil, bind_ok, bind_ok, if_pos ⟨by simp [hp], by simp⟩]
end
theorem mul_strN {st : Store} {l : List Nat} {k : Nat} (h2 : k ≤ 16000) (h3 : l.length ≤ 1000) : pMul st (.str l) (.int (k : Int)) = some (.str (repL k l)) := by
  by_cases h : k = 0
  · subst h
    show mulT (.str l) l 0 = _
    unfold mulT
    rw [if_pos (by omega), if_pos (by omega)]
    rfl
  · have := mul_str (st := st) (l := l) (k := (k : Int)) (by omega) (by omega) h3
    rw [this, Int.toNat_natCast]
theorem eq_int {st : Store} {a b : Nat} : pEq st (.int (a : Int)) (.int (b : Int)) = some (.bl (a == b)) := by
  show some (D.bl ((a : Int) == (b : Int))) = _
  rw [show ((a : Int) == (b : Int)) = (a == b) by rw [Bool.eq_iff_iff, beq_iff_eq, beq_iff_eq]; omega]
/-! ### told, by a calendar -/
theorem t_told {st : Store} {E A : List Bool} (h : 1 ≤ A.length) (n : Nat) : F__law_told [.tup [bD E, bD A], .int (n : Int)] st = .ok (.bl (toldB E A n)) st := by
  have m1 : pSub st (.int (n : Int)) (.int (E.length : Int)) = some (.int ((n : Int) - (E.length : Int))) := rfl
  have s1 : sUnp [2, 3] (eVar 0) [some (.tup [bD E, bD A]), some (.int (n : Int)), none, none] st = .go .nx [some (.tup [bD E, bD A]), some (.int (n : Int)), some (bD E), some (bD A)] st := rfl
  have lE : eCallP pLen (eCons (eVar 2) eNil) [some (.tup [bD E, bD A]), some (.int (n : Int)), some (bD E), some (bD A)] st = .ok (.int (E.length : Int)) st := evP1 (evv rfl) len_bD
  have lA : eCallP pLen (eCons (eVar 3) eNil) [some (.tup [bD E, bD A]), some (.int (n : Int)), some (bD E), some (bD A)] st = .ok (.int (A.length : Int)) st := evP1 (evv rfl) len_bD
  have hE : ∀ i, (E.map D.bl)[i]? = (E[i]?).map D.bl := fun i => List.getElem?_map ..
  unfold F__law_told m__law_told
  rw [ev_fm, if_pos (show [D.tup [bD E, bD A], D.int (n : Int)].length = 2 from rfl), show startD 4 [D.tup [bD E, bD A], D.int (n : Int)] = [some (.tup [bD E, bD A]), some (.int (n : Int)), none, none] from rfl, ev_seq, s1, then_nx]
  by_cases hn : n < E.length
  · have ix : pIdx st (bD E) (.int (n : Int)) = some (.bl (toldB E A n)) := by
      have := idx_tup (st := st) (l := E.map D.bl) (j := n) (by simpa using hn)
      rw [show bD E = .tup (E.map .bl) from rfl, this]
      unfold toldB
      rw [if_pos hn, List.getElem_map, List.getD_eq_getElem?_getD, List.getElem?_eq_getElem hn]; rfl
    rw [seqR (retS (eIfT (evT (ev2 (evv rfl) lE (show _ = some (.bl true) by rw [ev_cmp, decide_eq_true (by omega)])) rfl) (evX (evv rfl) (evv rfl) ix)))]
    rfl
  · have md : pMod st (.int ((n : Int) - (E.length : Int))) (.int (A.length : Int)) = some (.int (((n - E.length) % A.length : Nat) : Int)) := by
      rw [ev_mod (by omega), show (n : Int) - (E.length : Int) = ((n - E.length : Nat) : Int) by omega]; rfl
    have hlt : (n - E.length) % A.length < A.length := Nat.mod_lt _ h
    have ix : pIdx st (bD A) (.int (((n - E.length) % A.length : Nat) : Int)) = some (.bl (toldB E A n)) := by
      have := idx_tup (st := st) (l := A.map D.bl) (j := (n - E.length) % A.length) (by simpa using hlt)
      rw [show bD A = .tup (A.map .bl) from rfl, this]
      unfold toldB
      rw [if_neg hn, List.getElem_map, List.getD_eq_getElem?_getD, List.getElem?_eq_getElem hlt]; rfl
    rw [seqR (retS (eIfF (evT (ev2 (evv rfl) lE (show _ = some (.bl false) by rw [ev_cmp, decide_eq_false (by omega)])) rfl) (evX (evv rfl) (ev2 (ev2 (evv rfl) lE m1) lA md) ix)))]
    rfl
theorem t_lawfrom {st : Store} {n lo hi : Nat} (h1 : lo ≤ n) (h2 : n ≤ hi) : F__law_from [.int (n : Int), .int (lo : Int), .int (hi : Int)] st = .ok (.bl true) st := by
  have k1 : isTy "int" (.int (n : Int)) = some true := by simp [isTy, D.vw, tyOf]
  have k2 : isTy "bool" (.int (n : Int)) = some false := by simp [isTy, D.vw, tyOf]
  have c1 : pCmp (fun i j => decide (i ≤ j)) st (.int (lo : Int)) (.int (n : Int)) = some (.bl true) := by rw [ev_cmp, decide_eq_true (by omega)]
  have c2 : pCmp (fun i j => decide (i ≤ j)) st (.int (n : Int)) (.int (hi : Int)) = some (.bl true) := by rw [ev_cmp, decide_eq_true (by omega)]
  have q1 : (lo : Int) ≤ n := by omega
  have q2 : (n : Int) ≤ hi := by omega
  unfold F__law_from m__law_from
  generalize (n : Int) = N at *
  generalize (lo : Int) = L at *
  generalize (hi : Int) = H at *
  simp [k1, k2, q1, q2, retD, asB]
/-! ### sizes of a family -/
theorem kept_cong {fs : List Fact} (B : Book fs) {a b : Nat} (ha : 61 ≤ a) (hb : 61 ≤ b) (h : a % (chainOf fs).length = b % (chainOf fs).length) : kept fs a = kept fs b := by
  have key : ∀ {a b : Nat}, 61 ≤ a → a ≤ b → a % (chainOf fs).length = b % (chainOf fs).length → kept fs a = kept fs b := fun {a b} ha hab h => by
    have hd := Nat.sub_mod_eq_zero_of_mod_eq h.symm
    obtain ⟨k, hk⟩ := Nat.dvd_of_mod_eq_zero hd
    rw [show b = a + k * (chainOf fs).length by rw [Nat.mul_comm]; omega, kept_per B ha]
  rcases Nat.le_total a b with h1 | h1
  · exact key ha h1 h
  · exact (key hb h1 h.symm).symm
theorem row_at {fs : List Fact} (h : endB fs = true) : (row96 fs).idxOf true < (chainOf fs).length ∧ kept fs (96 + (row96 fs).idxOf true) = true := by
  have hm : true ∈ row96 fs := of_decide_eq_true h
  have hl : (row96 fs).length = (chainOf fs).length := by unfold row96; simp
  have hi := List.idxOf_lt_length_iff.mpr hm
  refine ⟨by omega, ?_⟩
  have := List.getElem_idxOf (x := true) (xs := row96 fs) hi
  have h2 : ∀ (j : Nat) (hj : j < (row96 fs).length), (row96 fs)[j] = kept fs (96 + j) := fun j hj => by simp [row96]
  rw [← h2 _ hi]; exact this
theorem row_none {fs : List Fact} (B : Book fs) (h : endB fs = false) {n : Nat} (hn : 96 ≤ n) : kept fs n = false := by
  obtain ⟨c1, c2, c3⟩ := chain_ok B.ok
  have hm : ¬ (true ∈ row96 fs) := of_decide_eq_false h
  rw [kept_mod B (show 61 ≤ 96 by omega) hn]
  cases hk : kept fs (96 + (n - 96) % (chainOf fs).length) with
  | false => rfl
  | true =>
    exfalso
    apply hm
    unfold row96
    exact List.mem_map.mpr ⟨(n - 96) % (chainOf fs).length, List.mem_range.mpr (Nat.mod_lt _ c2), hk⟩
/-- the family's members keep the book -/
theorem fam_kept {fs : List Fact} (B : Book fs) (h : endB fs = true) {t : Nat} (ht : leastOf fs ≤ t) : kept fs (restOf fs + t * (chainOf fs).length) = true := by
  obtain ⟨c1, c2, c3⟩ := chain_ok B.ok
  obtain ⟨r1, r2⟩ := row_at h
  by_cases hlt : t < 96 / (chainOf fs).length + 1
  · exact down_in (fun t => kept fs (restOf fs + t * (chainOf fs).length)) _ t ht hlt
  · have hd : 96 < (96 / (chainOf fs).length + 1) * (chainOf fs).length := by
      have := Nat.div_add_mod 96 (chainOf fs).length
      have h2 := Nat.mod_lt 96 c2
      rw [Nat.add_mul, Nat.one_mul, Nat.mul_comm]
      omega
    have hge : (96 / (chainOf fs).length + 1) * (chainOf fs).length ≤ t * (chainOf fs).length := Nat.mul_le_mul_right _ (by omega)
    rw [← r2]
    refine kept_cong B (by omega) (by omega) ?_
    unfold restOf
    rw [Nat.add_mul_mod_self_right, Nat.mod_mod]
theorem fam_least {fs : List Fact} (h0 : leastOf fs ≠ 0) : kept fs (restOf fs + (leastOf fs - 1) * (chainOf fs).length) = false := by
  rcases down_end (fun t => kept fs (restOf fs + t * (chainOf fs).length)) (96 / (chainOf fs).length + 1) with h | h
  · exact absurd h h0
  · exact h
/-- a size that the family holds -/
def insideB (fs : List Fact) (n : Nat) : Bool := if endB fs = true then decide (restOf fs + leastOf fs * (chainOf fs).length ≤ n) && (n - (restOf fs + leastOf fs * (chainOf fs).length)) % (chainOf fs).length == 0 else false
theorem inside_form {fs : List Fact} {n : Nat} (h : insideB fs n = true) : endB fs = true ∧ ∃ t, leastOf fs ≤ t ∧ n = restOf fs + t * (chainOf fs).length := by
  unfold insideB at h
  split at h
  · next he =>
    rw [Bool.and_eq_true, decide_eq_true_eq, beq_iff_eq] at h
    obtain ⟨k, hk⟩ := Nat.dvd_of_mod_eq_zero h.2
    refine ⟨he, leastOf fs + k, by omega, ?_⟩
    rw [Nat.add_mul, Nat.mul_comm k]
    omega
  · cases h
theorem inside_of {fs : List Fact} {t : Nat} (he : endB fs = true) (ht : leastOf fs ≤ t) : insideB fs (restOf fs + t * (chainOf fs).length) = true := by
  unfold insideB
  have hle := Nat.mul_le_mul_right (chainOf fs).length ht
  rw [if_pos he, Bool.and_eq_true, decide_eq_true_eq, beq_iff_eq]
  refine ⟨by omega, ?_⟩
  rw [show restOf fs + t * (chainOf fs).length - (restOf fs + leastOf fs * (chainOf fs).length) = (t - leastOf fs) * (chainOf fs).length by rw [Nat.sub_mul]; omega]
  exact Nat.mul_mod_left ..
theorem inside_kept {fs : List Fact} (B : Book fs) {n : Nat} (h : insideB fs n = true) : kept fs n = true := by
  obtain ⟨he, t, h1, rfl⟩ := inside_form h
  exact fam_kept B he h1
/-- long stamps are of the family -/
theorem long_in {fs : List Fact} (B : Book fs) {n : Nat} (hn : 96 ≤ n) (hk : kept fs n = true) : insideB fs n = true := by
  obtain ⟨c1, c2, c3⟩ := chain_ok B.ok
  cases he : endB fs with
  | false => rw [row_none B he hn] at hk; cases hk
  | true =>
    obtain ⟨r1, r2⟩ := row_at he
    have hr := (one_row B (show 17 ≤ n by omega) (show 17 ≤ 96 + (row96 fs).idxOf true by omega) hk r2).1
    have hr : n % (chainOf fs).length = restOf fs := hr
    have e : n = restOf fs + n / (chainOf fs).length * (chainOf fs).length := by
      have := Nat.mod_add_div n (chainOf fs).length
      rw [Nat.mul_comm] at this
      omega
    rw [e]
    apply inside_of he
    rcases Nat.lt_or_ge (n / (chainOf fs).length) (leastOf fs) with h | h
    · exfalso
      have f := fam_least (fs := fs) (fun z => by rw [z] at h; exact Nat.not_lt_zero _ h)
      have hle : n / (chainOf fs).length * (chainOf fs).length ≤ (leastOf fs - 1) * (chainOf fs).length := Nat.mul_le_mul_right _ (by omega)
      rw [kept_cong B (b := n) (by omega) (by omega) (by rw [Nat.add_mul_mod_self_right, hr, Nat.mod_eq_of_lt (rest_lt c2)]), hk] at f
      cases f
    · exact h
theorem other_not {fs : List Fact} (B : Book fs) (n : Nat) : otherB fs n = !insideB fs n := by
  obtain ⟨c1, c2, c3⟩ := chain_ok B.ok
  cases he : endB fs with
  | false => unfold otherB insideB; rw [if_neg (by simp [he]), if_neg (by simp [he])]; rfl
  | true =>
    have hr := rest_lt (fs := fs) c2
    cases hi : insideB fs n with
    | true =>
      obtain ⟨_, t, h1, rfl⟩ := inside_form hi
      have hle := Nat.mul_le_mul_right (chainOf fs).length h1
      unfold otherB
      rw [if_pos he, Nat.add_mul_mod_self_right, Nat.mod_eq_of_lt hr, decide_eq_false (by omega)]
      simp
    | false =>
      unfold otherB
      rw [if_pos he]
      cases hm : (n % (chainOf fs).length != restOf fs) with
      | true => rfl
      | false =>
        have hm : n % (chainOf fs).length = restOf fs := by simpa using hm
        rw [Bool.false_or, Bool.not_false, decide_eq_true_eq]
        rcases Nat.lt_or_ge n (restOf fs + leastOf fs * (chainOf fs).length) with h | h
        · exact h
        · exfalso
          have e : n = restOf fs + n / (chainOf fs).length * (chainOf fs).length := by
            have := Nat.mod_add_div n (chainOf fs).length
            rw [Nat.mul_comm] at this
            omega
          have hle : leastOf fs ≤ n / (chainOf fs).length := by
            rcases Nat.lt_or_ge (n / (chainOf fs).length) (leastOf fs) with h3 | h3
            · have := Nat.mul_lt_mul_of_pos_right h3 c2
              omega
            · exact h3
          rw [e, inside_of he hle] at hi
          cases hi
theorem again_ends {fs : List Fact} (B : Book fs) {E A : List Bool} (C : Cal fs E A) : decide (true ∈ A) = endB fs := by
  obtain ⟨c1, c2, c3⟩ := chain_ok B.ok
  have a1 := C.a1
  have e1 := C.e1
  rw [Bool.eq_iff_iff, decide_eq_true_eq]
  constructor
  · intro h
    obtain ⟨j, hj, e⟩ := List.mem_iff_getElem.mp h
    have t := C.told (E.length + (j + 96 * A.length))
    have hge : 96 ≤ 96 * A.length := Nat.le_mul_of_pos_right _ a1
    unfold toldB at t
    rw [if_neg (by omega), show E.length + (j + 96 * A.length) - E.length = j + 96 * A.length by omega, Nat.add_mul_mod_self_right, Nat.mod_eq_of_lt hj, List.getD_eq_getElem?_getD, List.getElem?_eq_getElem hj, e] at t
    cases he : endB fs with
    | true => rfl
    | false =>
      have := row_none B he (n := E.length + (j + 96 * A.length)) (by omega)
      rw [← t] at this
      cases this
  · intro h
    obtain ⟨r1, r2⟩ := row_at h
    have t := C.told (96 + (row96 fs).idxOf true)
    rw [r2] at t
    unfold toldB at t
    rw [if_neg (by omega), List.getD_eq_getElem?_getD] at t
    have hlt : (96 + (row96 fs).idxOf true - E.length) % A.length < A.length := Nat.mod_lt _ a1
    rw [List.getElem?_eq_getElem hlt] at t
    have t : A[(96 + (row96 fs).idxOf true - E.length) % A.length] = true := t
    rw [← t]
    exact List.getElem_mem _
theorem rep_beg {ch : List Nat} {t r : Nat} (h0 : 1 ≤ ch.length) (hr : r < ch.length) : repL t ch ++ ch.take r = beg ch (r + t * ch.length) := by
  rw [← beg_rep h0, Nat.add_mul_div_right _ _ h0, Nat.div_eq_of_lt hr, Nat.zero_add]
  have e : repL (t + 1) ch = repL t ch ++ ch := by
    unfold repL
    rw [show t + 1 = t + 1 from rfl, List.replicate_succ', List.flatten_append]
    simp
  rw [e, List.take_append, len_repL, List.take_of_length_le (l := repL t ch) (by rw [len_repL]; omega), show r + t * ch.length - t * ch.length = r by omega]
end DL.SH
namespace DL.K11
open PySem PySem.Spec L2 DL DL.SH
/-! ### pieces of a text -/
def sp (c : Nat) (l : List Nat) : List (List Nat) := TL.spl [c] 0 [] l
theorem spl_ok (c : Nat) : ∀ (l acc : List Nat), (TL.spl [c] 0 acc l ≠ []) ∧ (∀ p ∈ TL.spl [c] 0 acc l, p.length ≤ acc.length + l.length) ∧ (TL.spl [c] 0 acc l).length ≤ l.length + 1
  | [], acc => by
    rw [TL.spl_nil]
    refine ⟨by simp, fun p hp => ?_, by simp⟩
    rw [List.mem_singleton.mp hp]
    simp
  | x :: l, acc => by
    cases h : TL.pre [c] (x :: l) with
    | true =>
      rw [TL.spl_hit h]
      obtain ⟨h1, h2, h3⟩ := spl_ok c l []
      refine ⟨by simp, fun p hp => ?_, ?_⟩
      · rcases List.mem_cons.mp hp with e | e
        · rw [e]; simp
        · have := h2 p e
          simp at this ⊢
          omega
      · show (TL.spl [c] 0 [] l).length + 1 ≤ _
        simp
        exact h3
    | false =>
      rw [TL.spl_miss h]
      obtain ⟨h1, h2, h3⟩ := spl_ok c l (acc ++ [x])
      refine ⟨h1, fun p hp => ?_, ?_⟩
      · have := h2 p hp
        simp at this ⊢
        omega
      · simp
        omega
theorem sp_ne (c : Nat) (l : List Nat) : ∃ w r, sp c l = w :: r := by
  cases h : sp c l with
  | nil => exact absurd h (spl_ok c l []).1
  | cons w r => exact ⟨w, r, rfl⟩
theorem sp_len {c : Nat} {l p : List Nat} (h : p ∈ sp c l) : p.length ≤ l.length := by
  have := (spl_ok c l []).2.1 p h
  simpa using this
theorem sp_count (c : Nat) (l : List Nat) : (sp c l).length ≤ l.length + 1 := (spl_ok c l []).2.2
theorem splitS_sp {c : Nat} {l : List Nat} (h : c < 256) : splitS l [c] = sp c l := by
  unfold splitS sp
  rw [SX.split_S (by simp) (by simpa using h), List.map_map]
  simp [Function.comp_def]
theorem ev_split {ρ : Env_} {st : Store} {i c : Nat} {l : List Nat} (e : ρ[i]? = some (some (.str l))) (hc : c < 256) (hl : l.length ≤ 100000) : eMet pSplit (eVar i) (eCons (eC (.str [c])) eNil) ρ st = .ok (.new ((sp c l).map .str)) st := by
  rw [ev_met, evv e, bind_ok, if_pos (show (txt (D.str l)).isSome = true from rfl), ev_cons, ev_c, bind_ok, ev_nil, bind_ok, bind_ok]
  show R.of (pSplit st (.str l) [.str [c]]) st = _
  have : pSplit st (.str l) [.str [c]] = some (.new ((splitS l [c]).map .str)) := if_pos ⟨by simp, hl⟩
  rw [this, splitS_sp hc]
  rfl
/-! ### numbers of up to 60 -/
def dg : List (List Nat) := (List.range 61).map fun (n : Nat) => digits (n : Int)
def pairsD : List (List Nat × Int) := (List.range 61).map fun (n : Nat) => (digits (n : Int), (n : Int))
theorem dg_ix : ∀ n : Nat, n < 61 → dg.idxOf (digits (n : Int)) = n := by decide +kernel
theorem pr_get : ∀ n : Nat, n < 61 → pairsD.find? (fun p => p.1 == digits (n : Int)) = some (digits (n : Int), (n : Int)) := by decide +kernel
theorem pr_nd : (pairsD.map (·.1)).Nodup := by decide +kernel
theorem dg_some {w : List Nat} (h : w ∈ dg) : ∃ n : Nat, n < 61 ∧ w = digits (n : Int) := by
  obtain ⟨n, hn, e⟩ := List.mem_map.mp h
  exact ⟨n, List.mem_range.mp hn, e.symm⟩
theorem pr_any (w : List Nat) : (pairsD.any fun p => p.1 == w) = decide (w ∈ dg) := by
  rw [Bool.eq_iff_iff, List.any_eq_true, decide_eq_true_eq]
  constructor
  · rintro ⟨p, hp, e⟩
    obtain ⟨n, hn, rfl⟩ := List.mem_map.mp hp
    exact List.mem_map.mpr ⟨n, hn, by simpa using e⟩
  · intro h
    obtain ⟨n, hn, e⟩ := List.mem_map.mp h
    exact ⟨_, List.mem_map.mpr ⟨n, hn, rfl⟩, by simpa using e⟩
theorem rng61 : rng1 [.int 61] = some ((List.range 61).map fun (j : Nat) => D.int (j : Int)) := by
  show rngL 0 61 = _
  unfold rngL
  rw [if_pos (by omega)]
  congr 1
theorem fStr_nat {n : Nat} (h : n < 61) : fStrN (.int (n : Int)) = some (.str (digits (n : Int))) := if_pos (by omega)
theorem comp_dg {ρ : Env_} {st : Store} {i : Nat} (hi : i < ρ.length) : compS (gName i) tYes (eCallP (p1 fStrN) (eCons (eVar i) eNil)) ρ ((List.range 61).map fun (j : Nat) => D.int (j : Int)) [] st = .ok (dg.map .str) st := by
  have := compS_pure (g := gName i) (t := tYes) (me := eCallP (p1 fStrN) (eCons (eVar i) eNil)) (ρ := ρ) (st := st) (p := fun _ => true) (f := fun d => (fStrN d).getD .non) ((List.range 61).map fun (j : Nat) => D.int (j : Int)) [] (fun x hx => by
    obtain ⟨n, hn, rfl⟩ := List.mem_map.mp hx
    have hn := List.mem_range.mp hn
    refine ⟨_, if_pos rfl, rfl, fun _ => ⟨evP1 (evv (List.getElem?_set_self hi)) (show p1 fStrN st [.int (n : Int)] = _ from ?_), ?_⟩⟩
    · rw [show p1 fStrN st [.int (n : Int)] = fStrN (.int (n : Int)) from rfl, fStr_nat hn]; rfl
    · rw [fStr_nat hn]; rfl) (by simp)
  rw [this, List.filter_eq_self.mpr (fun _ _ => rfl), List.nil_append, List.map_map]
  unfold dg
  rw [List.map_map]
  refine congrArg (fun l => R.ok l st) ?_
  refine List.map_congr_left fun n hn => ?_
  have hn := List.mem_range.mp hn
  show frz ((fStrN (.int (n : Int))).getD .non) = _
  rw [fStr_nat hn]; rfl
theorem comp_pr {ρ : Env_} {st : Store} {i : Nat} (hi : i < ρ.length) : compS (gName i) tYes (eTup (eCons (eCallP (p1 fStrN) (eCons (eVar i) eNil)) (eCons (eVar i) eNil))) ρ ((List.range 61).map fun (j : Nat) => D.int (j : Int)) [] st = .ok (pairsD.map fun p => .tup [.str p.1, .int p.2]) st := by
  have := compS_pure (g := gName i) (t := tYes) (me := eTup (eCons (eCallP (p1 fStrN) (eCons (eVar i) eNil)) (eCons (eVar i) eNil))) (ρ := ρ) (st := st) (p := fun _ => true) (f := fun d => .tup [(fStrN d).getD .non, d]) ((List.range 61).map fun (j : Nat) => D.int (j : Int)) [] (fun x hx => by
    obtain ⟨n, hn, rfl⟩ := List.mem_map.mp hx
    have hn := List.mem_range.mp hn
    refine ⟨_, if_pos rfl, rfl, fun _ => ⟨?_, rfl⟩⟩
    have e1 : eCallP (p1 fStrN) (eCons (eVar i) eNil) (ρ.set i (some (.int (n : Int)))) st = .ok (.str (digits (n : Int))) st := evP1 (evv (List.getElem?_set_self hi)) (show fStrN _ = _ from fStr_nat hn)
    have e2 : eVar i (ρ.set i (some (.int (n : Int)))) st = .ok (.int (n : Int)) st := evv (List.getElem?_set_self hi)
    rw [ev_tup, ev_cons, e1, bind_ok, ev_cons, e2, bind_ok, ev_nil, bind_ok, bind_ok, bind_ok, fStr_nat hn]
    rfl) (by simp)
  rw [this, List.filter_eq_self.mpr (fun _ _ => rfl), List.nil_append, List.map_map]
  unfold pairsD
  rw [List.map_map]
  refine congrArg (fun l => R.ok l st) ?_
  refine List.map_congr_left fun n hn => ?_
  have hn := List.mem_range.mp hn
  show frz (.tup [(fStrN (.int (n : Int))).getD .non, .int (n : Int)]) = _
  rw [fStr_nat hn]; rfl
theorem pairsOf_pr : ∀ l : List (List Nat × Int), pairsOf (l.map fun p => .tup [.str p.1, .int p.2]) = some l
  | [] => rfl
  | p :: l => by
    have e : pairOf (.tup [.str p.1, .int p.2]) = some p := rfl
    rw [List.map_cons]
    unfold pairsOf
    rw [e, pairsOf_pr l]
theorem dict_pr {st : Store} : p1 fDict st [.lst (pairsD.map fun p => .tup [.str p.1, .int p.2])] = some (.dic pairsD) := by
  have e : ∀ ds, p1 fDict st [.lst ds] = (pairsOf ds).bind fun l => if (l.map (·.1)).Nodup then some (.dic l) else none := fun _ => rfl
  rw [e, pairsOf_pr, Option.bind_some, if_pos pr_nd]
theorem eqAll_str (w : List Nat) : ∀ L : List (List Nat), eqAll (.str w) (L.map .str) = some (L.map (· == w))
  | [] => rfl
  | x :: L => by
    have e : eqF 50 (.str x) (.str w) = some (x == w) := rfl
    rw [List.map_cons]
    unfold eqAll
    rw [e, eqAll_str w L]
    rfl
theorem idx_true (w : List Nat) : ∀ L : List (List Nat), (L.map (· == w)).idxOf true = L.idxOf w
  | [] => rfl
  | x :: L => by
    rw [List.map_cons, List.idxOf_cons, List.idxOf_cons, idx_true w L]
    cases h : (x == w) <;> simp
theorem mem_true (w : List Nat) (L : List (List Nat)) : true ∈ L.map (· == w) ↔ w ∈ L := by
  rw [List.mem_map]
  constructor
  · rintro ⟨x, hx, e⟩
    rw [beq_iff_eq] at e
    rwa [← e]
  · intro h
    exact ⟨w, h, by simp⟩
theorem index_strs {st : Store} {w : List Nat} {L : List (List Nat)} (h : w ∈ L) : pIndexE st (.lst (L.map .str)) [.str w] = some (.int (L.idxOf w : Nat)) := by
  show (eqAll (.str w) (L.map .str)).bind _ = _
  rw [eqAll_str, Option.bind_some, if_pos ((mem_true w L).mpr h), idx_true]
theorem inL_strs (w : List Nat) : ∀ L : List (List Nat), inL (eqF 50) (L.map .str) (.str w) = some (decide (w ∈ L))
  | [] => rfl
  | x :: L => by
    have e : eqF 50 (.str x) (.str w) = some (x == w) := rfl
    rw [List.map_cons]
    unfold inL
    rw [e, inL_strs w L]
    show some _ = some _
    congr 1
    rw [Bool.eq_iff_iff]
    simp only [Bool.or_eq_true, beq_iff_eq, decide_eq_true_eq, List.mem_cons]
    exact ⟨fun h => h.imp Eq.symm id, fun h => h.imp Eq.symm id⟩
theorem in_strs {st : Store} (w : List Nat) (L : List (List Nat)) : pIn st (.str w) (.lst (L.map .str)) = some (.bl (decide (w ∈ L))) := by
  show (inL (eqF 50) (L.map .str) (.str w)).map D.bl = _
  rw [inL_strs]; rfl
/-! ### a line's fact -/
def undash (w : List Nat) : D := if w = [45] then .str [] else .str w
def factT (w : List Nat) (r : List (List Nat)) : D := .tup (.str w :: r.map undash)
def numT (w : List Nat) : List (List Nat) → D
  | [x] => if x ∈ dg then .tup [.str w, .int (dg.idxOf x : Nat)] else .non
  | _ => .non
def rlD : List (List Nat) → D
  | [] => .non
  | w :: r => if (w = wLeast ∨ w = wMost) ∧ r.length = 1 then numT w r else if [] ∈ w :: r then .non else if isFact (factT w r) = true then factT w r else .non
theorem und_ok {n d : Nat} {w : List Nat} (h : w.length ≤ n) : okV n d (undash w) := by
  unfold undash
  split
  · cases d <;> exact Nat.zero_le _
  · cases d <;> exact h
theorem fact_ok {n : Nat} {w : List Nat} {r : List (List Nat)} (hw : w.length ≤ n) (hr : ∀ x ∈ r, x.length ≤ n) (hl : r.length + 1 ≤ n) : okV n 2 (factT w r) := by
  refine ⟨by simpa [factT] using hl, fun x hx => ?_⟩
  rcases List.mem_cons.mp hx with rfl | hx
  · exact hw
  · obtain ⟨y, hy, rfl⟩ := List.mem_map.mp hx
    exact und_ok (hr y hy)
theorem comp_und {ρ : Env_} {st : Store} {i : Nat} (hi : i < ρ.length) (r : List (List Nat)) (hl : r.length ≤ 1000000) : compS (gName i) tYes (eIf (tV (eBin pEq (eVar i) (eC (.str [45])))) (eC (.str [])) (eVar i)) ρ (r.map .str) [] st = .ok (r.map undash) st := by
  have := compS_pure (g := gName i) (t := tYes) (me := eIf (tV (eBin pEq (eVar i) (eC (.str [45])))) (eC (.str [])) (eVar i)) (ρ := ρ) (st := st) (p := fun _ => true) (f := fun d => match d with | .str w => undash w | _ => .non) (r.map .str) [] (fun x hx => by
    obtain ⟨w, hw, rfl⟩ := List.mem_map.mp hx
    refine ⟨_, if_pos rfl, rfl, fun _ => ⟨?_, ?_⟩⟩
    · have ev : eVar i (ρ.set i (some (.str w))) st = .ok (.str w) st := evv (List.getElem?_set_self hi)
      have et : tV (eBin pEq (eVar i) (eC (.str [45]))) (ρ.set i (some (.str w))) st = .ok (w == [45]) st := evT (ev2 ev rfl eq_str) rfl
      show _ = R.ok (undash w) st
      unfold undash
      by_cases h : w = [45]
      · rw [if_pos h]
        exact eIfT (by rw [et, h]; rfl) rfl
      · rw [if_neg h]
        exact eIfF (by rw [et, beq_eq_false_iff_ne.mpr h]) ev
    · show plain (frz (undash w)) = true
      unfold undash
      split <;> rfl) (by simpa using hl)
  rw [this, List.filter_eq_self.mpr (fun _ _ => rfl), List.nil_append, List.map_map]
  congr 1
  refine List.map_congr_left fun w _ => ?_
  show frz (undash w) = _
  unfold undash
  split <;> rfl
end DL.K11
namespace DL.K11
open PySem PySem.Spec L2 DL DL.SH
theorem in_tups {st : Store} (w : List Nat) (L : List (List Nat)) : pIn st (.str w) (.tup (L.map .str)) = some (.bl (decide (w ∈ L))) := by
  show (inL (eqF 50) (L.map .str) (.str w)).map D.bl = _
  rw [inL_strs]; rfl
theorem in_news {st : Store} (w : List Nat) (L : List (List Nat)) : pIn st (.str w) (.new (L.map .str)) = some (.bl (decide (w ∈ L))) := by
  show (inL (eqF 50) (L.map .str) (.str w)).map D.bl = _
  rw [inL_strs]; rfl
theorem len_strs {st : Store} (L : List (List Nat)) : pLen st [.lst (L.map .str)] = some (.int (L.length : Int)) := by
  show some (D.int ((L.map D.str).length : Int)) = _
  rw [List.length_map]
def tailS : SM := (sSeq (sIf (tV (eBin pIn (eC (.str [])) (eVar 1))) (sSeq (sRet (eC .non)) sNext) sNext) (sSeq (sAsg 3 (eBin pAdd (eTup (eCons (eIdx (eVar 1) (eC (.int 0))) eNil)) (eCallP (p1 fTup) (eCons (eComp [5] (iVal (eSl (eVar 1) (oSome (eC (.int 1))) oNone)) (gName 5) tYes (eIf (tV (eBin pEq (eVar 5) (eC (.str [45])))) (eC (.str [])) (eVar 5))) eNil)))) (sSeq (sRet (eIf (tV (eFn F_is_fact (eCons (eVar 3) eNil))) (eVar 3) (eC .non))) sNext)))
def tailD (w : List Nat) (r : List (List Nat)) : D := if [] ∈ w :: r then .non else if isFact (factT w r) = true then factT w r else .non
theorem tail_ok {st : Store} {l w : List Nat} {r : List (List Nat)} {a2 a3 a4 a5 : Option D} (hw : w.length ≤ 90000) (hr : ∀ x ∈ r, x.length ≤ 90000) (hl : r.length + 1 ≤ 90001) :
    ∃ ρ, tailS [some (.str l), some (.lst ((w :: r).map .str)), a2, a3, a4, a5] st = .go (.rt (tailD w r)) ρ st := by
  have c0 : tV (eBin pIn (eC (.str [])) (eVar 1)) [some (.str l), some (.lst ((w :: r).map .str)), a2, a3, a4, a5] st = .ok (decide ([] ∈ w :: r)) st := evT (ev2 rfl (evv rfl) (in_strs [] (w :: r))) rfl
  unfold tailS tailD
  by_cases h : [] ∈ w :: r
  · rw [if_pos h]
    rw [decide_eq_true h] at c0
    exact ⟨_, seqR (sIfT c0 (seqR (retS rfl)))⟩
  · rw [if_neg h]
    rw [decide_eq_false h] at c0
    have x0 : eIdx (eVar 1) (eC (.int 0)) [some (.str l), some (.lst ((w :: r).map .str)), a2, a3, a4, a5] st = .ok (.str w) st := evX (evv rfl) rfl (idx_lst (j := 0) (by simp))
    have sl : eSl (eVar 1) (oSome (eC (.int 1))) oNone [some (.str l), some (.lst ((w :: r).map .str)), a2, a3, a4, a5] st = .ok (.new (r.map .str)) st := by
      show R.of (sliceV (.lst ((w :: r).map D.str)) (some 1) none) st = _
      rw [sliceV_lst, cut_from _ (by omega)]
      rfl
    have cm : eComp [5] (iVal (eSl (eVar 1) (oSome (eC (.int 1))) oNone)) (gName 5) tYes (eIf (tV (eBin pEq (eVar 5) (eC (.str [45])))) (eC (.str [])) (eVar 5)) [some (.str l), some (.lst ((w :: r).map .str)), a2, a3, a4, a5] st = .ok (.new (r.map undash)) st := by
      rw [ev_comp, ev_val, sl, bind_ok]
      rw [show itemsV (.new (r.map D.str)) = some (r.map D.str) from rfl, of_some, bind_ok, comp_und (by simp [wipeD]) r (by omega), bind_ok]
    have tp : eTup (eCons (eIdx (eVar 1) (eC (.int 0))) eNil) [some (.str l), some (.lst ((w :: r).map .str)), a2, a3, a4, a5] st = .ok (.tup [.str w]) st := by
      rw [ev_tup, ev_cons, x0, bind_ok, ev_nil, bind_ok, bind_ok]; rfl
    have ad : pAdd st (.tup [.str w]) (.tup (r.map undash)) = some (factT w r) := add_tup (by simp; omega)
    have s3 := asg (i := 3) (ev2 tp (evP1 cm (show p1 fTup st [.lst (r.map undash)] = some (.tup (r.map undash)) from rfl)) ad) rfl rfl
    have tf := t_fact (st := st) (n := 100000) (d := 2) (v := factT w r) (by omega) (fact_ok (by omega) (fun x hx => by have := hr x hx; omega) (by omega))
    have pf : plain (factT w r) = true := rfl
    have zf : frz (factT w r) = factT w r := rfl
    have rt : ∀ ρ : Env_, ρ[3]? = some (some (factT w r)) → eIf (tV (eFn F_is_fact (eCons (eVar 3) eNil))) (eVar 3) (eC .non) ρ st = .ok (if isFact (factT w r) = true then factT w r else .non) st := fun ρ e => by
      generalize factT w r = FT at *
      have t : tV (eFn F_is_fact (eCons (eVar 3) eNil)) ρ st = .ok (isFact FT) st := evT (evF1 (evv e) (by rw [zf]; exact pf) (by rw [zf]; exact tf)) rfl
      cases hf : isFact FT with
      | true =>
        rw [hf] at t
        rw [if_pos rfl]
        exact eIfT t (evv e)
      | false =>
        rw [hf] at t
        rw [if_neg (by simp)]
        exact eIfF t rfl
    exact ⟨_, seqN (sIfF c0 rfl) (seqN s3 (seqR (retS (rt _ rfl))))⟩
theorem mem2 (w : List Nat) : w ∈ [wLeast, wMost] ↔ (w = wLeast ∨ w = wMost) := by simp
theorem rl_tail {w : List Nat} {r : List (List Nat)} (h : ¬ ((w = wLeast ∨ w = wMost) ∧ r.length = 1)) : rlD (w :: r) = tailD w r := if_neg h
theorem numT_frz (w x : List Nat) : retD (numT w [x]) = numT w [x] := by
  have e : numT w [x] = if x ∈ dg then .tup [.str w, .int (dg.idxOf x : Nat)] else .non := rfl
  rw [e]
  by_cases h : x ∈ dg
  · rw [if_pos h]; rfl
  · rw [if_neg h]; rfl
theorem tail_frz (w : List Nat) (r : List (List Nat)) : retD (tailD w r) = tailD w r := by
  unfold tailD
  split
  · rfl
  · split <;> rfl
theorem t_read_line {st : Store} {l : List Nat} (hl : l.length ≤ 90000) : F_read_line [.str l] st = .ok (rlD (sp 32 l)) st := by
  obtain ⟨w, r, hW⟩ := sp_ne 32 l
  have hw : w.length ≤ 90000 := Nat.le_trans (sp_len (c := 32) (by rw [hW]; exact List.mem_cons_self ..)) hl
  have hr : ∀ x ∈ r, x.length ≤ 90000 := fun x hx => Nat.le_trans (sp_len (c := 32) (by rw [hW]; exact List.mem_cons_of_mem _ hx)) hl
  have hc := sp_count 32 l
  rw [hW, List.length_cons] at hc
  have s1 := asg (i := 1) (ρ := [some (.str l), none, none, none, none, none]) (st := st) (ev_split (i := 0) (c := 32) (l := l) rfl (by omega) (by omega)) rfl rfl
  rw [hW] at s1 ⊢
  have s1 : sAsg 1 (eMet pSplit (eVar 0) (eCons (eC (.str [32])) eNil)) [some (.str l), none, none, none, none, none] st = .go .nx [some (.str l), some (.lst ((w :: r).map .str)), none, none, none, none] st := s1
  have x0 : ∀ a2, eIdx (eVar 1) (eC (.int 0)) [some (.str l), some (.lst ((w :: r).map .str)), a2, none, none, none] st = .ok (.str w) st := fun a2 => evX (evv rfl) rfl (idx_lst (j := 0) (by simp))
  have c1 : tAnd (tV (eBin pIn (eIdx (eVar 1) (eC (.int 0))) (eTup (eCons (eC (.str [108, 101, 97, 115, 116])) (eCons (eC (.str [109, 111, 115, 116])) eNil))))) (tV (eBin pEq (eCallP pLen (eCons (eVar 1) eNil)) (eC (.int 2)))) [some (.str l), some (.lst ((w :: r).map .str)), none, none, none, none] st = .ok (decide (w ∈ [wLeast, wMost]) && ((w :: r).length == 2)) st :=
    evA (evT (ev2 (x0 none) rfl (in_tups w [wLeast, wMost])) rfl) (evT (ev2 (evP1 (evv rfl) (len_strs (w :: r))) rfl (eq_int (b := 2))) rfl)
  unfold F_read_line m_read_line
  rw [ev_fm, if_pos (show [D.str l].length = 1 from rfl), show startD 6 [D.str l] = [some (.str l), none, none, none, none, none] from rfl]
  by_cases h : (w = wLeast ∨ w = wMost) ∧ r.length = 1
  · have c1' : (decide (w ∈ [wLeast, wMost]) && ((w :: r).length == 2)) = true := by
      rw [Bool.and_eq_true, decide_eq_true_eq, beq_iff_eq, mem2, List.length_cons]
      exact ⟨h.1, by omega⟩
    rw [c1'] at c1
    obtain ⟨x, rfl⟩ : ∃ x, r = [x] := List.length_eq_one_iff.mp h.2
    have cm : eComp [4] (iRng1D (eCons (eBin pAdd (eC (.int 60)) (eC (.int 1))) eNil)) (gName 4) tYes (eCallP (p1 fStrN) (eCons (eVar 4) eNil)) [some (.str l), some (.lst ([w, x].map .str)), none, none, none, none] st = .ok (.new (dg.map .str)) st := by
      rw [ev_comp, ev_rng1]
      have c : (eCons (eBin pAdd (eC (.int 60)) (eC (.int 1))) eNil) [some (.str l), some (.lst ([w, x].map .str)), none, none, none, none] st = .ok [.int 61] st := rfl
      rw [c, bind_ok, rng61, of_some, bind_ok, comp_dg (by simp [wipeD]), bind_ok]
    have s2 : sAsg 2 (eComp [4] (iRng1D (eCons (eBin pAdd (eC (.int 60)) (eC (.int 1))) eNil)) (gName 4) tYes (eCallP (p1 fStrN) (eCons (eVar 4) eNil))) [some (.str l), some (.lst ([w, x].map .str)), none, none, none, none] st = .go .nx [some (.str l), some (.lst ([w, x].map .str)), some (.lst (dg.map .str)), none, none, none] st := asg cm rfl rfl
    have x1 : eIdx (eVar 1) (eC (.int 1)) [some (.str l), some (.lst ([w, x].map .str)), some (.lst (dg.map .str)), none, none, none] st = .ok (.str x) st := evX (evv rfl) rfl (idx_lst (j := 1) (by simp))
    have t1 : tV (eBin pIn (eIdx (eVar 1) (eC (.int 1))) (eVar 2)) [some (.str l), some (.lst ([w, x].map .str)), some (.lst (dg.map .str)), none, none, none] st = .ok (decide (x ∈ dg)) st := evT (ev2 x1 (evv rfl) (in_strs x dg)) rfl
    have e : rlD [w, x] = numT w [x] := if_pos h
    rw [e]
    have fin : eIf (tV (eBin pIn (eIdx (eVar 1) (eC (.int 1))) (eVar 2))) (eTup (eCons (eIdx (eVar 1) (eC (.int 0))) (eCons (eMetL pIndexE (eVar 2) (eCons (eIdx (eVar 1) (eC (.int 1))) eNil)) eNil))) (eC .non) [some (.str l), some (.lst ([w, x].map .str)), some (.lst (dg.map .str)), none, none, none] st = .ok (numT w [x]) st := by
      unfold numT
      by_cases hx : x ∈ dg
      · rw [decide_eq_true hx] at t1
        simp only [if_pos hx]
        refine eIfT t1 ?_
        have ix : eMetL pIndexE (eVar 2) (eCons (eIdx (eVar 1) (eC (.int 1))) eNil) [some (.str l), some (.lst ([w, x].map .str)), some (.lst (dg.map .str)), none, none, none] st = .ok (.int (dg.idxOf x : Nat)) st := by
          rw [ev_metL, evv (d := .lst (dg.map .str)) rfl, bind_ok, if_pos (show (lstV (D.lst (dg.map .str))).isSome = true from rfl), ev_cons, x1, bind_ok, ev_nil, bind_ok, bind_ok, ev_frz_str, index_strs hx]
          rfl
        rw [ev_tup, ev_cons, x0, bind_ok, ev_cons, ix, bind_ok, ev_nil, bind_ok, bind_ok, bind_ok]
        rfl
      · rw [decide_eq_false hx] at t1
        simp only [if_neg hx]
        exact eIfF t1 rfl
    refine Eq.trans (congrArg finR (seqN s1 (seqR (sIfT c1 (seqN s2 (seqR (retS fin))))))) ?_
    rw [ev_finR, numT_frz]
  · have c1' : (decide (w ∈ [wLeast, wMost]) && ((w :: r).length == 2)) = false := by
      rw [Bool.and_eq_false_iff]
      by_cases hm : w ∈ [wLeast, wMost]
      · right
        rw [beq_eq_false_iff_ne, List.length_cons]
        intro e
        exact h ⟨(mem2 w).mp hm, by omega⟩
      · exact .inl (decide_eq_false hm)
    rw [c1'] at c1
    obtain ⟨ρ', tl⟩ := tail_ok (st := st) (l := l) (w := w) (r := r) (a2 := none) (a3 := none) (a4 := none) (a5 := none) hw hr (by omega)
    rw [rl_tail h]
    refine Eq.trans (congrArg finR (seqN s1 (seqN (sIfF c1 rfl) tl))) ?_
    rw [ev_finR, tail_frz]
theorem t_fact_of {st : Store} {l : List Nat} (hl : l.length ≤ 90000) : F__law_fact_of [.str l] st = .ok (rlD (sp 32 l)) st := by
  obtain ⟨w, r, hW⟩ := sp_ne 32 l
  have hw : w.length ≤ 90000 := Nat.le_trans (sp_len (c := 32) (by rw [hW]; exact List.mem_cons_self ..)) hl
  have hr : ∀ x ∈ r, x.length ≤ 90000 := fun x hx => Nat.le_trans (sp_len (c := 32) (by rw [hW]; exact List.mem_cons_of_mem _ hx)) hl
  have hc := sp_count 32 l
  rw [hW, List.length_cons] at hc
  have s1 := asg (i := 1) (ρ := [some (.str l), none, none, none, none, none]) (st := st) (ev_split (i := 0) (c := 32) (l := l) rfl (by omega) (by omega)) rfl rfl
  rw [hW] at s1 ⊢
  have s1 : sAsg 1 (eMet pSplit (eVar 0) (eCons (eC (.str [32])) eNil)) [some (.str l), none, none, none, none, none] st = .go .nx [some (.str l), some (.lst ((w :: r).map .str)), none, none, none, none] st := s1
  have x0 : ∀ a2, eIdx (eVar 1) (eC (.int 0)) [some (.str l), some (.lst ((w :: r).map .str)), a2, none, none, none] st = .ok (.str w) st := fun a2 => evX (evv rfl) rfl (idx_lst (j := 0) (by simp))
  have c1 : tAnd (tV (eBin pIn (eIdx (eVar 1) (eC (.int 0))) (eLst (eCons (eC (.str [108, 101, 97, 115, 116])) (eCons (eC (.str [109, 111, 115, 116])) eNil))))) (tV (eBin pEq (eCallP pLen (eCons (eVar 1) eNil)) (eC (.int 2)))) [some (.str l), some (.lst ((w :: r).map .str)), none, none, none, none] st = .ok (decide (w ∈ [wLeast, wMost]) && ((w :: r).length == 2)) st :=
    evA (evT (ev2 (x0 none) rfl (in_news w [wLeast, wMost])) rfl) (evT (ev2 (evP1 (evv rfl) (len_strs (w :: r))) rfl (eq_int (b := 2))) rfl)
  unfold F__law_fact_of m__law_fact_of
  rw [ev_fm, if_pos (show [D.str l].length = 1 from rfl), show startD 6 [D.str l] = [some (.str l), none, none, none, none, none] from rfl]
  by_cases h : (w = wLeast ∨ w = wMost) ∧ r.length = 1
  · have c1' : (decide (w ∈ [wLeast, wMost]) && ((w :: r).length == 2)) = true := by
      rw [Bool.and_eq_true, decide_eq_true_eq, beq_iff_eq, mem2, List.length_cons]
      exact ⟨h.1, by omega⟩
    rw [c1'] at c1
    obtain ⟨x, rfl⟩ : ∃ x, r = [x] := List.length_eq_one_iff.mp h.2
    have cm : eComp [4] (iRng1D (eCons (eC (.int 61)) eNil)) (gName 4) tYes (eTup (eCons (eCallP (p1 fStrN) (eCons (eVar 4) eNil)) (eCons (eVar 4) eNil))) [some (.str l), some (.lst ([w, x].map .str)), none, none, none, none] st = .ok (.new (pairsD.map fun p => .tup [.str p.1, .int p.2])) st := by
      rw [ev_comp, ev_rng1]
      have c : (eCons (eC (.int 61)) eNil) [some (.str l), some (.lst ([w, x].map .str)), none, none, none, none] st = .ok [.int 61] st := rfl
      rw [c, bind_ok, rng61, of_some, bind_ok, comp_pr (by simp [wipeD]), bind_ok]
    have s2 : sAsg 2 (eCallP (p1 fDict) (eCons (eComp [4] (iRng1D (eCons (eC (.int 61)) eNil)) (gName 4) tYes (eTup (eCons (eCallP (p1 fStrN) (eCons (eVar 4) eNil)) (eCons (eVar 4) eNil)))) eNil)) [some (.str l), some (.lst ([w, x].map .str)), none, none, none, none] st = .go .nx [some (.str l), some (.lst ([w, x].map .str)), some (.dic pairsD), none, none, none] st := asg (evP1 cm dict_pr) rfl rfl
    have x1 : eIdx (eVar 1) (eC (.int 1)) [some (.str l), some (.lst ([w, x].map .str)), some (.dic pairsD), none, none, none] st = .ok (.str x) st := evX (evv rfl) rfl (idx_lst (j := 1) (by simp))
    have t1 : tV (eBin pInD (eIdx (eVar 1) (eC (.int 1))) (eVar 2)) [some (.str l), some (.lst ([w, x].map .str)), some (.dic pairsD), none, none, none] st = .ok (decide (x ∈ dg)) st := evT (ev2 x1 (evv rfl) (show some (D.bl (pairsD.any fun p => p.1 == x)) = _ by rw [pr_any])) rfl
    have e : rlD [w, x] = numT w [x] := if_pos h
    rw [e]
    have fin : eIf (tV (eBin pInD (eIdx (eVar 1) (eC (.int 1))) (eVar 2))) (eTup (eCons (eIdx (eVar 1) (eC (.int 0))) (eCons (eGetD (eVar 2) (eIdx (eVar 1) (eC (.int 1)))) eNil))) (eC .non) [some (.str l), some (.lst ([w, x].map .str)), some (.dic pairsD), none, none, none] st = .ok (numT w [x]) st := by
      unfold numT
      by_cases hx : x ∈ dg
      · rw [decide_eq_true hx] at t1
        simp only [if_pos hx]
        refine eIfT t1 ?_
        obtain ⟨n, hn, rfl⟩ := dg_some hx
        have gt : eGetD (eVar 2) (eIdx (eVar 1) (eC (.int 1))) [some (.str l), some (.lst ([w, digits (n : Int)].map .str)), some (.dic pairsD), none, none, none] st = .ok (.int (dg.idxOf (digits (n : Int)) : Nat)) st := by
          rw [dg_ix n hn]
          exact ev2 (evv rfl) x1 (show (pairsD.find? fun p => p.1 == digits (n : Int)).map (fun p => D.int p.2) = _ by rw [pr_get n hn]; rfl)
        rw [ev_tup, ev_cons, x0, bind_ok, ev_cons, gt, bind_ok, ev_nil, bind_ok, bind_ok, bind_ok]
        rfl
      · rw [decide_eq_false hx] at t1
        simp only [if_neg hx]
        exact eIfF t1 rfl
    refine Eq.trans (congrArg finR (seqN s1 (seqR (sIfT c1 (seqN s2 (seqR (retS fin))))))) ?_
    rw [ev_finR, numT_frz]
  · have c1' : (decide (w ∈ [wLeast, wMost]) && ((w :: r).length == 2)) = false := by
      rw [Bool.and_eq_false_iff]
      by_cases hm : w ∈ [wLeast, wMost]
      · right
        rw [beq_eq_false_iff_ne, List.length_cons]
        intro e
        exact h ⟨(mem2 w).mp hm, by omega⟩
      · exact .inl (decide_eq_false hm)
    rw [c1'] at c1
    obtain ⟨ρ', tl⟩ := tail_ok (st := st) (l := l) (w := w) (r := r) (a2 := none) (a3 := none) (a4 := none) (a5 := none) hw hr (by omega)
    rw [rl_tail h]
    refine Eq.trans (congrArg finR (seqN s1 (seqN (sIfF c1 rfl) tl))) ?_
    rw [ev_finR, tail_frz]
end DL.K11
namespace DL.K11
open PySem PySem.Spec L2 DL DL.SH
def exT (i : Int) : Ex := ⟨"InvalidText", some ("line", i)⟩
theorem rlD_ok {n : Nat} {l : List Nat} (h : l.length + 1 ≤ n) : okV n 2 (rlD (sp 32 l)) := by
  obtain ⟨w, r, hW⟩ := sp_ne 32 l
  have hw : w.length ≤ n := Nat.le_trans (sp_len (c := 32) (by rw [hW]; exact List.mem_cons_self ..)) (by omega)
  have hr : ∀ x ∈ r, x.length ≤ n := fun x hx => Nat.le_trans (sp_len (c := 32) (by rw [hW]; exact List.mem_cons_of_mem _ hx)) (by omega)
  have hc := sp_count 32 l
  rw [hW, List.length_cons] at hc
  have f := fact_ok hw hr (by omega)
  rw [hW]
  by_cases h1 : (w = wLeast ∨ w = wMost) ∧ r.length = 1
  · have e : rlD (w :: r) = numT w r := if_pos h1
    rw [e]
    obtain ⟨x, rfl⟩ := List.length_eq_one_iff.mp h1.2
    have e : numT w [x] = if x ∈ dg then .tup [.str w, .int (dg.idxOf x : Nat)] else .non := rfl
    rw [e]
    split
    · exact ⟨by simp at hc ⊢; omega, fun x hx => by
        simp only [List.mem_cons, List.not_mem_nil, or_false] at hx
        rcases hx with rfl | rfl
        · exact hw
        · trivial⟩
    · trivial
  · rw [rl_tail h1]
    unfold tailD
    split
    · trivial
    · split
      · exact f
      · trivial
theorem seqX {k1 k2 : SM} {ρ ρ1 : Env_} {st st1 : Store} {e : Ex} (h : k1 ρ st = .exn e ρ1 st1) : sSeq k1 k2 ρ st = .exn e ρ1 st1 := by rw [ev_seq, h]; rfl
theorem eq_self {n : Nat} : ∀ (d : Nat) (v : D), okV n d v → ∀ k, d < k → eqF k v v = some true
  | d, v, h, 0, hk => absurd hk (by omega)
  | d, v, h, k + 1, hk => by
    have lst : ∀ l : List D, (∀ x ∈ l, eqF k x x = some true) → eqL (eqF k) l l = some true := fun l => by
      induction l with
      | nil => intro _; rfl
      | cons a l ih =>
        intro h
        unfold eqL
        rw [h a (List.mem_cons_self ..), ih fun x hx => h x (List.mem_cons_of_mem _ hx)]
        rfl
    unfold eqF
    cases v with
    | non => rfl
    | bl b => show some (b == b) = _; rw [beq_self_eq_true]
    | int b => show some (b == b) = _; rw [beq_self_eq_true]
    | str b => show some (b == b) = _; rw [beq_self_eq_true]
    | tup l =>
      cases d with
      | zero => exact h.elim
      | succ d => exact lst l fun x hx => eq_self d x (h.2 x hx) k (by omega)
    | lst l =>
      cases d with
      | zero => exact h.elim
      | succ d => exact lst l fun x hx => eq_self d x (h.2 x hx) k (by omega)
    | _ => cases d <;> exact h.elim
theorem ne_self {st : Store} {n d : Nat} {v : D} (h : okV n d v) (hd : d < 50) : pNe st v v = some (.bl false) := by
  show (eqF 50 v v).map _ = _
  rw [eq_self d v h 50 hd]; rfl
theorem eq_non {v : D} (h : v.vw ≠ none) : eqF 50 v .non = some (isNon v) := by
  cases v <;> first | rfl | exact absurd rfl h
/-! ### the lines -/
def rowsD (L : List (List Nat)) : List D := L.map fun l => rlD (sp 32 l)
def lineR (L : List (List Nat)) : D := if (rowsD L).any isNon = true then .int ((rowsD L).findIdx isNon + 1 : Nat) else if isFacts (.tup (rowsD L)) = true then .tup (rowsD L) else .int (L.length + 1 : Nat)
theorem rows_ok {n : Nat} {L : List (List Nat)} (h : ∀ l ∈ L, l.length + 1 ≤ n) (hl : L.length ≤ n) : okV n 3 (.tup (rowsD L)) :=
  ⟨by unfold rowsD; rw [List.length_map]; exact hl, fun x hx => by
    obtain ⟨l, hm, rfl⟩ := List.mem_map.mp hx
    exact rlD_ok (h l hm)⟩
theorem lineR_ok {n : Nat} {L : List (List Nat)} (h : ∀ l ∈ L, l.length + 1 ≤ n) (hl : L.length ≤ n) : okV n 3 (lineR L) := by
  unfold lineR
  split
  · trivial
  · split
    · exact rows_ok h hl
    · trivial
def enumK (k : Nat) (L : List (List Nat)) : List D := ((L.map D.str).zipIdx k).map fun p => .tup [.int (p.2 : Int), p.1]
theorem enumK_cons (k : Nat) (l : List Nat) (L : List (List Nat)) : enumK k (l :: L) = .tup [.int (k : Int), .str l] :: enumK (k + 1) L := by
  unfold enumK
  rw [List.map_cons, List.zipIdx_cons, List.map_cons]
theorem t_loop {st : Store} {v : D} : ∀ (L : List (List Nat)) (k : Nat) (acc : List D) (a2 a3 a4 : Option D), (∀ l ∈ L, l.length ≤ 90000) → acc.length + L.length ≤ 100000 →
    ∃ ρ', loopS (gTup [2, 3]) b1_read_facts (enumK k L) [some v, some (.own 1 acc), a2, a3, a4] st = (if (rowsD L).any isNon = true then .exn (exT ((k + (rowsD L).findIdx isNon + 1 : Nat) : Int)) ρ' st else .go .nx ρ' st) ∧ ((rowsD L).any isNon = false → ∃ b2 b3 b4, ρ' = [some v, some (.own 1 (acc ++ rowsD L)), b2, b3, b4])
  | [], k, acc, a2, a3, a4, _, _ => ⟨_, rfl, fun _ => ⟨a2, a3, a4, by rw [show rowsD [] = [] from rfl, List.append_nil]⟩⟩
  | l :: L, k, acc, a2, a3, a4, h1, h2 => by
    rw [List.length_cons] at h2
    have hl := h1 l (List.mem_cons_self ..)
    have er : rowsD (l :: L) = rlD (sp 32 l) :: rowsD L := rfl
    have o := rlD_ok (n := 100000) (l := l) (by omega)
    rw [enumK_cons, er, List.any_cons, List.findIdx_cons]
    have g0 : gTup [2, 3] (.tup [.int (k : Int), .str l]) [some v, some (.own 1 acc), a2, a3, a4] = some [some v, some (.own 1 acc), some (.int (k : Int)), some (.str l), a4] := rfl
    have tr : F_read_line [frz (.str l)] st = .ok (rlD (sp 32 l)) st := t_read_line hl
    generalize rlD (sp 32 l) = q at *
    have s1 : sAsg 4 (eFn F_read_line (eCons (eVar 3) eNil)) [some v, some (.own 1 acc), some (.int (k : Int)), some (.str l), a4] st = .go .nx [some v, some (.own 1 acc), some (.int (k : Int)), some (.str l), some q] st := asg (evF1 (evv rfl) rfl tr) (by rw [okV_frz o]; exact okV_plain o) (by rw [okV_frz o]; rfl)
    have c1 : tV (eBin pIs (eVar 4) (eC .non)) [some v, some (.own 1 acc), some (.int (k : Int)), some (.str l), some q] st = .ok (isNon q) st := evT (ev2 (d := .bl (isNon q)) (evv rfl) rfl (by cases q <;> rfl)) rfl
    cases hq : isNon q with
    | true =>
      rw [hq] at c1
      refine ⟨[some v, some (.own 1 acc), some (.int (k : Int)), some (.str l), some q], ?_, fun e => by rw [Bool.true_or] at e; cases e⟩
      unfold loopS
      rw [g0, Bool.true_or, if_pos rfl, cond_true]
      show aft (b1_read_facts _ st) _ = _
      have e : b1_read_facts [some v, some (.own 1 acc), some (.int (k : Int)), some (.str l), a4] st = .exn (exT ((k + 1 : Nat) : Int)) [some v, some (.own 1 acc), some (.int (k : Int)), some (.str l), some q] st := by
        unfold b1_read_facts
        exact seqN s1 (seqX (sIfT c1 rfl))
      rw [e]
      rfl
    | false =>
      rw [hq] at c1
      obtain ⟨ρ', i1, i2⟩ := t_loop (st := st) (v := v) L (k + 1) (acc ++ [q]) (some (.int (k : Int))) (some (.str l)) (some q) (fun x hx => h1 x (List.mem_cons_of_mem _ hx)) (by rw [List.length_append, List.length_singleton]; omega)
      have s2 := ev_app (i := 1) (me := eVar 4) (ρ := [some v, some (.own 1 acc), some (.int (k : Int)), some (.str l), some q]) (st := st) (st1 := st) (l := acc) (d := q) rfl (evv rfl) (by rw [okV_frz o]; exact okV_plain o) (by omega)
      rw [okV_frz o] at s2
      have e : b1_read_facts [some v, some (.own 1 acc), some (.int (k : Int)), some (.str l), a4] st = .go .nx [some v, some (.own 1 (acc ++ [q])), some (.int (k : Int)), some (.str l), some q] st := by
        unfold b1_read_facts
        exact seqN s1 (seqN (sIfF c1 rfl) (seqN s2 rfl))
      refine ⟨ρ', ?_, fun e => ?_⟩
      · rw [loop_cons (ρ1 := [some v, some (.own 1 acc), some (.int (k : Int)), some (.str l), a4]) g0, e]
        show loopS _ _ _ _ _ = _
        rw [i1, Bool.false_or, cond_false, show k + 1 + (rowsD L).findIdx isNon + 1 = k + ((rowsD L).findIdx isNon + 1) + 1 by omega]
      · rw [Bool.false_or] at e
        obtain ⟨b2, b3, b4, rfl⟩ := i2 e
        exact ⟨b2, b3, b4, by rw [List.append_assoc]; rfl⟩
def rdR (t : List Nat) (st : Store) : R D := if (rowsD (sp 10 t)).any isNon = true then .exn (exT ((rowsD (sp 10 t)).findIdx isNon + 1 : Nat)) st else if isFacts (.tup (rowsD (sp 10 t))) = true then .ok (.tup (rowsD (sp 10 t))) st else .exn (exT ((sp 10 t).length + 1 : Nat)) st
theorem t_read {st : Store} {t : List Nat} (h : t.length ≤ 80000) : F_read_facts [.str t] st = rdR t st := by
  have hL : ∀ l ∈ sp 10 t, l.length ≤ 90000 := fun l hl => Nat.le_trans (sp_len hl) (by omega)
  have hc := sp_count 10 t
  have c0 : tNot (tV (eIsI "str" (eVar 0))) [some (.str t), none, none, none, none] st = .ok false st := by
    rw [evN (b := true)]
    · rfl
    · exact evT (d := .bl true) rfl rfl
  have s1 : sAsgO 1 (eLst eNil) [some (.str t), none, none, none, none] st = .go .nx [some (.str t), some (.own 1 []), none, none, none] st := rfl
  have mi : iEnumD (eCons (eMet pSplit (eVar 0) (eCons (eC (.str [10])) eNil)) eNil) [some (.str t), some (.own 1 []), none, none, none] st = .ok (enumK 0 (sp 10 t)) st := by
    unfold iEnumD
    rw [ev_cons, ev_split (i := 0) (c := 10) (l := t) rfl (by omega) (by omega), bind_ok, ev_nil, bind_ok, bind_ok]
    rfl
  obtain ⟨ρ', l1, l2⟩ := t_loop (st := st) (v := .str t) (sp 10 t) 0 [] none none none hL (by simp; omega)
  have s2 : sFor (iEnumD (eCons (eMet pSplit (eVar 0) (eCons (eC (.str [10])) eNil)) eNil)) (gTup [2, 3]) b1_read_facts [some (.str t), some (.own 1 []), none, none, none] st = (if (rowsD (sp 10 t)).any isNon = true then .exn (exT ((0 + (rowsD (sp 10 t)).findIdx isNon + 1 : Nat) : Int)) ρ' st else .go .nx ρ' st) := by
    rw [ev_for, mi, ev_ofe, l1]
  unfold F_read_facts m_read_facts rdR
  rw [ev_fm, if_pos (show [D.str t].length = 1 from rfl), show startD 5 [D.str t] = [some (.str t), none, none, none, none] from rfl]
  cases ha : (rowsD (sp 10 t)).any isNon with
  | true =>
    rw [ha, if_pos rfl, Nat.zero_add] at s2
    rw [if_pos rfl]
    exact congrArg finR (seqN (sIfF c0 rfl) (seqN s1 (seqX s2)))
  | false =>
    obtain ⟨b2, b3, b4, rfl⟩ := l2 ha
    rw [ha, if_neg (by simp), List.nil_append] at s2
    rw [if_neg (by simp)]
    have ok := rows_ok (n := 100000) (L := sp 10 t) (fun l hl => by have := hL l hl; omega) (by omega)
    have len : (rowsD (sp 10 t)).length = (sp 10 t).length := by unfold rowsD; rw [List.length_map]
    rw [← len]
    have th : ∀ st, F_has_facts [.tup (rowsD (sp 10 t))] st = .ok (.bl (isFacts (.tup (rowsD (sp 10 t))))) st := fun st => t_has (by omega) ok
    clear l1 l2
    generalize rowsD (sp 10 t) = Q at *
    have tp : eCallP (p1 fTup) (eCons (eVar 1) eNil) [some (.str t), some (.own 1 Q), b2, b3, b4] st = .ok (.tup Q) st := evP1 (evv rfl) rfl
    have c2 : tNot (tV (eFn F_has_facts (eCons (eCallP (p1 fTup) (eCons (eVar 1) eNil)) eNil))) [some (.str t), some (.own 1 Q), b2, b3, b4] st = .ok (!isFacts (.tup Q)) st := evN (evT (evF1 tp rfl (th st)) rfl)
    cases hf : isFacts (.tup Q) with
    | true =>
      rw [hf] at c2
      rw [if_pos rfl]
      exact congrArg finR (seqN (sIfF c0 rfl) (seqN s1 (seqN s2 (seqN (sIfF c2 rfl) (seqR (retS tp))))))
    | false =>
      rw [hf] at c2
      have r : sSeq (sRaiseN "InvalidText" "line" (eCons (eBin pAdd (eCallP pLen (eCons (eVar 1) eNil)) (eC (.int 1))) eNil)) sNext [some (.str t), some (.own 1 Q), b2, b3, b4] st = .exn (exT ((Q.length + 1 : Nat) : Int)) [some (.str t), some (.own 1 Q), b2, b3, b4] st := rfl
      rw [if_neg (by simp)]
      exact congrArg finR (seqN (sIfF c0 rfl) (seqN s1 (seqN s2 (seqX (sIfT c2 r)))))
theorem t_read_odd {st : Store} {v : D} (hp : plain v = true) (h : isTy "str" v = some false) : F_read_facts [v] st = .exn (exT 0) st := by
  have c0 : tNot (tV (eIsI "str" (eVar 0))) [some v, none, none, none, none] st = .ok true st := by
    have : eIsI "str" (eVar 0) [some v, none, none, none, none] st = .ok (.bl false) st := by
      rw [ev_isI, evv (d := v) rfl, bind_ok, h]; rfl
    exact evN (evT this rfl)
  unfold F_read_facts m_read_facts
  rw [ev_fm, if_pos (show [v].length = 1 from rfl), show startD 5 [v] = [some v, none, none, none, none] from rfl]
  exact congrArg finR (seqX (sIfT c0 rfl))
theorem t_tried {st : Store} {v r : D} {n d : Nat} (hv : okV n d v) (hr : okV n d r)
    (h : F_read_facts [v] st = .ok r st ∨ ∃ i, F_read_facts [v] st = .exn (exT i) st ∧ r = .int i) : F__law_tried [v] st = .ok r st := by
  have s1 : sAsg 1 (eC .non) [some v, none, none] st = .go .nx [some v, some .non, none] st := rfl
  have fv := okV_frz hv
  have pv := okV_plain hv
  have fr := okV_frz hr
  have pr := okV_plain hr
  have no : noOwn [some v, some .non, none] = true := by
    cases v <;> first | rfl | exact (by cases d <;> exact hv.elim)
  have rr : retD r = r := by
    cases r <;> first | rfl | exact (by cases d <;> exact hr.elim)
  have e0 : ∀ q, F_read_facts [v] st = q → eFn F_read_facts (eCons (eVar 0) eNil) [some v, some .non, none] st = q := fun q e => evF1 (d := v) (evv rfl) (by rw [fv]; exact pv) (by rw [fv]; exact e)
  have s2 : sTryA ["InvalidFacts", "InvalidText"] (sSeq (sAsg 1 (eFn F_read_facts (eCons (eVar 0) eNil))) sNext) [("InvalidText", .nm 2 "line" fun v => (sSeq (sAsg 1 (eC (.int v))) sNext))] [some v, some .non, none] st = .go .nx [some v, some r, none] st := by
    rcases h with h | ⟨i, h, rfl⟩
    · have e : sSeq (sAsg 1 (eFn F_read_facts (eCons (eVar 0) eNil))) sNext [some v, some .non, none] st = .go .nx [some v, some r, none] st := seqN (asg (e0 _ h) (by rw [fr]; exact pr) (by rw [fr]; rfl)) rfl
      unfold sTryA
      rw [e]
    · have e : sSeq (sAsg 1 (eFn F_read_facts (eCons (eVar 0) eNil))) sNext [some v, some .non, none] st = .exn (exT i) [some v, some .non, none] st := by
        rw [ev_seq, ev_asg, e0 _ h, ev_ofX, ev_thenX]
      unfold sTryA
      rw [e]
      refine Eq.trans (if_pos (List.mem_cons_of_mem _ (List.mem_cons_self ..))) ?_
      have p : ∀ (hs : List (Str × Hm)) (k : Int → SM), pickA (("InvalidText", .nm 2 "line" k) :: hs) (exT i) [some v, some .non, none] st = wipeS 2 (quietS (k i [some v, some .non, none] st)) := fun hs k => by
        refine Eq.trans (congrFun (congrFun (if_pos rfl) _) st) ?_
        exact if_pos ⟨rfl, no⟩
      rw [p]
      rfl
  unfold F__law_tried m__law_tried
  rw [ev_fm, if_pos (show [v].length = 1 from rfl), show startD 3 [v] = [some v, none, none] from rfl, seqN s1 (seqN s2 (seqR (retS (evv rfl)))), ev_finR, rr]
theorem text_tried {st : Store} {t : List Nat} (h : t.length ≤ 80000) : F__law_tried [.str t] st = .ok (lineR (sp 10 t)) st := by
  have hL : ∀ l ∈ sp 10 t, l.length + 1 ≤ 100000 := fun l hl => by have := sp_len hl; omega
  have hc := sp_count 10 t
  refine t_tried (n := 100000) (d := 3) (show t.length ≤ _ by omega) (lineR_ok hL (by omega)) ?_
  rw [t_read h]
  unfold rdR lineR
  cases (rowsD (sp 10 t)).any isNon with
  | true => exact .inr ⟨_, rfl, rfl⟩
  | false =>
    simp only [Bool.false_eq_true, if_false]
    cases isFacts (.tup (rowsD (sp 10 t))) with
    | true => exact .inl rfl
    | false => exact .inr ⟨_, rfl, rfl⟩
theorem odd_tried {st : Store} {v : D} {n d : Nat} (hv : okV n d v) (h : isTy "str" v = some false) : F__law_tried [v] st = .ok (.int 0) st :=
  t_tried (n := n) (d := d) hv (by cases d <;> trivial) (.inr ⟨0, t_read_odd (okV_plain hv) h, rfl⟩)
/-! ### what is due -/
theorem inL_non : ∀ {L : List D}, (∀ x ∈ L, x.vw ≠ none) → inL (eqF 50) L .non = some (L.any isNon)
  | [], _ => rfl
  | x :: L, h => by
    unfold inL
    rw [eq_non (h x (List.mem_cons_self ..)), inL_non fun y hy => h y (List.mem_cons_of_mem _ hy)]
    rfl
theorem eqAll_non : ∀ {L : List D}, (∀ x ∈ L, x.vw ≠ none) → eqAll .non L = some (L.map isNon)
  | [], _ => rfl
  | x :: L, h => by
    unfold eqAll
    rw [eq_non (h x (List.mem_cons_self ..)), eqAll_non fun y hy => h y (List.mem_cons_of_mem _ hy)]
    rfl
theorem ix_true : ∀ L : List D, (L.map isNon).idxOf true = L.findIdx isNon
  | [] => rfl
  | x :: L => by
    rw [List.map_cons, List.idxOf_cons, List.findIdx_cons, ix_true L]
    cases isNon x <;> rfl
theorem mem_any (L : List D) : true ∈ L.map isNon ↔ L.any isNon = true := by
  rw [List.mem_map, List.any_eq_true]
theorem okV_vw {n d : Nat} {v : D} (h : okV n d v) : v.vw ≠ none := by
  cases v <;> first | exact (fun e => Option.some_ne_none _ e) | (cases d <;> exact h.elim)
theorem comp_due {ρ : Env_} {st : Store} {i : Nat} (hi : i < ρ.length) {L : List (List Nat)} (h : ∀ l ∈ L, l.length ≤ 90000) (hl : L.length ≤ 100000) : compS (gName i) tYes (eFn F__law_fact_of (eCons (eVar i) eNil)) ρ (L.map .str) [] st = .ok (rowsD L) st := by
  have := compS_pure (g := gName i) (t := tYes) (me := eFn F__law_fact_of (eCons (eVar i) eNil)) (ρ := ρ) (st := st) (p := fun _ => true) (f := fun d => match d with | .str l => rlD (sp 32 l) | _ => .non) (L.map .str) [] (fun x hx => by
    obtain ⟨l, hm, rfl⟩ := List.mem_map.mp hx
    have o := rlD_ok (n := 100000) (l := l) (by have := h l hm; omega)
    refine ⟨_, if_pos rfl, rfl, fun _ => ⟨evF1 (d := .str l) (evv (List.getElem?_set_self hi)) rfl (t_fact_of (h l hm)), ?_⟩⟩
    show plain (frz (rlD (sp 32 l))) = true
    rw [okV_frz o]; exact okV_plain o) (by simp; omega)
  rw [this, List.filter_eq_self.mpr (fun _ _ => rfl), List.nil_append, List.map_map]
  refine congrArg (fun l => R.ok l st) ?_
  refine List.map_congr_left fun l hm => ?_
  exact okV_frz (rlD_ok (n := 100000) (l := l) (by have := h l hm; omega))
theorem text_due {st : Store} {t : List Nat} (h : t.length ≤ 80000) : F__law_due [.str t] st = .ok (lineR (sp 10 t)) st := by
  have hL : ∀ l ∈ sp 10 t, l.length ≤ 90000 := fun l hl => Nat.le_trans (sp_len hl) (by omega)
  have hc := sp_count 10 t
  have ok := rows_ok (n := 100000) (L := sp 10 t) (fun l hl => by have := hL l hl; omega) (by omega)
  have len : (rowsD (sp 10 t)).length = (sp 10 t).length := by unfold rowsD; rw [List.length_map]
  have cm : eComp [2] (iVal (eMet pSplit (eVar 0) (eCons (eC (.str [10])) eNil))) (gName 2) tYes (eFn F__law_fact_of (eCons (eVar 2) eNil)) [some (.str t), none, none] st = .ok (.new (rowsD (sp 10 t))) st := by
    rw [ev_comp, ev_val, ev_split (i := 0) (c := 10) (l := t) rfl (by omega) (by omega), bind_ok, show itemsV (.new ((sp 10 t).map D.str)) = some ((sp 10 t).map D.str) from rfl, of_some, bind_ok, comp_due (by simp [wipeD]) hL (by omega), bind_ok]
  have tf : ∀ st, F_is_facts [.tup (rowsD (sp 10 t))] st = .ok (.bl (isFacts (.tup (rowsD (sp 10 t))))) st := fun st => t_facts (by omega) ok
  have vw : ∀ x ∈ rowsD (sp 10 t), x.vw ≠ none := fun x hx => okV_vw (ok.2 x hx)
  unfold F__law_due m__law_due lineR
  rw [← len]
  generalize rowsD (sp 10 t) = Q at *
  have s1 := asg (i := 1) cm rfl rfl
  have s1 : sAsg 1 (eComp [2] (iVal (eMet pSplit (eVar 0) (eCons (eC (.str [10])) eNil))) (gName 2) tYes (eFn F__law_fact_of (eCons (eVar 2) eNil))) [some (.str t), none, none] st = .go .nx [some (.str t), some (.lst Q), none] st := s1
  have c1 : tV (eBin pIn (eC .non) (eVar 1)) [some (.str t), some (.lst Q), none] st = .ok (Q.any isNon) st := evT (ev2 (d := .bl (Q.any isNon)) rfl (evv rfl) (by show (inL (eqF 50) Q .non).map D.bl = _; rw [inL_non vw]; rfl)) rfl
  rw [ev_fm, if_pos (show [D.str t].length = 1 from rfl), show startD 3 [D.str t] = [some (.str t), none, none] from rfl]
  cases ha : Q.any isNon with
  | true =>
    rw [ha] at c1
    have ix : eMetL pIndexE (eVar 1) (eCons (eC .non) eNil) [some (.str t), some (.lst Q), none] st = .ok (.int (Q.findIdx isNon : Nat)) st := by
      rw [ev_metL, evv (d := .lst Q) rfl, bind_ok, if_pos (show (lstV (D.lst Q)).isSome = true from rfl), ev_cons, ev_c, bind_ok, ev_nil, bind_ok, bind_ok]
      show R.of (pIndexE st (.lst Q) [.non]) st = _
      have e : pIndexE st (.lst Q) [.non] = some (.int (Q.findIdx isNon : Nat)) := by
        show (eqAll .non Q).bind _ = _
        rw [eqAll_non vw, Option.bind_some, if_pos ((mem_any Q).mpr ha), ix_true]
      rw [e]; rfl
    have r : eBin pAdd (eMetL pIndexE (eVar 1) (eCons (eC .non) eNil)) (eC (.int 1)) [some (.str t), some (.lst Q), none] st = .ok (.int ((Q.findIdx isNon + 1 : Nat) : Int)) st := ev2 ix rfl rfl
    rw [if_pos rfl]
    exact congrArg finR (seqN s1 (seqR (sIfT c1 (seqR (retS r)))))
  | false =>
    rw [ha] at c1
    have tp : eCallP (p1 fTup) (eCons (eVar 1) eNil) [some (.str t), some (.lst Q), none] st = .ok (.tup Q) st := evP1 (evv rfl) rfl
    have c2 : tV (eFn F_is_facts (eCons (eCallP (p1 fTup) (eCons (eVar 1) eNil)) eNil)) [some (.str t), some (.lst Q), none] st = .ok (isFacts (.tup Q)) st := evT (evF1 tp rfl (tf st)) rfl
    rw [if_neg (by simp)]
    cases hf : isFacts (.tup Q) with
    | true =>
      rw [hf] at c2
      rw [if_pos rfl]
      exact congrArg finR (seqN s1 (seqN (sIfF c1 rfl) (seqR (retS (eIfT c2 tp)))))
    | false =>
      rw [hf] at c2
      have r : eBin pAdd (eCallP pLen (eCons (eVar 1) eNil)) (eC (.int 1)) [some (.str t), some (.lst Q), none] st = .ok (.int ((Q.length + 1 : Nat) : Int)) st := ev2 (evP1 (evv rfl) (show pLen st [.lst Q] = some (.int (Q.length : Int)) from rfl)) rfl rfl
      rw [if_neg (by simp)]
      exact congrArg finR (seqN s1 (seqN (sIfF c1 rfl) (seqR (retS (eIfF c2 r)))))
end DL.K11
namespace DL.K11
open PySem PySem.Spec L2 DL DL.SH
/-! ### the writing -/
def dash (w : List Nat) : List Nat := if w = [] then [45] else w
def wds : Fact → List (List Nat)
  | .same a b => [wSame, dash a, dash b]
  | .begins w => [wBegins, dash w]
  | .ends w => [wEnds, dash w]
  | .least n => [wLeast, digits (n : Int)]
  | .most n => [wMost, digits (n : Int)]
def lineF (f : Fact) : List Nat := TL.joinL [32] (wds f)
def textF (fs : List Fact) : List Nat := TL.joinL [10] (fs.map lineF)
def itw : D → List Nat
  | .str l => dash l
  | .int n => digits n
  | _ => []
def itOk : D → Prop
  | .str _ => True
  | .int n => 0 ≤ n ∧ n ≤ 60
  | _ => False
theorem it_item {st : Store} {d : D} {ρ : Env_} {i : Nat} (e : ρ[i]? = some (some d)) (h : itOk d) : eIf (tV (eBin pEq (eVar i) (eC (.str [])))) (eC (.str [45])) (eCallP (p1 fStrN) (eCons (eVar i) eNil)) ρ st = .ok (.str (itw d)) st := by
  cases d with
  | str l =>
    have t : tV (eBin pEq (eVar i) (eC (.str []))) ρ st = .ok (l == []) st := evT (ev2 (evv e) rfl eq_str) rfl
    show _ = R.ok (D.str (dash l)) st
    unfold dash
    by_cases hl : l = []
    · rw [if_pos hl]
      exact eIfT (by rw [t, hl]; rfl) rfl
    · rw [if_neg hl]
      exact eIfF (by rw [t, beq_eq_false_iff_ne.mpr hl]) (evP1 (evv e) rfl)
  | int n =>
    obtain ⟨h1, h2⟩ := h
    have t : tV (eBin pEq (eVar i) (eC (.str []))) ρ st = .ok false st := evT (d := .bl false) (ev2 (evv e) rfl rfl) rfl
    exact eIfF t (evP1 (evv e) (show p1 fStrN st [.int n] = some (.str (digits n)) from if_pos (by omega)))
  | _ => exact h.elim
theorem itOk_pz {d : D} (h : itOk d) : plain d = true ∧ frz d = d := by cases d <;> first | exact ⟨rfl, rfl⟩ | exact h.elim
theorem t_item {st : Store} {d : D} (h : itOk d) : F_item_word [d] st = .ok (.str (itw d)) st := by
  unfold F_item_word m_item_word
  rw [ev_fm, if_pos (show [d].length = 1 from rfl), show startD 1 [d] = [some d] from rfl]
  exact congrArg finR (seqR (retS (it_item rfl h)))
theorem comp_item {ρ : Env_} {st : Store} {i : Nat} (hi : i < ρ.length) {ds : List D} (h : ∀ d ∈ ds, itOk d) (hl : ds.length ≤ 100) {me : EM} (hm : ∀ d, itOk d → me (ρ.set i (some d)) st = .ok (.str (itw d)) st) : compS (gName i) tYes me ρ ds [] st = .ok ((ds.map itw).map .str) st := by
  have := compS_pure (g := gName i) (t := tYes) (me := me) (ρ := ρ) (st := st) (p := fun _ => true) (f := fun d => .str (itw d)) ds [] (fun x hx => by
    have hk := h x hx
    exact ⟨_, if_pos (itOk_pz hk).1, rfl, fun _ => ⟨hm x hk, rfl⟩⟩) (by simp; omega)
  rw [this, List.filter_eq_self.mpr (fun _ _ => rfl), List.nil_append, List.map_map]
  rfl
def its : Fact → List D
  | .same a b => [.str wSame, .str a, .str b]
  | .begins w => [.str wBegins, .str w]
  | .ends w => [.str wEnds, .str w]
  | .least n => [.str wLeast, .int n]
  | .most n => [.str wMost, .int n]
theorem d_its (f : Fact) : f.d = .tup (its f) := by cases f <;> rfl
theorem wds_its (f : Fact) : (its f).map itw = wds f := by
  cases f <;> rfl
theorem its_ok {f : Fact} (h : f.ok) : ∀ d ∈ its f, itOk d := by
  cases f with
  | same a b => intro d hd; simp only [its, List.mem_cons, List.not_mem_nil, or_false] at hd; rcases hd with rfl | rfl | rfl <;> trivial
  | begins w => intro d hd; simp only [its, List.mem_cons, List.not_mem_nil, or_false] at hd; rcases hd with rfl | rfl <;> trivial
  | ends w => intro d hd; simp only [its, List.mem_cons, List.not_mem_nil, or_false] at hd; rcases hd with rfl | rfl <;> trivial
  | least n =>
    have h : n ≤ 60 := h
    intro d hd
    simp only [its, List.mem_cons, List.not_mem_nil, or_false] at hd
    rcases hd with rfl | rfl
    · trivial
    · exact ⟨by omega, by omega⟩
  | most n =>
    have h : n ≤ 60 := h
    intro d hd
    simp only [its, List.mem_cons, List.not_mem_nil, or_false] at hd
    rcases hd with rfl | rfl
    · trivial
    · exact ⟨by omega, by omega⟩
theorem its_len (f : Fact) : (its f).length ≤ 3 := by cases f <;> simp [its]
theorem its_head (f : Fact) : ∃ w r, its f = .str w :: r ∧ w ≠ [] := by cases f <;> exact ⟨_, _, rfl, by simp⟩
theorem digits_len : ∀ n : Nat, n < 61 → (digits (n : Int)).length ≤ 2 ∧ (∀ c ∈ digits (n : Int), c ≠ 10 ∧ c ≠ 32) := by decide +kernel
/-- a word of a line -/
def okW (w : List Nat) : Prop := w.length ≤ 16 ∧ w ≠ [] ∧ ∀ c ∈ w, c ≠ 10 ∧ c ≠ 32
theorem dash_ok {w : List Nat} (h : AbcX w) (hl : w.length ≤ 16) : okW (dash w) := by
  unfold dash
  split
  · exact ⟨by simp, by simp, by simp⟩
  · next hw =>
    refine ⟨hl, hw, fun c hc => ?_⟩
    have := h c hc
    simp [abcX] at this
    omega
theorem abc_X {w : List Nat} (h : Abc w) : AbcX w := fun c hc => by
  have := h c hc
  simp [abc, abcX] at this ⊢
  omega
theorem digits_ne : ∀ n : Nat, n < 61 → digits (n : Int) ≠ [] := by decide +kernel
theorem wds_ok {f : Fact} (h : f.ok) : ∀ w ∈ wds f, okW w := by
  have k : ∀ w, w ∈ [wSame, wBegins, wEnds, wLeast, wMost] → okW w := fun w hw => by
    simp only [List.mem_cons, List.not_mem_nil, or_false] at hw
    rcases hw with rfl | rfl | rfl | rfl | rfl <;> exact ⟨by decide, by decide, by decide⟩
  have dk : ∀ n : Nat, n ≤ 60 → okW (digits (n : Int)) := fun n hn => ⟨by have := (digits_len n (by omega)).1; omega, digits_ne n (by omega), (digits_len n (by omega)).2⟩
  intro w hw
  cases f with
  | same a b =>
    obtain ⟨h1, h2, h3, h4⟩ := h
    simp only [wds, List.mem_cons, List.not_mem_nil, or_false] at hw
    rcases hw with rfl | rfl | rfl
    · exact k _ (by simp)
    · exact dash_ok h1 h2
    · exact dash_ok h3 h4
  | begins a =>
    obtain ⟨h1, h2, h3⟩ := h
    simp only [wds, List.mem_cons, List.not_mem_nil, or_false] at hw
    rcases hw with rfl | rfl
    · exact k _ (by simp)
    · exact dash_ok (abc_X h1) (by omega)
  | ends a =>
    obtain ⟨h1, h2, h3⟩ := h
    simp only [wds, List.mem_cons, List.not_mem_nil, or_false] at hw
    rcases hw with rfl | rfl
    · exact k _ (by simp)
    · exact dash_ok (abc_X h1) (by omega)
  | least n =>
    simp only [wds, List.mem_cons, List.not_mem_nil, or_false] at hw
    rcases hw with rfl | rfl
    · exact k _ (by simp)
    · exact dk n h
  | most n =>
    simp only [wds, List.mem_cons, List.not_mem_nil, or_false] at hw
    rcases hw with rfl | rfl
    · exact k _ (by simp)
    · exact dk n h
theorem wds_len (f : Fact) : (wds f).length ≤ 3 ∧ wds f ≠ [] := by cases f <;> simp [wds]
theorem joinL_len (s : Nat) {m : Nat} : ∀ {L : List (List Nat)}, (∀ p ∈ L, p.length ≤ m) → (TL.joinL [s] L).length ≤ L.length * (m + 1)
  | [], _ => by simp [TL.joinL]
  | [p], h => by
    have := h p (by simp)
    simp [TL.joinL]
    omega
  | p :: q :: r, h => by
    have h1 := h p (by simp)
    have h2 := joinL_len s (L := q :: r) fun x hx => h x (List.mem_cons_of_mem _ hx)
    show (p ++ ([s] ++ TL.joinL [s] (q :: r))).length ≤ _
    simp only [List.length_append, List.length_cons, List.length_nil] at h2 ⊢
    rw [Nat.add_mul (r.length + 1) 1, Nat.one_mul]
    omega
theorem joinL_mem {s : Nat} : ∀ {L : List (List Nat)} {c : Nat}, c ∈ TL.joinL [s] L → c = s ∨ ∃ p ∈ L, c ∈ p
  | [], c, h => by simp [TL.joinL] at h
  | [p], c, h => .inr ⟨p, by simp, by simpa [TL.joinL] using h⟩
  | p :: q :: r, c, h => by
    have h : c ∈ p ++ ([s] ++ TL.joinL [s] (q :: r)) := h
    rw [List.mem_append, List.mem_append] at h
    rcases h with h | h | h
    · exact .inr ⟨p, by simp, h⟩
    · exact .inl (by simpa using h)
    · rcases joinL_mem h with e | ⟨x, hx, e⟩
      · exact .inl e
      · exact .inr ⟨x, List.mem_cons_of_mem _ hx, e⟩
theorem sum_len {m : Nat} : ∀ {L : List (List Nat)}, (∀ p ∈ L, p.length ≤ m) → (L.map List.length).sum ≤ L.length * m
  | [], _ => by simp
  | p :: L, h => by
    have h1 := h p (List.mem_cons_self ..)
    have h2 := sum_len (L := L) fun x hx => h x (List.mem_cons_of_mem _ hx)
    rw [List.map_cons, List.sum_cons, List.length_cons, Nat.add_mul, Nat.one_mul]
    omega
theorem join_at {st : Store} {s m k : Nat} {L : List (List Nat)} (h : ∀ p ∈ L, p.length ≤ m) (hk : L.length ≤ k) (hb : k * (m + 1) ≤ 16777216) : pJoin st (.str [s]) [.lst (L.map .str)] = some (.str (TL.joinL [s] L)) := by
  show joinD [s] (L.map .str) = _
  refine joinD_str ?_
  have h1 := sum_len h
  have h2 : L.length * m ≤ k * m := Nat.mul_le_mul_right _ hk
  rw [Nat.mul_add, Nat.mul_one] at hb
  simp only [List.length_cons, List.length_nil]
  omega
theorem line_len {f : Fact} (h : f.ok) : (lineF f).length ≤ 51 := by
  have h1 := joinL_len 32 (m := 16) (L := wds f) fun p hp => (wds_ok h p hp).1
  have h2 := (wds_len f).1
  unfold lineF
  omega
theorem text_len {fs : List Fact} (h : okAll fs) (hl : fs.length ≤ 6) : (textF fs).length ≤ 312 := by
  have h1 := joinL_len 10 (m := 51) (L := fs.map lineF) fun p hp => by
    obtain ⟨f, hf, rfl⟩ := List.mem_map.mp hp
    exact line_len (h f hf)
  rw [List.length_map] at h1
  unfold textF
  omega
theorem ev_join {s m k : Nat} {L : List (List Nat)} {e : EM} {ρ : Env_} {st : Store} (h : e ρ st = .ok (.new (L.map .str)) st) (hm : ∀ p ∈ L, p.length ≤ m) (hk : L.length ≤ k) (hb : k * (m + 1) ≤ 16777216) : eMet pJoin (eC (.str [s])) (eCons e eNil) ρ st = .ok (.str (TL.joinL [s] L)) st := by
  rw [ev_met, ev_c, bind_ok, if_pos (show (txt (D.str [s])).isSome = true from rfl), ev_cons, h, bind_ok, ev_nil, bind_ok, bind_ok]
  show R.of (pJoin st (.str [s]) [.lst (L.map .str)]) st = _
  rw [join_at hm hk hb]
  rfl
theorem its_16 {f : Fact} (h : f.ok) : ∀ p ∈ wds f, p.length ≤ 16 := fun p hp => (wds_ok h p hp).1
theorem t_line {st : Store} {f : Fact} (h : f.ok) : F__law_line [f.d] st = .ok (.str (lineF f)) st := by
  obtain ⟨w, r, e, hw⟩ := its_head f
  have io := its_ok h
  have il := its_len f
  have wi := wds_its f
  rw [e] at io il wi
  rw [List.length_cons] at il
  have x0 : eIdx (eVar 0) (eC (.int 0)) [some (.tup (.str w :: r)), none] st = .ok (.str w) st := evX (evv rfl) rfl (idx_tup (l := .str w :: r) (j := 0) (by simp))
  have l0 : eLst (eCons (eIdx (eVar 0) (eC (.int 0))) eNil) [some (.tup (.str w :: r)), none] st = .ok (.new [.str w]) st := lst1e x0 rfl
  have sl : eSl (eVar 0) (oSome (eC (.int 1))) oNone [some (.tup (.str w :: r)), none] st = .ok (.tup r) st := by
    show R.of (sliceV (.tup (.str w :: r)) (some 1) none) st = _
    rw [sliceV_tup, cut_from _ (by omega)]
    rfl
  have cm : eComp [1] (iVal (eSl (eVar 0) (oSome (eC (.int 1))) oNone)) (gName 1) tYes (eIf (tV (eBin pEq (eVar 1) (eC (.str [])))) (eC (.str [45])) (eCallP (p1 fStrN) (eCons (eVar 1) eNil))) [some (.tup (.str w :: r)), none] st = .ok (.new ((r.map itw).map .str)) st := by
    rw [ev_comp, ev_val, sl, bind_ok, show itemsV (.tup r) = some r from rfl, of_some, bind_ok, comp_item (i := 1) (by simp [wipeD]) (fun d hd => io d (List.mem_cons_of_mem _ hd)) (by omega) (fun d hd => it_item rfl hd), bind_ok]
  have ad : pAdd st (.new [.str w]) (.new ((r.map itw).map .str)) = some (.new ((wds f).map .str)) := by
    rw [← wi, List.map_cons, List.map_cons, show itw (.str w) = w from if_neg hw]
    refine if_pos ?_
    simp
    omega
  unfold F__law_line m__law_line
  rw [d_its, e, ev_fm, if_pos (show [D.tup (.str w :: r)].length = 1 from rfl), show startD 2 [D.tup (.str w :: r)] = [some (.tup (.str w :: r)), none] from rfl]
  exact congrArg finR (seqR (retS (ev_join (ev2 l0 cm ad) (its_16 h) (wds_len f).1 (by omega))))
theorem comp_line {st : Store} {ρ : Env_} {i : Nat} (hi : i < ρ.length) {fs : List Fact} (h : okAll fs) (hl : fs.length ≤ 6) : compS (gName i) tYes (eFn F__law_line (eCons (eVar i) eNil)) ρ (fs.map Fact.d) [] st = .ok ((fs.map lineF).map .str) st := by
  have key : ∀ (L : List Fact) (acc : List D), acc.length + L.length ≤ 1000 → okAll L → compS (gName i) tYes (eFn F__law_line (eCons (eVar i) eNil)) ρ (L.map Fact.d) acc st = .ok (acc ++ (L.map lineF).map .str) st := by
    intro L
    induction L with
    | nil => intro acc _ _; simp [compS]
    | cons f L ih =>
      intro acc h2 hp
      have hf := hp f (List.mem_cons_self ..)
      simp only [List.length_cons] at h2
      rw [List.map_cons]
      unfold compS
      rw [show gName i f.d ρ = some (ρ.set i (some f.d)) from if_pos f.plain]
      have e1 : (ρ.set i (some f.d))[i]? = some (some f.d) := List.getElem?_set_self hi
      have e3 : eFn F__law_line (eCons (eVar i) eNil) (ρ.set i (some f.d)) st = .ok (.str (lineF f)) st := evF1 (evv e1) (by rw [f.frz]; exact f.plain) (by rw [f.frz]; exact t_line hf)
      have hk : acc.length < 1000000 := by omega
      have ih2 := ih (acc ++ [.str (lineF f)]) (by simp; omega) fun x hx => hp x (List.mem_cons_of_mem _ hx)
      simp only [tYes, quietR, bind_ok, if_true, e3]
      rw [if_pos ⟨rfl, hk⟩]
      show compS _ _ _ _ _ (acc ++ [.str (lineF f)]) st = _
      rw [ih2]
      simp
  simpa using key fs [] (by simp; omega) h
theorem t_lines {st : Store} {fs : List Fact} (h : okAll fs) (hl : fs.length ≤ 6) : F_facts_lines [fsD fs] st = .ok (.new ((fs.map lineF).map .str)) st := by
  have inner : ∀ (ρ : Env_) (f : Fact), f.ok → ρ.length = 3 → ρ[1]? = some (some f.d) → eMet pJoin (eC (.str [32])) (eCons (eComp [2] (iVal (eVar 1)) (gName 2) tYes (eFn F_item_word (eCons (eVar 2) eNil))) eNil) ρ st = .ok (.str (lineF f)) st := fun ρ f hf hl hρ => by
    refine ev_join ?_ (its_16 hf) (wds_len f).1 (by omega)
    rw [ev_comp, ev_val, evv hρ, bind_ok, d_its, show itemsV (.tup (its f)) = some (its f) from rfl, of_some, bind_ok, comp_item (i := 2) (by simp [wipeD, hl]) (its_ok hf) (by have := its_len f; omega) (fun d hd => evF1 (evv (List.getElem?_set_self (by simp [wipeD, hl]))) (by rw [(itOk_pz hd).2]; exact (itOk_pz hd).1) (by rw [(itOk_pz hd).2]; exact t_item hd)), bind_ok, wds_its]
  have key : ∀ (ρ : Env_) (L : List Fact) (acc : List D), ρ.length = 3 → acc.length + L.length ≤ 1000 → okAll L → compS (gName 1) tYes (eMet pJoin (eC (.str [32])) (eCons (eComp [2] (iVal (eVar 1)) (gName 2) tYes (eFn F_item_word (eCons (eVar 2) eNil))) eNil)) ρ (L.map Fact.d) acc st = .ok (acc ++ (L.map lineF).map .str) st := by
    intro ρ L
    induction L with
    | nil => intro acc _ _ _; simp [compS]
    | cons f L ih =>
      intro acc hr h2 hp
      have hf := hp f (List.mem_cons_self ..)
      simp only [List.length_cons] at h2
      rw [List.map_cons]
      unfold compS
      rw [show gName 1 f.d ρ = some (ρ.set 1 (some f.d)) from if_pos f.plain]
      have e1 : (ρ.set 1 (some f.d))[1]? = some (some f.d) := List.getElem?_set_self (by omega)
      have e3 := inner (ρ.set 1 (some f.d)) f hf (by rw [List.length_set]; exact hr) e1
      have hk : acc.length < 1000000 := by omega
      have ih2 := ih (acc ++ [.str (lineF f)]) hr (by simp; omega) fun x hx => hp x (List.mem_cons_of_mem _ hx)
      simp only [tYes, quietR, bind_ok, if_true]
      rw [e3, bind_ok, if_pos ⟨rfl, hk⟩]
      show compS _ _ _ _ _ (acc ++ [.str (lineF f)]) st = _
      rw [ih2]
      simp
  unfold F_facts_lines m_facts_lines
  rw [ev_fm, if_pos (show [fsD fs].length = 1 from rfl), show startD 3 [fsD fs] = [some (fsD fs), none, none] from rfl]
  have cm : eComp [1] (iVal (eVar 0)) (gName 1) tYes (eMet pJoin (eC (.str [32])) (eCons (eComp [2] (iVal (eVar 1)) (gName 2) tYes (eFn F_item_word (eCons (eVar 2) eNil))) eNil)) [some (fsD fs), none, none] st = .ok (.new ((fs.map lineF).map .str)) st := by
    rw [ev_comp, ev_val, evv (d := fsD fs) rfl, bind_ok, show itemsV (fsD fs) = some (fs.map Fact.d) from rfl, of_some, bind_ok, key _ fs [] (by simp [wipeD]) (by simp; omega) h, bind_ok, List.nil_append]
  exact congrArg finR (seqR (retS cm))
theorem lines_51 {fs : List Fact} (h : okAll fs) : ∀ p ∈ fs.map lineF, p.length ≤ 51 := fun p hp => by
  obtain ⟨f, hf, rfl⟩ := List.mem_map.mp hp
  exact line_len (h f hf)
theorem facts_okV {fs : List Fact} (h : okAll fs) (hl : fs.length ≤ 6) : okV 100000 2 (fsD fs) := ⟨by rw [List.length_map]; omega, fun x hx => by
  obtain ⟨f, hf, rfl⟩ := List.mem_map.mp hx
  exact Fact.okV (h f hf) (by omega)⟩
theorem facts_is {fs : List Fact} (h : okAll fs) (h1 : 1 ≤ fs.length) (hl : fs.length ≤ 6) : isFacts (fsD fs) = true := by
  show (decide (1 ≤ ((fs.map Fact.d).length : Int)) && decide (((fs.map Fact.d).length : Int) ≤ 6) && (fs.map Fact.d).all isFact) = true
  rw [List.length_map, Bool.and_eq_true, Bool.and_eq_true, decide_eq_true_eq, decide_eq_true_eq, List.all_eq_true]
  refine ⟨⟨by omega, by omega⟩, fun x hx => ?_⟩
  obtain ⟨f, hf, rfl⟩ := List.mem_map.mp hx
  exact Fact.isFact (h f hf)
theorem t_text {st : Store} {fs : List Fact} (h : okAll fs) (h1 : 1 ≤ fs.length) (hl : fs.length ≤ 6) : F_facts_text [fsD fs] st = .ok (.str (textF fs)) st := by
  have n := t_needF (st := st) (by omega) (facts_okV h hl)
  rw [if_pos (facts_is h h1 hl)] at n
  have p : plain (fsD fs) = true := rfl
  have z : frz (fsD fs) = fsD fs := rfl
  have tl := t_lines (st := st) h hl
  unfold F_facts_text m_facts_text
  rw [ev_fm, if_pos (show [fsD fs].length = 1 from rfl), show startD 1 [fsD fs] = [some (fsD fs)] from rfl]
  generalize fsD fs = U at *
  have d1 : sDrop (eFn F_need_facts (eCons (eVar 0) eNil)) [some U] st = .go .nx [some U] st := by
    rw [ev_drop, evF1 (d := U) (q := .ok .non st) (evv rfl) (by rw [z]; exact p) (by rw [z]; exact n), ev_ofe]
  have l1 : eFn F_facts_lines (eCons (eVar 0) eNil) [some U] st = .ok (.new ((fs.map lineF).map .str)) st := evF1 (d := U) (evv rfl) (by rw [z]; exact p) (by rw [z]; exact tl)
  exact congrArg finR (seqN d1 (seqR (retS (ev_join l1 (lines_51 h) (by rw [List.length_map]; exact hl) (by omega)))))
/-! ### read again -/
theorem und_dash {w : List Nat} (h : AbcX w) : undash (dash w) = .str w := by
  unfold dash undash
  by_cases hw : w = []
  · subst hw; rfl
  · rw [if_neg hw, if_neg]
    intro e
    have := h 45 (by rw [e]; simp)
    simp [abcX] at this
theorem rl_words {f : Fact} (h : f.ok) : rlD (wds f) = f.d := by
  have wo := wds_ok h
  have ne : [] ∉ wds f := fun hm => (wo [] hm).2.1 rfl
  have fi := Fact.isFact h
  have other : ∀ w r, wds f = w :: r → ¬ (w = wLeast ∨ w = wMost) → factT w r = f.d → rlD (wds f) = f.d := fun w r e hw hd => by
    rw [e] at ne ⊢
    rw [rl_tail (fun z => hw z.1)]
    unfold tailD
    rw [if_neg ne, hd, if_pos fi]
  cases f with
  | same a b =>
    obtain ⟨h1, h2, h3, h4⟩ := h
    refine other _ _ rfl (by decide) ?_
    show D.tup [.str wSame, undash (dash a), undash (dash b)] = _
    rw [und_dash h1, und_dash h3]; rfl
  | begins w =>
    refine other _ _ rfl (by decide) ?_
    show D.tup [.str wBegins, undash (dash w)] = _
    rw [und_dash (abc_X h.1)]; rfl
  | ends w =>
    refine other _ _ rfl (by decide) ?_
    show D.tup [.str wEnds, undash (dash w)] = _
    rw [und_dash (abc_X h.1)]; rfl
  | least n =>
    have h : n ≤ 60 := h
    have hx : digits (n : Int) ∈ dg := List.mem_map.mpr ⟨n, List.mem_range.mpr (by omega), rfl⟩
    have e1 : rlD [wLeast, digits (n : Int)] = numT wLeast [digits (n : Int)] := if_pos (c := (wLeast = wLeast ∨ wLeast = wMost) ∧ [digits (n : Int)].length = 1) (e := tailD wLeast [digits (n : Int)]) ⟨.inl rfl, rfl⟩
    have e2 : numT wLeast [digits (n : Int)] = if digits (n : Int) ∈ dg then .tup [.str wLeast, .int (dg.idxOf (digits (n : Int)) : Nat)] else .non := rfl
    show rlD [wLeast, digits (n : Int)] = _
    rw [e1, e2, if_pos hx, dg_ix n (by omega)]; rfl
  | most n =>
    have h : n ≤ 60 := h
    have hx : digits (n : Int) ∈ dg := List.mem_map.mpr ⟨n, List.mem_range.mpr (by omega), rfl⟩
    have e1 : rlD [wMost, digits (n : Int)] = numT wMost [digits (n : Int)] := if_pos (c := (wMost = wLeast ∨ wMost = wMost) ∧ [digits (n : Int)].length = 1) (e := tailD wMost [digits (n : Int)]) ⟨.inr rfl, rfl⟩
    have e2 : numT wMost [digits (n : Int)] = if digits (n : Int) ∈ dg then .tup [.str wMost, .int (dg.idxOf (digits (n : Int)) : Nat)] else .non := rfl
    show rlD [wMost, digits (n : Int)] = _
    rw [e1, e2, if_pos hx, dg_ix n (by omega)]; rfl
theorem sp_line {f : Fact} (h : f.ok) : sp 32 (lineF f) = wds f := TL.spl_join (wds_len f).2 fun p hp hm => ((wds_ok h p hp).2.2 32 hm).2 rfl
theorem sp_text {fs : List Fact} (h : okAll fs) (h1 : 1 ≤ fs.length) : sp 10 (textF fs) = fs.map lineF := by
  refine TL.spl_join (fun e => ?_) fun p hp hm => ?_
  · rw [List.map_eq_nil_iff] at e
    rw [e] at h1
    exact absurd h1 (by decide)
  · obtain ⟨f, hf, rfl⟩ := List.mem_map.mp hp
    rcases joinL_mem hm with e | ⟨w, hw, hc⟩
    · cases e
    · exact ((wds_ok (h f hf) w hw).2.2 10 hc).1 rfl
theorem rows_text {fs : List Fact} (h : okAll fs) : rowsD (fs.map lineF) = fs.map Fact.d := by
  unfold rowsD
  rw [List.map_map]
  refine List.map_congr_left fun f hf => ?_
  show rlD (sp 32 (lineF f)) = _
  rw [sp_line (h f hf), rl_words (h f hf)]
theorem t_again {st : Store} {fs : List Fact} (h : okAll fs) (h1 : 1 ≤ fs.length) (hl : fs.length ≤ 6) : F_read_facts [.str (textF fs)] st = .ok (fsD fs) st := by
  have tl := text_len h hl
  rw [t_read (by omega)]
  unfold rdR
  rw [sp_text h h1, rows_text h]
  have nn : (fs.map Fact.d).any isNon = false := by
    rw [List.any_eq_false]
    intro x hx
    obtain ⟨f, hf, rfl⟩ := List.mem_map.mp hx
    cases f <;> exact Bool.false_ne_true
  rw [nn, if_neg (by simp)]
  exact if_pos (facts_is h h1 hl)
end DL.K11
namespace DL.K11
open PySem PySem.Spec L2 DL DL.SH
theorem evC {m : EM} {ml : EL} {ρ : Env_} {st st1 st2 : Store} {d : D} {ds : List D} (h : m ρ st = .ok d st1) (h2 : ml ρ st1 = .ok ds st2) : eCons m ml ρ st = .ok (frz d :: ds) st2 := by
  rw [ev_cons, h, bind_ok, h2, bind_ok]
theorem evL {ml : EL} {ρ : Env_} {st st1 : Store} {ds : List D} (h : ml ρ st = .ok ds st1) (hp : ds.all plain = true) (hl : ds.length ≤ 1000000) : eLst ml ρ st = .ok (.new ds) st1 := by
  rw [ev_lst, h, bind_ok, if_pos ⟨hp, hl⟩]
def signsL : List (List Nat) := [[32], [88], [97], [45], [49], [48], [], [10], [115, 97, 109, 101], [10, 108, 101, 97, 115, 116, 32, 51], [10, 115, 97, 109, 101, 32, 88, 32, 97, 88], [109, 111, 115, 116], [32, 99], [100], [48, 49]]
theorem signs_len : ∀ w ∈ signsL, w.length ≤ 20 := by decide
theorem cut_len {α : Type} (l : List α) (a b : Option Int) : (cutD l a b).length ≤ l.length := by
  unfold cutD
  exact Nat.le_trans (List.length_take_le' ..) (by rw [List.length_drop]; omega)
theorem evS {m : EM} {lo hi : EO} {ρ : Env_} {st st1 st2 st3 : Store} {t : List Nat} {a b : Option Int} (h : m ρ st = .ok (.str t) st1) (h1 : lo ρ st1 = .ok a st2) (h2 : hi ρ st2 = .ok b st3) : eSl m lo hi ρ st = .ok (.str (cutD t a b)) st3 := by
  rw [ev_sl, h, bind_ok, h1, bind_ok, h2, bind_ok, sliceV_str]; rfl
theorem evO {m : EM} {ρ : Env_} {st st1 : Store} {i : Int} (h : m ρ st = .ok (.int i) st1) : oSome m ρ st = .ok (some i) st1 := by rw [ev_oSome, h, bind_ok]
theorem add_str {st : Store} {a b : List Nat} (h : a.length + b.length ≤ 16777216) : pAdd st (.str a) (.str b) = some (.str (a ++ b)) := catT_str h
theorem len_str {st : Store} {a : List Nat} : pLen st [.str a] = some (.int (a.length : Int)) := rfl
theorem repL_two {α : Type} (l : List α) : repL 2 l = l ++ l := by unfold repL; simp [List.replicate]
theorem t_bent {k : Nat} {st : Store} {t : List Nat} (hs : Src st0 st k) (ht : t.length ≤ 400) : ∃ t' st', F__law_bent [.ref k, .str t] st = .ok (.str t') st' ∧ Src st0 st' k := by
  obtain ⟨r, st1, e1, r0, r1, s1⟩ := t_draw (m := (t.length : Int) + 1) hs (by omega) (by omega)
  obtain ⟨w, st2, e2, hw, s2⟩ := t_choice_str signsL s1 (by decide) (by decide)
  obtain ⟨q, st3, e3, q0, q1, s3⟩ := t_draw (m := 3) s2 (by omega) (by omega)
  have hwl := signs_len w hw
  have c1 := cut_len t none (some r)
  have c2 := cut_len t (some (r + q)) none
  generalize hT : (cutD t none (some r) ++ w) ++ cutD t (some (r + q)) none = T
  have hTl : T.length ≤ 820 := by rw [← hT, List.length_append, List.length_append]; omega
  have cc := sp_count 10 T
  have pm : ∀ p ∈ sp 10 T, p.length ≤ 820 := fun p hp => Nat.le_trans (sp_len hp) hTl
  have gT : pAdd st3 (.str (cutD t none (some r) ++ w)) (.str (cutD t (some (r + q)) none)) = some (.str T) := by
    rw [← hT]
    exact add_str (by rw [List.length_append]; omega)
  have L1 : ∀ (ρ : Env_) (st : Store), (eLst (eCons (eC (.str [32])) (eCons (eC (.str [88])) (eCons (eC (.str [97])) (eCons (eC (.str [45])) (eCons (eC (.str [49])) (eCons (eC (.str [48])) (eCons (eC (.str [])) (eCons (eC (.str [10])) (eCons (eC (.str [115, 97, 109, 101])) (eCons (eC (.str [10, 108, 101, 97, 115, 116, 32, 51])) (eCons (eC (.str [10, 115, 97, 109, 101, 32, 88, 32, 97, 88])) (eCons (eC (.str [109, 111, 115, 116])) (eCons (eC (.str [32, 99])) (eCons (eC (.str [100])) (eCons (eC (.str [48, 49])) eNil)))))))))))))))) ρ st = .ok (.new (signsL.map .str)) st := fun ρ st => rfl
  have s1' := asg (i := 2) (ρ1 := [some (.ref k), some (.str t), some (.lst (signsL.map .str)), none, none, none]) (L1 [some (.ref k), some (.str t), none, none, none, none] st) rfl rfl
  have dr : eFn F__law_draw (eCons (eVar 0) (eCons (eBin pAdd (eCallP pLen (eCons (eVar 1) eNil)) (eC (.int 1))) eNil)) [some (.ref k), some (.str t), some (.lst (signsL.map .str)), none, none, none] st = .ok (.int r) st1 :=
    evF2 (evv rfl) (ev2 (y := .int 1) (evP1 (evv rfl) len_str) rfl rfl) rfl rfl e1
  have s2' := asg (i := 3) (ρ1 := [some (.ref k), some (.str t), some (.lst (signsL.map .str)), some (.int r), none, none]) dr rfl rfl
  have ch : eFn F__law_choice (eCons (eVar 0) (eCons (eVar 2) eNil)) [some (.ref k), some (.str t), some (.lst (signsL.map .str)), some (.int r), none, none] st1 = .ok (.str w) st2 := evF2 (evv rfl) (evv rfl) rfl rfl e2
  have d3 : eFn F__law_draw (eCons (eVar 0) (eCons (eC (.int 3)) eNil)) [some (.ref k), some (.str t), some (.lst (signsL.map .str)), some (.int r), none, none] st2 = .ok (.int q) st3 := evF2 (evv rfl) rfl rfl rfl e3
  have sum : eBin pAdd (eBin pAdd (eSl (eVar 1) oNone (oSome (eVar 3))) (eFn F__law_choice (eCons (eVar 0) (eCons (eVar 2) eNil)))) (eSl (eVar 1) (oSome (eBin pAdd (eVar 3) (eFn F__law_draw (eCons (eVar 0) (eCons (eC (.int 3)) eNil))))) oNone) [some (.ref k), some (.str t), some (.lst (signsL.map .str)), some (.int r), none, none] st1 = .ok (.str T) st3 :=
    ev2 (ev2 (evS (evv rfl) rfl (evO (evv rfl))) ch (add_str (by omega))) (evS (evv rfl) (evO (ev2 (evv rfl) d3 rfl)) rfl) gT
  have s3' := asg (i := 1) (ρ1 := [some (.ref k), some (.str T), some (.lst (signsL.map .str)), some (.int r), none, none]) sum rfl rfl
  have s4' := asg (i := 4) (ρ1 := [some (.ref k), some (.str T), some (.lst (signsL.map .str)), some (.int r), some (.lst ((sp 10 T).map .str)), none]) (ev_split (ρ := [some (.ref k), some (.str T), some (.lst (signsL.map .str)), some (.int r), none, none]) (st := st3) (i := 1) (c := 10) rfl (by omega) (by omega)) rfl rfl
  generalize hP : sp 10 T = P at *
  have j1 : eMet pJoin (eC (.str [10])) (eCons (eRev (eVar 4)) eNil) [some (.ref k), some (.str T), some (.lst (signsL.map .str)), some (.int r), some (.lst (P.map .str)), none] st3 = .ok (.str (TL.joinL [10] P.reverse)) st3 := by
    refine ev_join (m := 820) (k := 821) ?_ (fun p hp => pm p (List.mem_reverse.mp hp)) (by rw [List.length_reverse]; omega) (by omega)
    rw [ev_rev, evv (d := .lst (P.map .str)) rfl, bind_ok]
    show R.of (some (D.new (P.map D.str).reverse)) st3 = _
    rw [← List.map_reverse]; rfl
  have j2 : eMet pJoin (eC (.str [10])) (eCons (eSl (eVar 4) (oSome (eC (.int 1))) oNone) eNil) [some (.ref k), some (.str T), some (.lst (signsL.map .str)), some (.int r), some (.lst (P.map .str)), none] st3 = .ok (.str (TL.joinL [10] (P.drop 1))) st3 := by
    refine ev_join (m := 820) (k := 821) ?_ (fun p hp => pm p (List.mem_of_mem_drop hp)) (by rw [List.length_drop]; omega) (by omega)
    rw [ev_sl, evv (d := .lst (P.map .str)) rfl, bind_ok]
    show R.of (sliceV (.lst (P.map D.str)) (some 1) none) st3 = _
    rw [sliceV_lst, cut_from _ (by omega), ← List.map_drop]; rfl
  have j3 : eMet pJoin (eC (.str [10])) (eCons (eBin pMul (eVar 4) (eC (.int 2))) eNil) [some (.ref k), some (.str T), some (.lst (signsL.map .str)), some (.int r), some (.lst (P.map .str)), none] st3 = .ok (.str (TL.joinL [10] (P ++ P))) st3 := by
    refine ev_join (m := 820) (k := 1642) ?_ (fun p hp => pm p (by rcases List.mem_append.mp hp with h | h <;> exact h)) (by rw [List.length_append]; omega) (by omega)
    have m : pMul st3 (.lst (P.map .str)) (.int 2) = some (.new ((P ++ P).map .str)) := by
      rw [mul_lst (by omega) (by omega) (by rw [List.length_map]; omega), show (2 : Int).toNat = 2 from rfl, repL_two, List.map_append]
    exact ev2 (evv rfl) rfl m
  have vT : eVar 1 [some (.ref k), some (.str T), some (.lst (signsL.map .str)), some (.int r), some (.lst (P.map .str)), none] st3 = .ok (.str T) st3 := evv rfl
  have L5 := evL (evC vT (evC vT (evC vT (evC j1 (evC j2 (evC j3 (ml := eNil) rfl)))))) rfl (by simp)
  have s5' := asg (i := 5) (ρ1 := [some (.ref k), some (.str T), some (.lst (signsL.map .str)), some (.int r), some (.lst (P.map .str)), some (.lst ([T, T, T, TL.joinL [10] P.reverse, TL.joinL [10] (P.drop 1), TL.joinL [10] (P ++ P)].map .str))]) L5 rfl rfl
  obtain ⟨t', st4, e4, _, s4⟩ := t_choice_str [T, T, T, TL.joinL [10] P.reverse, TL.joinL [10] (P.drop 1), TL.joinL [10] (P ++ P)] s3 (by simp) (by simp)
  refine ⟨t', st4, ?_, s4⟩
  have c6 : eFn F__law_choice (eCons (eVar 0) (eCons (eVar 5) eNil)) [some (.ref k), some (.str T), some (.lst (signsL.map .str)), some (.int r), some (.lst (P.map .str)), some (.lst ([T, T, T, TL.joinL [10] P.reverse, TL.joinL [10] (P.drop 1), TL.joinL [10] (P ++ P)].map .str))] st3 = .ok (.str t') st4 := evF2 (evv rfl) (evv rfl) rfl rfl e4
  unfold F__law_bent m__law_bent
  rw [ev_fm, if_pos (show [D.ref k, D.str t].length = 2 from rfl), show startD 6 [D.ref k, D.str t] = [some (.ref k), some (.str t), none, none, none, none] from rfl]
  exact congrArg finR (seqN s1' (seqN s2' (seqN s3' (seqN s4' (seqN s5' (seqR (retS c6)))))))
/-! ### a cell -/
section
variable {a0 a1 a2 a3 a4 a5 a6 a7 a8 a9 a10 a11 : Option D}
theorem t_turn {k j : Nat} {st : Store} {A B : List Nat} (hs : Src st0 st k) (hA : A.length ≤ 400) (hB : B.length ≤ 400) :
    ∃ C st', b1_law [a0, a1, some (.ref k), a3, some (.str A), some (.str B), some (.int (j : Int)), a7, a8, a9, a10, a11] st = .go .nx [a0, a1, some (.ref k), a3, some (.str A), some (.str C), some (.int (j : Int)), a7, a8, a9, a10, a11] st' ∧ C.length ≤ 400 ∧ Src st0 st' k := by
  have pick : ∃ T : List Nat, T.length ≤ 400 ∧ eIf (tV (eBin pEq (eBin pMod (eVar 6) (eC (.int 3))) (eC (.int 0)))) (eVar 4) (eVar 5) [a0, a1, some (.ref k), a3, some (.str A), some (.str B), some (.int (j : Int)), a7, a8, a9, a10, a11] st = .ok (.str T) st := by
    have t : tV (eBin pEq (eBin pMod (eVar 6) (eC (.int 3))) (eC (.int 0))) [a0, a1, some (.ref k), a3, some (.str A), some (.str B), some (.int (j : Int)), a7, a8, a9, a10, a11] st = .ok (((j : Int) % 3) == 0) st := evT (d := .bl (((j : Int) % 3) == 0)) (ev2 (ev2 (y := .int 3) (evv rfl) rfl (ev_mod (by omega))) rfl rfl) rfl
    cases hc : (((j : Int) % 3) == 0) with
    | true =>
      rw [hc] at t
      exact ⟨A, hA, eIfT t (evv rfl)⟩
    | false =>
      rw [hc] at t
      exact ⟨B, hB, eIfF t (evv rfl)⟩
  obtain ⟨T, hT, eT⟩ := pick
  obtain ⟨t', st1, e1, s1⟩ := t_bent hs hT
  have hC : (cutD t' none (some 400)).length ≤ 400 := by
    rw [cut_to _ (by omega)]
    exact List.length_take_le ..
  have b5 : eSl (eFn F__law_bent (eCons (eVar 2) (eCons (eIf (tV (eBin pEq (eBin pMod (eVar 6) (eC (.int 3))) (eC (.int 0)))) (eVar 4) (eVar 5)) eNil))) oNone (oSome (eC (.int 400))) [a0, a1, some (.ref k), a3, some (.str A), some (.str B), some (.int (j : Int)), a7, a8, a9, a10, a11] st = .ok (.str (cutD t' none (some 400))) st1 :=
    evS (evF2 (evv rfl) eT rfl rfl e1) rfl rfl
  refine ⟨cutD t' none (some 400), st1, ?_, hC, s1⟩
  generalize cutD t' none (some 400) = C at *
  have s5 := asg (i := 5) (ρ1 := [a0, a1, some (.ref k), a3, some (.str A), some (.str C), some (.int (j : Int)), a7, a8, a9, a10, a11]) b5 rfl rfl
  have cc := sp_count 10 C
  have lo : okV 100000 3 (lineR (sp 10 C)) := lineR_ok (fun l hl => by have := sp_len hl; omega) (by omega)
  have tr : F__law_tried [.str C] st1 = .ok (lineR (sp 10 C)) st1 := text_tried (by omega)
  have du : F__law_due [.str C] st1 = .ok (lineR (sp 10 C)) st1 := text_due (by omega)
  generalize lineR (sp 10 C) = Q at *
  have c : tV (eBin pNe (eFn F__law_tried (eCons (eVar 5) eNil)) (eFn F__law_due (eCons (eVar 5) eNil))) [a0, a1, some (.ref k), a3, some (.str A), some (.str C), some (.int (j : Int)), a7, a8, a9, a10, a11] st1 = .ok false st1 :=
    evT (ev2 (evF1 (evv rfl) rfl tr) (evF1 (evv rfl) rfl du) (ne_self lo (by omega))) rfl
  unfold b1_law
  exact seqN s5 (seqN (sIfF c rfl) rfl)
theorem t_turns {k : Nat} {st : Store} {A B : List Nat} (hs : Src st0 st k) (hA : A.length ≤ 400) (hB : B.length ≤ 400) :
    ∃ xs C b6 st', rng1 [.int 20] = some xs ∧ loopS (gName 6) b1_law xs [a0, a1, some (.ref k), a3, some (.str A), some (.str B), a6, a7, a8, a9, a10, a11] st = .go .nx [a0, a1, some (.ref k), a3, some (.str A), some (.str C), b6, a7, a8, a9, a10, a11] st' ∧ C.length ≤ 400 ∧ Src st0 st' k := by
  obtain ⟨xs, x1, x2, x3⟩ := rng_ints (n := 20) (by omega)
  obtain ⟨ρ', st', e, s', C, b6, rfl, hC, _⟩ := loop_all (g := gName 6) (body := b1_law)
    (fun rr ρ st => Src st0 st k ∧ ∃ C b6, ρ = [a0, a1, some (.ref k), a3, some (.str A), some (.str C), b6, a7, a8, a9, a10, a11] ∧ C.length ≤ 400 ∧ ∀ x ∈ rr, ∃ j : Nat, x = .int (j : Int))
    (fun x rr ρ st ⟨i1, C, b6, i2, i3, i5⟩ => by
      subst i2
      obtain ⟨j, rfl⟩ := i5 x (List.mem_cons_self ..)
      obtain ⟨C', st', e, hC', s'⟩ := t_turn (a0 := a0) (a1 := a1) (a3 := a3) (a7 := a7) (a8 := a8) (a9 := a9) (a10 := a10) (a11 := a11) (j := j) i1 hA i3
      exact ⟨_, _, st', rfl, e, s', _, _, rfl, hC', fun y hy => i5 y (List.mem_cons_of_mem _ hy)⟩)
    xs [a0, a1, some (.ref k), a3, some (.str A), some (.str B), a6, a7, a8, a9, a10, a11] st ⟨hs, _, _, rfl, hB, x3⟩
  exact ⟨xs, C, b6, st', x1, e, hC, s'⟩
/-- what is no text -/
def oddD (v : D) : Prop := okV 100000 3 v ∧ isTy "str" v = some false
theorem t_odds {st : Store} {b4 b5 b6 : Option D} (xs : List D) (h : ∀ x ∈ xs, oddD x) :
    ∃ b7, loopS (gName 7) b2_law xs [a0, a1, a2, a3, b4, b5, b6, a7, a8, a9, a10, a11] st = .go .nx [a0, a1, a2, a3, b4, b5, b6, b7, a8, a9, a10, a11] st := by
  obtain ⟨ρ', st', e, rfl, b7, rfl, _⟩ := loop_all (g := gName 7) (body := b2_law)
    (fun rr ρ st' => st' = st ∧ ∃ b7, ρ = [a0, a1, a2, a3, b4, b5, b6, b7, a8, a9, a10, a11] ∧ ∀ x ∈ rr, oddD x)
    (fun x rr ρ st' ⟨i1, b7, i2, i5⟩ => by
      subst i1
      subst i2
      obtain ⟨o1, o2⟩ := i5 x (List.mem_cons_self ..)
      have px := okV_plain o1
      have fx := okV_frz o1
      have tr : F__law_tried [x] st' = .ok (.int 0) st' := odd_tried o1 o2
      have c : tV (eBin pNe (eFn F__law_tried (eCons (eVar 7) eNil)) (eC (.int 0))) [a0, a1, a2, a3, b4, b5, b6, some x, a8, a9, a10, a11] st' = .ok false st' :=
        evT (ev2 (evF1 (d := x) (evv rfl) (by rw [fx]; exact px) (by rw [fx]; exact tr)) rfl rfl) rfl
      refine ⟨_, _, st', if_pos px, ?_, rfl, some x, rfl, fun y hy => i5 y (List.mem_cons_of_mem _ hy)⟩
      unfold b2_law
      exact seqN (sIfF c rfl) rfl)
    xs [a0, a1, a2, a3, b4, b5, b6, a7, a8, a9, a10, a11] st ⟨rfl, _, rfl, h⟩
  exact ⟨b7, e⟩
end
theorem t_cell {ns : List Int} {j : Nat} {st : Store} (hS : Keeps st0 st) {a2 a3 a4 a5 a6 a7 a8 a9 a10 a11 : Option D} : ∃ b2 b3 b4 b5 b6 b7 st', b3_law [some (.scr ns), some (.int (j : Int)), a2, a3, a4, a5, a6, a7, a8, a9, a10, a11] st = .go .nx [some (.scr ns), some (.int (j : Int)), b2, b3, b4, b5, b6, b7, a8, a9, a10, a11] st' ∧ Keeps st0 st' := by
  obtain ⟨st1, e1, s1⟩ := t_newsrc (ρ := [some (.scr ns), some (.int (j : Int)), a2, a3, a4, a5, a6, a7, a8, a9, a10, a11]) (st := st) (i := 2) (ki := 1) (k := j) (ns := ns) hS rfl rfl
  generalize st.length = k at e1 s1
  obtain ⟨fs, st2, e2, ho, ⟨qa, qb, qr, qe, _⟩, hl, s2⟩ := t_drawn (m := 6) s1 (by omega) (by omega)
  have h1 : 1 ≤ fs.length := by rw [qe]; simp
  have tl := text_len ho hl
  have pF : plain (fsD fs) = true := rfl
  have zF : frz (fsD fs) = fsD fs := rfl
  have oF : okV 100000 3 (fsD fs) := okV_fsD ho (by omega) (by omega)
  have iF : isTy "str" (fsD fs) = some false := rfl
  have vF : itemsV (fsD fs) = some (fs.map Fact.d) := rfl
  have cl := fun (ρ : Env_) (st : Store) (hi : 11 < ρ.length) => comp_line (st := st) (ρ := ρ) (i := 11) hi ho hl
  have ft := fun (st : Store) => t_text (st := st) ho h1 hl
  have rf := fun (st : Store) => t_again (st := st) ho h1 hl
  have l51 := lines_51 ho
  have ll : (fs.map lineF).length ≤ 6 := by rw [List.length_map]; exact hl
  have hX : TL.joinL [10] (fs.map lineF) = textF fs := rfl
  generalize fs.map lineF = LN at *
  generalize fs.map Fact.d = FD at *
  generalize textF fs = X at *
  generalize fsD fs = FS at *
  obtain ⟨xs, C, b6, st3, x1, x2, hC, s3⟩ := t_turns (a0 := some (.scr ns)) (a1 := some (.int (j : Int))) (a3 := some FS) (a6 := a6) (a7 := a7) (a8 := a8) (a9 := a9) (a10 := a10) (a11 := a11) (A := X) (B := X) s2 (by omega) (by omega)
  have odds : ∀ x ∈ [D.non, .int 5, .tup [.str C], .lst [.str C], .bl true, FS], oddD x := fun x hx => by
    have oC : ∀ d, okV 100000 d (.str C) := fun d => by cases d <;> exact Nat.le_trans hC (by omega)
    simp only [List.mem_cons, List.not_mem_nil, or_false] at hx
    rcases hx with rfl | rfl | rfl | rfl | rfl | rfl
    · exact ⟨trivial, by decide⟩
    · exact ⟨trivial, by decide⟩
    · exact ⟨⟨by simp, fun y hy => by rw [List.mem_singleton.mp hy]; exact oC _⟩, rfl⟩
    · exact ⟨⟨by simp, fun y hy => by rw [List.mem_singleton.mp hy]; exact oC _⟩, rfl⟩
    · exact ⟨trivial, by decide⟩
    · exact ⟨oF, iF⟩
  obtain ⟨b7, x3⟩ := t_odds (a0 := some (.scr ns)) (a1 := some (.int (j : Int))) (a2 := some (.ref k)) (a3 := some FS) (a7 := a7) (a8 := a8) (a9 := a9) (a10 := a10) (a11 := a11) (b4 := some (.str X)) (b5 := some (.str C)) (b6 := b6) (st := st3) _ odds
  refine ⟨some (.ref k), some FS, some (.str X), some (.str C), b6, b7, st3, ?_, s3.keeps⟩
  have y : eFn F__law_facts (eCons (eVar 2) (eCons (eC (.int 6)) eNil)) [some (.scr ns), some (.int (j : Int)), some (.ref k), a3, a4, a5, a6, a7, a8, a9, a10, a11] st1 = .ok FS st2 := evF2 (evv rfl) rfl rfl rfl e2
  have f3 := asg (i := 3) (ρ1 := [some (.scr ns), some (.int (j : Int)), some (.ref k), some FS, a4, a5, a6, a7, a8, a9, a10, a11]) y (by rw [zF]; exact pF) (by rw [zF]; rfl)
  have cm : eComp [11] (iVal (eVar 3)) (gName 11) tYes (eFn F__law_line (eCons (eVar 11) eNil)) [some (.scr ns), some (.int (j : Int)), some (.ref k), some FS, a4, a5, a6, a7, a8, a9, a10, a11] st2 = .ok (.new (LN.map .str)) st2 := by
    rw [ev_comp, ev_val, evv (d := FS) rfl, bind_ok, vF, of_some, bind_ok, cl _ _ (by simp [wipeD]), bind_ok]
  have jn := ev_join (s := 10) cm l51 ll (by omega)
  rw [hX] at jn
  have f4 := asg (i := 4) (ρ1 := [some (.scr ns), some (.int (j : Int)), some (.ref k), some FS, some (.str X), a5, a6, a7, a8, a9, a10, a11]) jn rfl rfl
  have n1 : pNe st2 (.str X) (.str X) = some (.bl false) := ne_self (n := 100000) (d := 1) (show X.length ≤ _ by omega) (by omega)
  have n2 : pNe st2 FS FS = some (.bl false) := ne_self oF (by omega)
  have c : tOr (tV (eBin pNe (eFn F_facts_text (eCons (eVar 3) eNil)) (eVar 4))) (tV (eBin pNe (eFn F_read_facts (eCons (eVar 4) eNil)) (eVar 3))) [some (.scr ns), some (.int (j : Int)), some (.ref k), some FS, some (.str X), a5, a6, a7, a8, a9, a10, a11] st2 = .ok false st2 :=
    evOF (evT (ev2 (evF1 (d := FS) (evv rfl) (by rw [zF]; exact pF) (by rw [zF]; exact ft st2)) (evv rfl) n1) rfl) (evT (ev2 (evF1 (d := .str X) (evv rfl) rfl (rf st2)) (evv rfl) n2) rfl)
  have f5 := asg (i := 5) (ρ := [some (.scr ns), some (.int (j : Int)), some (.ref k), some FS, some (.str X), a5, a6, a7, a8, a9, a10, a11]) (ρ1 := [some (.scr ns), some (.int (j : Int)), some (.ref k), some FS, some (.str X), some (.str X), a6, a7, a8, a9, a10, a11]) (st := st2) (m := eVar 4) (d := .str X) (evv rfl) rfl rfl
  have f6 : sFor (iRng1D (eCons (eC (.int 20)) eNil)) (gName 6) b1_law [some (.scr ns), some (.int (j : Int)), some (.ref k), some FS, some (.str X), some (.str X), a6, a7, a8, a9, a10, a11] st2 = .go .nx [some (.scr ns), some (.int (j : Int)), some (.ref k), some FS, some (.str X), some (.str C), b6, a7, a8, a9, a10, a11] st3 := by
    rw [ev_for, ev_rng1]
    have c : (eCons (eC (.int 20)) eNil) [some (.scr ns), some (.int (j : Int)), some (.ref k), some FS, some (.str X), some (.str X), a6, a7, a8, a9, a10, a11] st2 = .ok [.int 20] st2 := rfl
    rw [c, bind_ok, x1, of_some, ev_ofe, x2]
  have f7 : sFor (iVal (eLst (eCons (eC .non) (eCons (eC (.int 5)) (eCons (eTup (eCons (eVar 5) eNil)) (eCons (eLst (eCons (eVar 5) eNil)) (eCons (eC (.bl true)) (eCons (eVar 3) eNil)))))))) (gName 7) b2_law [some (.scr ns), some (.int (j : Int)), some (.ref k), some FS, some (.str X), some (.str C), b6, a7, a8, a9, a10, a11] st3 = .go .nx [some (.scr ns), some (.int (j : Int)), some (.ref k), some FS, some (.str X), some (.str C), b6, b7, a8, a9, a10, a11] st3 := by
    have v5 : eVar 5 [some (.scr ns), some (.int (j : Int)), some (.ref k), some FS, some (.str X), some (.str C), b6, a7, a8, a9, a10, a11] st3 = .ok (.str C) st3 := evv rfl
    have t5 : eTup (eCons (eVar 5) eNil) [some (.scr ns), some (.int (j : Int)), some (.ref k), some FS, some (.str X), some (.str C), b6, a7, a8, a9, a10, a11] st3 = .ok (.tup [.str C]) st3 := by
      rw [ev_tup, ev_cons, v5, bind_ok, ev_nil, bind_ok, bind_ok]; rfl
    have l := evL (evC (m := eC .non) rfl (evC (m := eC (.int 5)) rfl (evC t5 (evC (lst1e v5 rfl) (evC (m := eC (.bl true)) rfl (evC (m := eVar 3) (d := FS) (evv rfl) (ml := eNil) rfl)))))) (by rw [zF]; simp only [List.all_cons, pF]; rfl) (by simp)
    rw [ev_for, ev_val, l, bind_ok]
    rw [zF]
    exact x3
  unfold b3_law
  exact seqN e1 (seqN f3 (seqN f4 (seqN (sIfF c rfl) (seqN f5 (seqN f6 (seqN f7 rfl))))))
end DL.K11
namespace DL.K11
open PySem PySem.Spec L2 DL DL.SH
def fix1 : SM := (sFor (iRng1D (eCons (eBin pAdd (eC (.int 1)) (eCallP pMin2 (eCons (eCallP pLen (eCons (eVar 0) eNil)) (eCons (eC (.int 8)) eNil)))) eNil)) (gName 1) b3_law)
def fix2 : SM := (sAsg 8 (eC (.str [115, 97, 109, 101, 32, 97, 98, 88, 32, 88, 98, 97])))
def fix3 : SM := (sAsg 9 (eLst (eCons (eC (.str [])) (eCons (eVar 8) (eCons (eBin pAdd (eVar 8) (eC (.str [10, 108, 101, 97, 115, 116, 32, 52]))) (eCons (eBin pAdd (eVar 8) (eC (.str [10]))) (eCons (eC (.str [115, 97, 109, 101, 32, 45, 32, 88])) (eCons (eC (.str [115, 97, 109, 101, 32, 32, 88])) (eCons (eC (.str [108, 101, 97, 115, 116, 32, 54, 49])) (eCons (eC (.str [108, 101, 97, 115, 116, 32, 48, 51])) eNil))))))))))
def fix4 : SM := (sAsg 9 (eBin pAdd (eVar 9) (eLst (eCons (eC (.str [98, 101, 103, 105, 110, 115, 32, 45])) (eCons (eC (.str [98, 101, 103, 105, 110, 115, 32, 88])) eNil)))))
def fix5 : SM := (sAsg 9 (eBin pAdd (eVar 9) (eLst (eCons (eC (.str [115, 97, 109, 101, 32, 88])) (eCons (eC (.str [109, 111, 115, 116])) (eCons (eBin pAdd (eVar 8) (eC (.str [10, 101, 110, 100, 115]))) (eCons (eMet pJoin (eC (.str [10])) (eCons (eBin pMul (eLst (eCons (eVar 8) eNil)) (eC (.int 7))) eNil)) (eCons (eC (.str [115, 97, 109, 101, 32, 45, 32, 45])) (eCons (eC (.str [83, 97, 109, 101, 32, 88, 32, 88])) (eCons (eBin pAdd (eVar 8) (eC (.str [32]))) eNil))))))))))
def fix6 : SM := (sAsg 10 (eLst (eCons (eC (.int 1)) (eCons (eTup (eCons (eTup (eCons (eC (.str [115, 97, 109, 101])) (eCons (eC (.str [97, 98, 88])) (eCons (eC (.str [88, 98, 97])) eNil)))) eNil)) (eCons (eTup (eCons (eTup (eCons (eC (.str [115, 97, 109, 101])) (eCons (eC (.str [97, 98, 88])) (eCons (eC (.str [88, 98, 97])) eNil)))) (eCons (eTup (eCons (eC (.str [108, 101, 97, 115, 116])) (eCons (eC (.int 4)) eNil))) eNil))) (eCons (eC (.int 2)) (eCons (eTup (eCons (eTup (eCons (eC (.str [115, 97, 109, 101])) (eCons (eC (.str [])) (eCons (eC (.str [88])) eNil)))) eNil)) (eCons (eC (.int 1)) (eCons (eC (.int 1)) (eCons (eC (.int 1)) (eCons (eC (.int 1)) (eCons (eC (.int 1)) eNil))))))))))))
def fix7 : SM := (sAsg 10 (eBin pAdd (eVar 10) (eLst (eCons (eC (.int 1)) (eCons (eC (.int 1)) (eCons (eC (.int 2)) (eCons (eC (.int 8)) (eCons (eTup (eCons (eTup (eCons (eC (.str [115, 97, 109, 101])) (eCons (eC (.str [])) (eCons (eC (.str [])) eNil)))) eNil)) (eCons (eC (.int 1)) (eCons (eC (.int 1)) eNil))))))))))
def fix8 : SM := (sIf (tV (eBin pNe (eComp [5] (iVal (eVar 9)) (gName 5) tYes (eFn F__law_tried (eCons (eVar 5) eNil))) (eVar 10))) (sSeq (sRet (eC (.bl false))) sNext) sNext)
def fix9 : SM := (sRet (eBin pEq (eFn F_facts_text (eCons (eTup (eCons (eTup (eCons (eC (.str [115, 97, 109, 101])) (eCons (eC (.str [])) (eCons (eC (.str [88])) eNil)))) (eCons (eTup (eCons (eC (.str [109, 111, 115, 116])) (eCons (eC (.int 0)) eNil))) (eCons (eTup (eCons (eC (.str [98, 101, 103, 105, 110, 115])) (eCons (eC (.str [97, 98, 99])) eNil))) eNil)))) eNil)) (eC (.str [115, 97, 109, 101, 32, 45, 32, 88, 10, 109, 111, 115, 116, 32, 48, 10, 98, 101, 103, 105, 110, 115, 32, 97, 98, 99]))))
theorem law_eq : m_law = sSeq fix1 (sSeq fix2 (sSeq fix3 (sSeq fix4 (sSeq fix5 (sSeq fix6 (sSeq fix7 (sSeq fix8 (sSeq fix9 (sNext))))))))) := rfl
/-! ### the written texts -/
def goodL : List Nat := [115, 97, 109, 101, 32, 97, 98, 88, 32, 88, 98, 97]
def rowsA : List (List Nat) := [[], goodL, goodL ++ [10, 108, 101, 97, 115, 116, 32, 52], goodL ++ [10], [115, 97, 109, 101, 32, 45, 32, 88], [115, 97, 109, 101, 32, 32, 88], [108, 101, 97, 115, 116, 32, 54, 49], [108, 101, 97, 115, 116, 32, 48, 51]]
def rowsB : List (List Nat) := [[98, 101, 103, 105, 110, 115, 32, 45], [98, 101, 103, 105, 110, 115, 32, 88]]
def rowsC : List (List Nat) := [[115, 97, 109, 101, 32, 88], [109, 111, 115, 116], goodL ++ [10, 101, 110, 100, 115], TL.joinL [10] (repL 7 [goodL]), [115, 97, 109, 101, 32, 45, 32, 45], [83, 97, 109, 101, 32, 88, 32, 88], goodL ++ [32]]
def rowsL : List (List Nat) := rowsA ++ rowsB ++ rowsC
def dueA : List D := [.int 1, .tup [.tup [.str wSame, .str [97, 98, 88], .str [88, 98, 97]]], .tup [.tup [.str wSame, .str [97, 98, 88], .str [88, 98, 97]], .tup [.str wLeast, .int 4]], .int 2, .tup [.tup [.str wSame, .str [], .str [88]]], .int 1, .int 1, .int 1, .int 1, .int 1]
def dueB : List D := [.int 1, .int 1, .int 2, .int 8, .tup [.tup [.str wSame, .str [], .str []]], .int 1, .int 1]
theorem comp_tried {ρ : Env_} {st : Store} {i : Nat} (hi : i < ρ.length) {L : List (List Nat)} (h : ∀ l ∈ L, l.length ≤ 1000) (hl : L.length ≤ 100) : compS (gName i) tYes (eFn F__law_tried (eCons (eVar i) eNil)) ρ (L.map .str) [] st = .ok (L.map fun t => lineR (sp 10 t)) st := by
  have lo : ∀ t ∈ L, okV 100000 3 (lineR (sp 10 t)) := fun t ht => by
    have := h t ht
    have c := sp_count 10 t
    exact lineR_ok (fun l hl => by have := sp_len hl; omega) (by omega)
  have := compS_pure (g := gName i) (t := tYes) (me := eFn F__law_tried (eCons (eVar i) eNil)) (ρ := ρ) (st := st) (p := fun _ => true) (f := fun d => match d with | .str t => lineR (sp 10 t) | _ => .non) (L.map .str) [] (fun x hx => by
    obtain ⟨t, ht, rfl⟩ := List.mem_map.mp hx
    have o := lo t ht
    refine ⟨_, if_pos rfl, rfl, fun _ => ⟨evF1 (d := .str t) (evv (List.getElem?_set_self hi)) rfl (text_tried (by have := h t ht; omega)), ?_⟩⟩
    show plain (frz (lineR (sp 10 t))) = true
    rw [okV_frz o]; exact okV_plain o) (by simp; omega)
  rw [this, List.filter_eq_self.mpr (fun _ _ => rfl), List.nil_append, List.map_map]
  refine congrArg (fun l => R.ok l st) ?_
  exact List.map_congr_left fun t ht => okV_frz (lo t ht)
def exF : List Fact := [.same [] [88], .most 0, .begins [97, 98, 99]]
theorem exF_ok : okAll exF := fun f hf => okFactB_ok (List.all_eq_true.mp (show exF.all okFactB = true by decide) f hf)
section
variable {a0 a1 a2 a3 a4 a5 a6 a7 a8 a9 a10 a11 : Option D} {st : Store}
theorem q2 : fix2 [a0, a1, a2, a3, a4, a5, a6, a7, a8, a9, a10, a11] st = .go .nx [a0, a1, a2, a3, a4, a5, a6, a7, some (.str goodL), a9, a10, a11] st := rfl
theorem q3 : fix3 [a0, a1, a2, a3, a4, a5, a6, a7, some (.str goodL), a9, a10, a11] st = .go .nx [a0, a1, a2, a3, a4, a5, a6, a7, some (.str goodL), some (.lst (rowsA.map .str)), a10, a11] st := rfl
theorem q4 : fix4 [a0, a1, a2, a3, a4, a5, a6, a7, some (.str goodL), some (.lst (rowsA.map .str)), a10, a11] st = .go .nx [a0, a1, a2, a3, a4, a5, a6, a7, some (.str goodL), some (.lst ((rowsA ++ rowsB).map .str)), a10, a11] st := rfl
theorem q5 : fix5 [a0, a1, a2, a3, a4, a5, a6, a7, some (.str goodL), some (.lst ((rowsA ++ rowsB).map .str)), a10, a11] st = .go .nx [a0, a1, a2, a3, a4, a5, a6, a7, some (.str goodL), some (.lst (rowsL.map .str)), a10, a11] st := rfl
theorem q6 : fix6 [a0, a1, a2, a3, a4, a5, a6, a7, a8, a9, a10, a11] st = .go .nx [a0, a1, a2, a3, a4, a5, a6, a7, a8, a9, some (.lst dueA), a11] st := rfl
theorem q7 : fix7 [a0, a1, a2, a3, a4, a5, a6, a7, a8, a9, some (.lst dueA), a11] st = .go .nx [a0, a1, a2, a3, a4, a5, a6, a7, a8, a9, some (.lst (dueA ++ dueB)), a11] st := rfl
theorem due_eq : eqF 50 (.new (rowsL.map fun t => lineR (sp 10 t))) (.lst (dueA ++ dueB)) = some true := by decide +kernel
theorem q8 : fix8 [a0, a1, a2, a3, a4, a5, a6, a7, a8, some (.lst (rowsL.map .str)), some (.lst (dueA ++ dueB)), a11] st = .go .nx [a0, a1, a2, a3, a4, a5, a6, a7, a8, some (.lst (rowsL.map .str)), some (.lst (dueA ++ dueB)), a11] st := by
  have cm := fun (ρ : Env_) (hi : 5 < ρ.length) => comp_tried (ρ := ρ) (st := st) (i := 5) hi (L := rowsL) (by decide +kernel) (by decide +kernel)
  have de := due_eq
  have i6 : itemsV (.lst (rowsL.map D.str)) = some (rowsL.map D.str) := rfl
  unfold fix8
  generalize (rowsL.map fun t => lineR (sp 10 t)) = Q at *
  generalize rowsL.map D.str = RL at *
  generalize dueA ++ dueB = DU at *
  have m1 : eComp [5] (iVal (eVar 9)) (gName 5) tYes (eFn F__law_tried (eCons (eVar 5) eNil)) [a0, a1, a2, a3, a4, a5, a6, a7, a8, some (.lst RL), some (.lst DU), a11] st = .ok (.new Q) st := by
    rw [ev_comp, ev_val, evv (d := .lst RL) rfl, bind_ok, i6, of_some, bind_ok, cm _ (by simp [wipeD]), bind_ok]
  exact sIfF (evT (ev2 m1 (evv rfl) (ne_of de)) rfl) rfl
theorem ex_text : (textF exF == [115, 97, 109, 101, 32, 45, 32, 88, 10, 109, 111, 115, 116, 32, 48, 10, 98, 101, 103, 105, 110, 115, 32, 97, 98, 99]) = true := by decide +kernel
theorem q9 : fix9 [a0, a1, a2, a3, a4, a5, a6, a7, a8, a9, a10, a11] st = .go (.rt (.bl true)) [a0, a1, a2, a3, a4, a5, a6, a7, a8, a9, a10, a11] st := by
  have e := t_text (st := st) exF_ok (by decide) (by decide)
  have r : ∀ ρ : Env_, (eTup (eCons (eTup (eCons (eC (.str [115, 97, 109, 101])) (eCons (eC (.str [])) (eCons (eC (.str [88])) eNil)))) (eCons (eTup (eCons (eC (.str [109, 111, 115, 116])) (eCons (eC (.int 0)) eNil))) (eCons (eTup (eCons (eC (.str [98, 101, 103, 105, 110, 115])) (eCons (eC (.str [97, 98, 99])) eNil))) eNil)))) ρ st = .ok (fsD exF) st := fun ρ => rfl
  have x := ex_text
  have p : plain (fsD exF) = true := rfl
  have z : frz (fsD exF) = fsD exF := rfl
  unfold fix9
  generalize textF exF = X at *
  generalize fsD exF = U at *
  refine retS (ev2 (evF1 (r _) (by rw [z]; exact p) (by rw [z]; exact e)) rfl ?_)
  rw [eq_str, x]
end
theorem t_loop1 (ns : List Int) : ∃ b1 b2 b3 b4 b5 b6 b7 b8 b9 b10 b11 st', fix1 [some (.scr ns), none, none, none, none, none, none, none, none, none, none, none] st0 = .go .nx [some (.scr ns), b1, b2, b3, b4, b5, b6, b7, b8, b9, b10, b11] st' := by
  obtain ⟨b, e1, xs, e2, hx⟩ := t_range (ns := ns) (st := st0) 8 (by omega)
  simp only [Int.cast_ofNat_Int] at e1
  obtain ⟨ρ', st', e, _, b1, b2, b3, b4, b5, b6, b7, b8, b9, b10, b11, rfl, _⟩ := loop_all (g := gName 1) (body := b3_law)
    (fun r ρ st => Keeps st0 st ∧ ∃ b1 b2 b3 b4 b5 b6 b7 b8 b9 b10 b11, ρ = [some (.scr ns), b1, b2, b3, b4, b5, b6, b7, b8, b9, b10, b11] ∧ ∀ x ∈ r, ∃ j : Nat, x = .int (j : Int))
    (fun x r ρ st ⟨i1, b1, b2, b3, b4, b5, b6, b7, b8, b9, b10, b11, i2, i3⟩ => by
      subst i2
      obtain ⟨j, rfl⟩ := i3 x (List.mem_cons_self ..)
      obtain ⟨c2, c3, c4, c5, c6, c7, st', e, k'⟩ := t_cell (ns := ns) (j := j) (st := st) i1 (a2 := b2) (a3 := b3) (a4 := b4) (a5 := b5) (a6 := b6) (a7 := b7) (a8 := b8) (a9 := b9) (a10 := b10) (a11 := b11)
      exact ⟨_, _, st', rfl, e, k', _, _, _, _, _, _, _, _, _, _, _, rfl, fun y hy => i3 y (List.mem_cons_of_mem _ hy)⟩)
    xs [some (.scr ns), none, none, none, none, none, none, none, none, none, none, none] st0 ⟨rfl, _, _, _, _, _, _, _, _, _, _, _, rfl, hx⟩
  refine ⟨b1, b2, b3, b4, b5, b6, b7, b8, b9, b10, b11, st', ?_⟩
  unfold fix1
  simp [len_scr, e1, e2, fz_scr, pl_scr, e]
theorem t_all {ns : List Int} {b1 b2 b3 b4 b5 b6 b7 b8 b9 b10 b11 : Option D} {st' : Store} (l2 : fix1 [some (.scr ns), none, none, none, none, none, none, none, none, none, none, none] st0 = .go .nx [some (.scr ns), b1, b2, b3, b4, b5, b6, b7, b8, b9, b10, b11] st') :
    ∃ ρ, m_law [some (.scr ns), none, none, none, none, none, none, none, none, none, none, none] st0 = .go (.rt (.bl true)) ρ st' := by
  rw [law_eq]
  exact ⟨_, seqN l2 (seqN q2 (seqN q3 (seqN q4 (seqN q5 (seqN q6 (seqN q7 (seqN q8 (seqR q9))))))))⟩
theorem law_true (ns : List Int) (_ : ns.length ≤ 63) : ∃ st, F_law [.scr ns] st0 = .ok (.bl true) st := by
  obtain ⟨b1, b2, b3, b4, b5, b6, b7, b8, b9, b10, b11, st', l2⟩ := t_loop1 ns
  obtain ⟨ρ, t⟩ := t_all l2
  refine ⟨st', ?_⟩
  unfold F_law
  rw [ev_fm, if_pos (show [D.scr ns].length = 1 from rfl), show startD 12 [D.scr ns] = [some (.scr ns), none, none, none, none, none, none, none, none, none, none, none] from rfl, t]
  rfl
end DL.K11
set_option linter.all false
set_option maxRecDepth 100000
set_option maxHeartbeats 4000000
namespace DL.K11
open PySem PySem.Spec PyProof.Rows L2 DL
def top (i : Nat) : Stmt := PySem.Challenge.pw_onestamp_k11_texts_of_facts.main.body.getD i (.Pass ⟨0, 0, 0, 0⟩)
abbrev s__law_source : Stmt := top 25
def d__law_source : He.DefD := ⟨("_law_source", none), "_law_source", "_law_source", defArgs s__law_source, defBody s__law_source, defScope s__law_source, [], []⟩
abbrev s__law_draw : Stmt := top 26
def d__law_draw : He.DefD := ⟨("_law_draw", none), "_law_draw", "_law_draw", defArgs s__law_draw, defBody s__law_draw, defScope s__law_draw, [], []⟩
abbrev s__law_choice : Stmt := top 27
def d__law_choice : He.DefD := ⟨("_law_choice", none), "_law_choice", "_law_choice", defArgs s__law_choice, defBody s__law_choice, defScope s__law_choice, [], []⟩
abbrev s__law_template : Stmt := top 29
def d__law_template : He.DefD := ⟨("_law_template", none), "_law_template", "_law_template", defArgs s__law_template, defBody s__law_template, defScope s__law_template, [], []⟩
abbrev s__law_word : Stmt := top 28
def d__law_word : He.DefD := ⟨("_law_word", none), "_law_word", "_law_word", defArgs s__law_word, defBody s__law_word, defScope s__law_word, [], []⟩
abbrev s__law_same : Stmt := top 30
def d__law_same : He.DefD := ⟨("_law_same", none), "_law_same", "_law_same", defArgs s__law_same, defBody s__law_same, defScope s__law_same, [], []⟩
abbrev s__law_facts : Stmt := top 31
def d__law_facts : He.DefD := ⟨("_law_facts", none), "_law_facts", "_law_facts", defArgs s__law_facts, defBody s__law_facts, defScope s__law_facts, [], []⟩
abbrev s__law_line : Stmt := top 32
def d__law_line : He.DefD := ⟨("_law_line", none), "_law_line", "_law_line", defArgs s__law_line, defBody s__law_line, defScope s__law_line, [], []⟩
abbrev s_is_string : Stmt := top 12
def d_is_string : He.DefD := ⟨("is_string", none), "is_string", "is_string", defArgs s_is_string, defBody s_is_string, defScope s_is_string, [], []⟩
abbrev s_is_template : Stmt := top 13
def d_is_template : He.DefD := ⟨("is_template", none), "is_template", "is_template", defArgs s_is_template, defBody s_is_template, defScope s_is_template, [], []⟩
abbrev s_is_from : Stmt := top 11
def d_is_from : He.DefD := ⟨("is_from", none), "is_from", "is_from", defArgs s_is_from, defBody s_is_from, defScope s_is_from, [], []⟩
abbrev s_is_fact : Stmt := top 14
def d_is_fact : He.DefD := ⟨("is_fact", none), "is_fact", "is_fact", defArgs s_is_fact, defBody s_is_fact, defScope s_is_fact, [], []⟩
abbrev s_has_facts : Stmt := top 15
def d_has_facts : He.DefD := ⟨("has_facts", none), "has_facts", "has_facts", defArgs s_has_facts, defBody s_has_facts, defScope s_has_facts, [], []⟩
abbrev s_need_facts : Stmt := top 17
def d_need_facts : He.DefD := ⟨("need_facts", none), "need_facts", "need_facts", defArgs s_need_facts, defBody s_need_facts, defScope s_need_facts, [], []⟩
abbrev s_item_word : Stmt := top 19
def d_item_word : He.DefD := ⟨("item_word", none), "item_word", "item_word", defArgs s_item_word, defBody s_item_word, defScope s_item_word, [], []⟩
abbrev s_facts_lines : Stmt := top 20
def d_facts_lines : He.DefD := ⟨("facts_lines", none), "facts_lines", "facts_lines", defArgs s_facts_lines, defBody s_facts_lines, defScope s_facts_lines, [], []⟩
abbrev s_facts_text : Stmt := top 21
def d_facts_text : He.DefD := ⟨("facts_text", none), "facts_text", "facts_text", defArgs s_facts_text, defBody s_facts_text, defScope s_facts_text, [], []⟩
abbrev s_read_line : Stmt := top 22
def d_read_line : He.DefD := ⟨("read_line", none), "read_line", "read_line", defArgs s_read_line, defBody s_read_line, defScope s_read_line, [], []⟩
abbrev s_read_facts : Stmt := top 23
def d_read_facts : He.DefD := ⟨("read_facts", none), "read_facts", "read_facts", defArgs s_read_facts, defBody s_read_facts, defScope s_read_facts, [], []⟩
abbrev s__law_bent : Stmt := top 35
def d__law_bent : He.DefD := ⟨("_law_bent", none), "_law_bent", "_law_bent", defArgs s__law_bent, defBody s__law_bent, defScope s__law_bent, [], []⟩
abbrev s__law_tried : Stmt := top 36
def d__law_tried : He.DefD := ⟨("_law_tried", none), "_law_tried", "_law_tried", defArgs s__law_tried, defBody s__law_tried, defScope s__law_tried, [], []⟩
abbrev s__law_fact_of : Stmt := top 33
def d__law_fact_of : He.DefD := ⟨("_law_fact_of", none), "_law_fact_of", "_law_fact_of", defArgs s__law_fact_of, defBody s__law_fact_of, defScope s__law_fact_of, [], []⟩
abbrev s_is_facts : Stmt := top 16
def d_is_facts : He.DefD := ⟨("is_facts", none), "is_facts", "is_facts", defArgs s_is_facts, defBody s_is_facts, defScope s_is_facts, [], []⟩
abbrev s__law_due : Stmt := top 34
def d__law_due : He.DefD := ⟨("_law_due", none), "_law_due", "_law_due", defArgs s__law_due, defBody s__law_due, defScope s__law_due, [], []⟩
abbrev s_law : Stmt := top 37
def d_law : He.DefD := ⟨("law", none), "law", "law", defArgs s_law, defBody s_law, defScope s_law, [], []⟩
abbrev s_InvalidText : Stmt := memOf (top 3) 0
def d_InvalidText : He.DefD := ⟨("InvalidText", some "__init__"), "__init__", "InvalidText.__init__", defArgs s_InvalidText, defBody s_InvalidText, defScope s_InvalidText, [], []⟩
def fn : List He.DefD := d__law_source :: d__law_draw :: d__law_choice :: d__law_template :: d__law_word :: d__law_same :: d__law_facts :: d__law_line :: d_is_string :: d_is_template :: d_is_from :: d_is_fact :: d_has_facts :: d_need_facts :: d_item_word :: d_facts_lines :: d_facts_text :: d_read_line :: d_read_facts :: d__law_bent :: d__law_tried :: d__law_fact_of :: d_is_facts :: d__law_due :: d_law :: d_InvalidText :: []
def fa : List He.Fa := .free "len" :: .free "min" :: .free "range" :: .free "int" :: .free "abs" :: .free "str" :: .glo "InvalidFacts" :: .exc "InvalidFacts" :: .free "isinstance" :: .free "tuple" :: .int "MOST_FACTS" 6 :: .free "all" :: .str "LETTERS" (S [97, 98, 99]) :: .int "MOST_WORD" 8 :: .int "MOST_BOUND" 60 :: .str "MARK" (S [88]) :: .int "MOST_SIGNS" 16 :: .free "bool" :: .glo "InvalidText" :: .glo "StampError" :: .free "enumerate" :: .exm "InvalidText" "InvalidText" true :: .exm "InvalidFacts" "InvalidText" false :: .free "dict" :: .glo "_law_source" :: .glo "_law_draw" :: .glo "_law_choice" :: .glo "_law_template" :: .glo "_law_word" :: .glo "_law_same" :: .glo "_law_facts" :: .glo "_law_line" :: .glo "is_string" :: .glo "is_template" :: .glo "is_from" :: .glo "is_fact" :: .glo "has_facts" :: .glo "need_facts" :: .glo "item_word" :: .glo "facts_lines" :: .glo "facts_text" :: .glo "read_line" :: .glo "read_facts" :: .glo "_law_bent" :: .glo "_law_tried" :: .glo "_law_fact_of" :: .glo "is_facts" :: .glo "_law_due" :: .glo "law" :: []
def ts : List Str := ["LETTERS", "MARK"]
abbrev T0 : Nat := 463
def tl : List (Str × Str) := []
abbrev TT (w : World) (mg : Str → Option Value) (tb : List Addr) : Tx := ⟨T0, mg, tb, w⟩
def xk : PySem.W.Frag → Bool := fun K => numB "InvalidText" "StampError" "line" K
abbrev W0 (K : PySem.W.Frag) (mg : Str → Option Value) (base : Heap) (tb : List Addr) : Prop := Wd fa fn ts T0 tl xk K mg base tb
end DL.K11
namespace DL.K11
open PySem PySem.Spec PyProof.Rows L2 DL DL.SH
section
variable {P : Program} {w : World} {K : PySem.W.Frag} {mg : Str → Option Value} {base : Heap} {tb : List Addr}
theorem num_InvalidText (W : W0 K mg base tb) : NumX.NumTxt K mg "InvalidText" "StampError" "line" "line" "not such a text" (He.ga K "InvalidText") (He.ga K "StampError") (He.ma K (He.ga K "InvalidText") "__init__") := by
  obtain ⟨fd, hF0⟩ := W.def_ 25 (d := d_InvalidText)
  have hx : xk K = true := W.says.2.2.2
  unfold xk at hx
  exact num_of hx (W.glo 18) (W.glo 19) np_text (fun L fa cdv => ⟨_, rfl⟩) hF0
theorem sc__law_source : FnScope ["_law_script", "_law_k", "_law_cell"] ["_law_script", "_law_k"] (defScope s__law_source) := ⟨rfl, rfl, rfl, by decide +kernel, rfl, by decide +kernel, by decide +kernel⟩
theorem body__law_source (W : W0 K mg base tb) {f : Addr} {cdv : Value} {A : Around} {outer : List Env} {s : Shared} {G : Gh} (hr : Room 0 (A.deeper (envOfC "_law_source" (defScope s__law_source) s.heap.objs.size f cdv))) :
    DSs (BX P w K mg base ["_law_script", "_law_k", "_law_cell"] "_law_source" (defScope s__law_source) f cdv A outer s G.H) ⟨TT w mg tb, G, true, s.toks⟩ (defBody s__law_source) m__law_source :=
  (dss_cons (ds_set (i := 2) sc__law_source.nd rfl (.inl rfl) (de_if (dt_cmp op_lt (de_var (i := 1) rfl (.inl rfl)) (de_callB (c_len) rfl (W.free 0) bb_len (da_cons (de_var (i := 0) rfl (.inl rfl)) da_nil))) (de_callB (c_abs) rfl (W.free 4) bb_abs (da_cons (de_callT (c_int) rfl (W.free 3) bb_int (da_cons (de_idx (fun _ _ => rfl) (de_var (i := 0) rfl (.inl rfl)) (de_var (i := 1) rfl (.inl rfl))) da_nil)) da_nil)) (de_op op_add (de_op op_mul de_int (de_var (i := 1) rfl (.inl rfl))) de_int)))
 (dss_cons (ds_ret (de_lst (da_cons (de_if (dt_cmp op_gt (de_var (i := 2) rfl (.inl rfl)) (de_op op_pow de_int de_int)) (de_var (i := 2) rfl (.inl rfl)) de_int) (da_cons (de_op op_mod (de_callT (c_int) rfl (W.free 3) bb_int (da_cons (de_op op_add (de_op op_add (de_op op_mul (de_var (i := 2) rfl (.inl rfl)) de_int) (de_op op_mul de_int (de_var (i := 1) rfl (.inl rfl)))) de_int) da_nil)) de_int) da_nil))))
 dss_nil))
theorem fn__law_source (W : W0 K mg base tb) : Fn P w K mg base (TT w mg tb) 1 "_law_source" ["_law_script", "_law_k"] F__law_source := by
  obtain ⟨fd, hF0⟩ := W.def_ 0 (d := d__law_source)
  exact fn_mk 0 ["_law_script", "_law_k", "_law_cell"] m__law_source hF0 sc__law_source (W.glo 24) (hF0.bindsN fun _ _ _ _ _ _ us hl => match us, hl with | [_, _], _ => rfl) (fun cdv A outer s G hr => body__law_source W hr) rfl rfl
theorem sc__law_draw : FnScope ["_law_source_here", "_law_many", "_law_rest", "_law_wide"] ["_law_source_here", "_law_many"] (defScope s__law_draw) := ⟨rfl, rfl, rfl, by decide +kernel, rfl, by decide +kernel, by decide +kernel⟩
theorem body__law_draw (W : W0 K mg base tb) {f : Addr} {cdv : Value} {A : Around} {outer : List Env} {s : Shared} {G : Gh} (hr : Room 0 (A.deeper (envOfC "_law_draw" (defScope s__law_draw) s.heap.objs.size f cdv))) :
    DSs (BX P w K mg base ["_law_source_here", "_law_many", "_law_rest", "_law_wide"] "_law_draw" (defScope s__law_draw) f cdv A outer s G.H) ⟨TT w mg tb, G, true, s.toks⟩ (defBody s__law_draw) m__law_draw :=
  (dss_cons (ds_if (dt_cmp op_gt (de_idx (fun _ _ => rfl) (de_var (i := 0) rfl (.inl rfl)) de_int) de_int) (dss_cons (ds_set (i := 2) sc__law_draw.nd rfl (.inl rfl) (de_op op_mod (de_callT (c_int) rfl (W.free 3) bb_int (da_cons (de_idx (fun _ _ => rfl) (de_var (i := 0) rfl (.inl rfl)) de_int) da_nil)) (de_var (i := 1) rfl (.inl rfl))))
 (dss_cons (ds_setc (i := 0) (k := 0) rfl (.inl rfl) (de_op op_fdiv (de_idx (fun _ _ => rfl) (de_var (i := 0) rfl (.inl rfl)) de_int) (de_var (i := 1) rfl (.inl rfl))))
 (dss_cons (ds_ret (de_var (i := 2) rfl (.inl rfl)))
 dss_nil))) dss_nil)
 (dss_cons (ds_setc (i := 0) (k := 1) rfl (.inl rfl) (de_op op_mod (de_callT (c_int) rfl (W.free 3) bb_int (da_cons (de_op op_add (de_op op_mul (de_idx (fun _ _ => rfl) (de_var (i := 0) rfl (.inl rfl)) de_int) de_int) de_int) da_nil)) de_int))
 (dss_cons (ds_set (i := 3) sc__law_draw.nd rfl (.inl rfl) (de_op op_mod (de_callT (c_int) rfl (W.free 3) bb_int (da_cons (de_op op_mul (de_idx (fun _ _ => rfl) (de_var (i := 0) rfl (.inl rfl)) de_int) (de_op op_add (de_op op_fdiv (de_idx (fun _ _ => rfl) (de_var (i := 0) rfl (.inl rfl)) de_int) de_int) de_int)) da_nil)) de_int))
 (dss_cons (ds_ret (de_op op_mod (de_callT (c_int) rfl (W.free 3) bb_int (da_cons (de_op op_fdiv (de_var (i := 3) rfl (.inl rfl)) de_int) da_nil)) (de_var (i := 1) rfl (.inl rfl))))
 dss_nil))))
theorem fn__law_draw (W : W0 K mg base tb) : Fn P w K mg base (TT w mg tb) 1 "_law_draw" ["_law_source_here", "_law_many"] F__law_draw := by
  obtain ⟨fd, hF0⟩ := W.def_ 1 (d := d__law_draw)
  exact fn_mk 0 ["_law_source_here", "_law_many", "_law_rest", "_law_wide"] m__law_draw hF0 sc__law_draw (W.glo 25) (hF0.bindsN fun _ _ _ _ _ _ us hl => match us, hl with | [_, _], _ => rfl) (fun cdv A outer s G hr => body__law_draw W hr) rfl rfl
theorem sc__law_choice : FnScope ["_law_source_here", "_law_some"] ["_law_source_here", "_law_some"] (defScope s__law_choice) := ⟨rfl, rfl, rfl, by decide +kernel, rfl, by decide +kernel, by decide +kernel⟩
theorem body__law_choice (W : W0 K mg base tb) {f : Addr} {cdv : Value} {A : Around} {outer : List Env} {s : Shared} {G : Gh} (hr : Room 1 (A.deeper (envOfC "_law_choice" (defScope s__law_choice) s.heap.objs.size f cdv))) :
    DSs (BX P w K mg base ["_law_source_here", "_law_some"] "_law_choice" (defScope s__law_choice) f cdv A outer s G.H) ⟨TT w mg tb, G, true, s.toks⟩ (defBody s__law_choice) m__law_choice :=
  (dss_cons (ds_ret (de_idx (fun _ _ => rfl) (de_var (i := 1) rfl (.inl rfl)) (de_fn (fn__law_draw W) hr rfl (da_cons (de_var (i := 0) rfl (.inl rfl)) (da_cons (de_callB (c_len) rfl (W.free 0) bb_len (da_cons (de_var (i := 1) rfl (.inl rfl)) da_nil)) da_nil)))))
 dss_nil)
theorem fn__law_choice (W : W0 K mg base tb) : Fn P w K mg base (TT w mg tb) 2 "_law_choice" ["_law_source_here", "_law_some"] F__law_choice := by
  obtain ⟨fd, hF0⟩ := W.def_ 2 (d := d__law_choice)
  exact fn_mk 1 ["_law_source_here", "_law_some"] m__law_choice hF0 sc__law_choice (W.glo 26) (hF0.bindsN fun _ _ _ _ _ _ us hl => match us, hl with | [_, _], _ => rfl) (fun cdv A outer s G hr => body__law_choice W hr) rfl rfl
theorem sc__law_template : FnScope ["_law_source_here", "_law_most", "_law_turn"] ["_law_source_here", "_law_most"] (defScope s__law_template) := ⟨rfl, rfl, rfl, by decide +kernel, rfl, by decide +kernel, by decide +kernel⟩
theorem body__law_template (W : W0 K mg base tb) {f : Addr} {cdv : Value} {A : Around} {outer : List Env} {s : Shared} {G : Gh} (hr : Room 2 (A.deeper (envOfC "_law_template" (defScope s__law_template) s.heap.objs.size f cdv))) :
    DSs (BX P w K mg base ["_law_source_here", "_law_most", "_law_turn"] "_law_template" (defScope s__law_template) f cdv A outer s G.H) ⟨TT w mg tb, G, true, s.toks⟩ (defBody s__law_template) m__law_template :=
  (dss_cons (ds_ret (de_m1 F.slot_str_join F.type_str_join m_join (de_str rfl) (da_cons (de_comp (own := [("_law_turn", 2)]) rfl sc__law_template.nd (di_rng1 rfl (W.free 2) (da_cons (de_fn (fn__law_draw W) hr rfl (da_cons (de_var (i := 0) rfl (.inr (.inl rfl))) (da_cons (de_op op_add (de_var (i := 1) rfl (.inl rfl)) de_int) da_nil))) da_nil)) (blkOk_by (show blkC ["_law_source_here", "_law_most", "_law_turn"] (defScope s__law_template) _ _ = true from by decide +kernel)) (owns_name) (fun _ _ _ _ _ => (dg_name (i := 2) sc__law_template.nd rfl (.inl rfl))) (fun _ _ _ _ _ => dts_nil) (fun _ _ _ _ _ => (de_fn (fn__law_choice W) hr rfl (da_cons (de_var (i := 0) rfl (.inr (.inl rfl))) (da_cons (de_lst (da_cons (de_str rfl) (da_cons (de_str rfl) (da_cons (de_str rfl) (da_cons (de_str rfl) (da_cons (de_str rfl) (da_cons (de_str rfl) da_nil))))))) da_nil))))) da_nil)))
 dss_nil)
theorem fn__law_template (W : W0 K mg base tb) : Fn P w K mg base (TT w mg tb) 3 "_law_template" ["_law_source_here", "_law_most"] F__law_template := by
  obtain ⟨fd, hF0⟩ := W.def_ 3 (d := d__law_template)
  exact fn_mk 2 ["_law_source_here", "_law_most", "_law_turn"] m__law_template hF0 sc__law_template (W.glo 27) (hF0.bindsN fun _ _ _ _ _ _ us hl => match us, hl with | [_, _], _ => rfl) (fun cdv A outer s G hr => body__law_template W hr) rfl rfl
theorem sc__law_word : FnScope ["_law_source_here", "_law_low", "_law_high", "_law_size", "_law_root", "_law_turn"] ["_law_source_here", "_law_low", "_law_high"] (defScope s__law_word) := ⟨rfl, rfl, rfl, by decide +kernel, rfl, by decide +kernel, by decide +kernel⟩
theorem body__law_word (W : W0 K mg base tb) {f : Addr} {cdv : Value} {A : Around} {outer : List Env} {s : Shared} {G : Gh} (hr : Room 2 (A.deeper (envOfC "_law_word" (defScope s__law_word) s.heap.objs.size f cdv))) :
    DSs (BX P w K mg base ["_law_source_here", "_law_low", "_law_high", "_law_size", "_law_root", "_law_turn"] "_law_word" (defScope s__law_word) f cdv A outer s G.H) ⟨TT w mg tb, G, true, s.toks⟩ (defBody s__law_word) m__law_word :=
  (dss_cons (ds_set (i := 3) sc__law_word.nd rfl (.inl rfl) (de_op op_add (de_var (i := 1) rfl (.inl rfl)) (de_fn (fn__law_draw W) hr rfl (da_cons (de_var (i := 0) rfl (.inr (.inl rfl))) (da_cons (de_op op_add (de_op op_sub (de_var (i := 2) rfl (.inl rfl)) (de_var (i := 1) rfl (.inl rfl))) de_int) da_nil)))))
 (dss_cons (ds_set (i := 4) sc__law_word.nd rfl (.inl rfl) (de_fn (fn__law_choice W) hr rfl (da_cons (de_var (i := 0) rfl (.inr (.inl rfl))) (da_cons (de_lst (da_cons (de_str rfl) (da_cons (de_str rfl) (da_cons (de_str rfl) (da_cons (de_str rfl) (da_cons (de_str rfl) (da_cons (de_str rfl) (da_cons (de_str rfl) da_nil)))))))) da_nil))))
 (dss_cons (ds_if (dt_cmp op_gt (de_fn (fn__law_draw W) hr rfl (da_cons (de_var (i := 0) rfl (.inr (.inl rfl))) (da_cons de_int da_nil))) de_int) (dss_cons (ds_ret (de_slice (de_op op_mul (de_var (i := 4) rfl (.inl rfl)) (de_op op_add (de_op op_fdiv (de_var (i := 3) rfl (.inl rfl)) (de_callB (c_len) rfl (W.free 0) bb_len (da_cons (de_var (i := 4) rfl (.inl rfl)) da_nil))) de_int)) do_none (do_some (de_var (i := 3) rfl (.inl rfl)))))
 dss_nil) dss_nil)
 (dss_cons (ds_ret (de_m1 F.slot_str_join F.type_str_join m_join (de_str rfl) (da_cons (de_comp (own := [("_law_turn", 5)]) rfl sc__law_word.nd (di_rng1 rfl (W.free 2) (da_cons (de_var (i := 3) rfl (.inl rfl)) da_nil)) (blkOk_by (show blkC ["_law_source_here", "_law_low", "_law_high", "_law_size", "_law_root", "_law_turn"] (defScope s__law_word) _ _ = true from by decide +kernel)) (owns_name) (fun _ _ _ _ _ => (dg_name (i := 5) sc__law_word.nd rfl (.inl rfl))) (fun _ _ _ _ _ => dts_nil) (fun _ _ _ _ _ => (de_fn (fn__law_choice W) hr rfl (da_cons (de_var (i := 0) rfl (.inr (.inl rfl))) (da_cons (de_lst (da_cons (de_str rfl) (da_cons (de_str rfl) (da_cons (de_str rfl) (da_cons (de_str rfl) da_nil))))) da_nil))))) da_nil)))
 dss_nil))))
theorem fn__law_word (W : W0 K mg base tb) : Fn P w K mg base (TT w mg tb) 3 "_law_word" ["_law_source_here", "_law_low", "_law_high"] F__law_word := by
  obtain ⟨fd, hF0⟩ := W.def_ 4 (d := d__law_word)
  exact fn_mk 2 ["_law_source_here", "_law_low", "_law_high", "_law_size", "_law_root", "_law_turn"] m__law_word hF0 sc__law_word (W.glo 28) (hF0.bindsN fun _ _ _ _ _ _ us hl => match us, hl with | [_, _, _], _ => rfl) (fun cdv A outer s G hr => body__law_word W hr) rfl rfl
theorem sc__law_same : FnScope ["_law_source_here", "_law_way", "_law_stamp", "_law_one", "_law_root", "_law_at", "_law_turned", "_law_some"] ["_law_source_here"] (defScope s__law_same) := ⟨rfl, rfl, rfl, by decide +kernel, rfl, by decide +kernel, by decide +kernel⟩
theorem body__law_same (W : W0 K mg base tb) {f : Addr} {cdv : Value} {A : Around} {outer : List Env} {s : Shared} {G : Gh} (hr : Room 3 (A.deeper (envOfC "_law_same" (defScope s__law_same) s.heap.objs.size f cdv))) :
    DSs (BX P w K mg base ["_law_source_here", "_law_way", "_law_stamp", "_law_one", "_law_root", "_law_at", "_law_turned", "_law_some"] "_law_same" (defScope s__law_same) f cdv A outer s G.H) ⟨TT w mg tb, G, true, s.toks⟩ (defBody s__law_same) m__law_same :=
  (dss_cons (ds_set (i := 1) sc__law_same.nd rfl (.inl rfl) (de_fn (fn__law_draw W) hr rfl (da_cons (de_var (i := 0) rfl (.inl rfl)) (da_cons de_int da_nil))))
 (dss_cons (ds_if (dt_cmp (op_eq hr.units) (de_var (i := 1) rfl (.inl rfl)) de_int) (dss_cons (ds_ret (de_tup (da_cons (de_str rfl) (da_cons (de_fn (fn__law_template W) hr rfl (da_cons (de_var (i := 0) rfl (.inl rfl)) (da_cons de_int da_nil))) (da_cons (de_fn (fn__law_template W) hr rfl (da_cons (de_var (i := 0) rfl (.inl rfl)) (da_cons de_int da_nil))) da_nil)))))
 dss_nil) dss_nil)
 (dss_cons (ds_set (i := 2) sc__law_same.nd rfl (.inl rfl) (de_fn (fn__law_word W) hr rfl (da_cons (de_var (i := 0) rfl (.inl rfl)) (da_cons de_int (da_cons de_int da_nil)))))
 (dss_cons (ds_set (i := 3) sc__law_same.nd rfl (.inl rfl) (de_fn (fn__law_choice W) hr rfl (da_cons (de_var (i := 0) rfl (.inl rfl)) (da_cons (de_lst (da_cons (de_str rfl) (da_cons (de_str rfl) (da_cons (de_str rfl) (da_cons (de_str rfl) (da_cons (de_str rfl) (da_cons (de_str rfl) (da_cons (de_str rfl) da_nil)))))))) da_nil))))
 (dss_cons (ds_if (dt_cmp op_lt (de_var (i := 1) rfl (.inl rfl)) de_int) (dss_cons (ds_set (i := 4) sc__law_same.nd rfl (.inl rfl) (de_fn (fn__law_choice W) hr rfl (da_cons (de_var (i := 0) rfl (.inl rfl)) (da_cons (de_lst (da_cons (de_str rfl) (da_cons (de_str rfl) (da_cons (de_str rfl) (da_cons (de_str rfl) da_nil))))) da_nil))))
 (dss_cons (ds_set (i := 5) sc__law_same.nd rfl (.inl rfl) (de_fn (fn__law_draw W) hr rfl (da_cons (de_var (i := 0) rfl (.inl rfl)) (da_cons (de_callB (c_len) rfl (W.free 0) bb_len (da_cons (de_var (i := 4) rfl (.inl rfl)) da_nil)) da_nil))))
 (dss_cons (ds_set (i := 6) sc__law_same.nd rfl (.inl rfl) (de_op op_add (de_slice (de_var (i := 4) rfl (.inl rfl)) (do_some (de_var (i := 5) rfl (.inl rfl))) do_none) (de_slice (de_var (i := 4) rfl (.inl rfl)) do_none (do_some (de_var (i := 5) rfl (.inl rfl))))))
 (dss_cons (ds_set (i := 7) sc__law_same.nd rfl (.inl rfl) (de_lst (da_cons (de_tup (da_cons (de_str rfl) (da_cons (de_op op_add (de_var (i := 4) rfl (.inl rfl)) (de_str rfl)) (da_cons (de_op op_add (de_str rfl) (de_var (i := 6) rfl (.inl rfl))) da_nil)))) (da_cons (de_tup (da_cons (de_str rfl) (da_cons (de_op op_add (de_var (i := 4) rfl (.inl rfl)) (de_str rfl)) (da_cons (de_op op_add (de_str rfl) (de_var (i := 6) rfl (.inl rfl))) da_nil)))) da_nil))))
 (dss_cons (ds_ret (de_fn (fn__law_choice W) hr rfl (da_cons (de_var (i := 0) rfl (.inl rfl)) (da_cons (de_op op_add (de_var (i := 7) rfl (.inl rfl)) (de_lst (da_cons (de_tup (da_cons (de_str rfl) (da_cons (de_op op_add (de_op op_add (de_str rfl) (de_var (i := 6) rfl (.inl rfl))) (de_str rfl)) (da_cons (de_op op_add (de_var (i := 4) rfl (.inl rfl)) (de_str rfl)) da_nil)))) da_nil))) da_nil))))
 dss_nil))))) dss_nil)
 (dss_cons (ds_ret (de_tup (da_cons (de_str rfl) (da_cons (de_var (i := 3) rfl (.inl rfl)) (da_cons (de_if (dt_cmp (op_eq hr.units) (de_var (i := 1) rfl (.inl rfl)) de_int) (de_replL (i := 2) (de_var (i := 3) rfl (.inl rfl)) rfl rfl (.inl rfl)) (de_rev (de_var (i := 3) rfl (.inl rfl)))) da_nil)))))
 dss_nil))))))
theorem fn__law_same (W : W0 K mg base tb) : Fn P w K mg base (TT w mg tb) 4 "_law_same" ["_law_source_here"] F__law_same := by
  obtain ⟨fd, hF0⟩ := W.def_ 5 (d := d__law_same)
  exact fn_mk 3 ["_law_source_here", "_law_way", "_law_stamp", "_law_one", "_law_root", "_law_at", "_law_turned", "_law_some"] m__law_same hF0 sc__law_same (W.glo 29) (hF0.bindsN fun _ _ _ _ _ _ us hl => match us, hl with | [_], _ => rfl) (fun cdv A outer s G hr => body__law_same W hr) rfl rfl
theorem sc__law_facts : FnScope ["_law_source_here", "_law_most", "_law_found", "_law_turn", "_law_word_here", "_law_size", "_law_some"] ["_law_source_here", "_law_most"] (defScope s__law_facts) := ⟨rfl, rfl, rfl, by decide +kernel, rfl, by decide +kernel, by decide +kernel⟩
theorem body__law_facts (W : W0 K mg base tb) {f : Addr} {cdv : Value} {A : Around} {outer : List Env} {s : Shared} {G : Gh} (hr : Room 4 (A.deeper (envOfC "_law_facts" (defScope s__law_facts) s.heap.objs.size f cdv))) :
    DSs (BX P w K mg base ["_law_source_here", "_law_most", "_law_found", "_law_turn", "_law_word_here", "_law_size", "_law_some"] "_law_facts" (defScope s__law_facts) f cdv A outer s G.H) ⟨TT w mg tb, G, true, s.toks⟩ (defBody s__law_facts) m__law_facts :=
  (dss_cons (ds_set (i := 2) sc__law_facts.nd rfl (.inl rfl) (de_tup (da_cons (de_fn (fn__law_same W) hr rfl (da_cons (de_var (i := 0) rfl (.inl rfl)) da_nil)) da_nil)))
 (dss_cons (ds_if (dt_cmp (op_eq hr.units) (de_idx (fun _ _ => rfl) (de_idx (fun _ _ => rfl) (de_var (i := 2) rfl (.inl rfl)) de_int) de_int) (de_idx (fun _ _ => rfl) (de_idx (fun _ _ => rfl) (de_var (i := 2) rfl (.inl rfl)) de_int) de_int)) (dss_cons (ds_set (i := 2) sc__law_facts.nd rfl (.inl rfl) (de_tup (da_cons (de_tup (da_cons (de_str rfl) (da_cons (de_str rfl) (da_cons (de_str rfl) da_nil)))) da_nil)))
 dss_nil) dss_nil)
 (dss_cons (ds_for rfl rfl rfl (di_rng1 rfl (W.free 2) (da_cons (de_fn (fn__law_draw W) hr rfl (da_cons (de_var (i := 0) rfl (.inl rfl)) (da_cons (de_var (i := 1) rfl (.inl rfl)) da_nil))) da_nil)) (dg_name (i := 3) sc__law_facts.nd rfl (.inl rfl)) (dss_cons (ds_set (i := 4) sc__law_facts.nd rfl (.inl rfl) (de_fn (fn__law_word W) hr rfl (da_cons (de_var (i := 0) rfl (.inl rfl)) (da_cons de_int (da_cons de_int da_nil)))))
 (dss_cons (ds_set (i := 5) sc__law_facts.nd rfl (.inl rfl) (de_fn (fn__law_choice W) hr rfl (da_cons (de_var (i := 0) rfl (.inl rfl)) (da_cons (de_lst (da_cons de_int (da_cons de_int (da_cons de_int (da_cons de_int (da_cons de_int (da_cons de_int (da_cons de_int da_nil)))))))) da_nil))))
 (dss_cons (ds_set (i := 6) sc__law_facts.nd rfl (.inl rfl) (de_lst (da_cons (de_tup (da_cons (de_str rfl) (da_cons (de_var (i := 4) rfl (.inl rfl)) da_nil))) (da_cons (de_tup (da_cons (de_str rfl) (da_cons (de_var (i := 4) rfl (.inl rfl)) da_nil))) (da_cons (de_tup (da_cons (de_str rfl) (da_cons (de_var (i := 5) rfl (.inl rfl)) da_nil))) (da_cons (de_tup (da_cons (de_str rfl) (da_cons (de_callB (c_min2 rfl) rfl (W.free 1) bb_min (da_cons de_int (da_cons (de_op op_add (de_var (i := 5) rfl (.inl rfl)) de_int) da_nil))) da_nil))) (da_cons (de_fn (fn__law_same W) hr rfl (da_cons (de_var (i := 0) rfl (.inl rfl)) da_nil)) da_nil)))))))
 (dss_cons (ds_set (i := 2) sc__law_facts.nd rfl (.inl rfl) (de_op op_add (de_var (i := 2) rfl (.inl rfl)) (de_tup (da_cons (de_fn (fn__law_choice W) hr rfl (da_cons (de_var (i := 0) rfl (.inl rfl)) (da_cons (de_var (i := 6) rfl (.inl rfl)) da_nil))) da_nil))))
 dss_nil)))))
 (dss_cons (ds_ret (de_var (i := 2) rfl (.inl rfl)))
 dss_nil))))
theorem fn__law_facts (W : W0 K mg base tb) : Fn P w K mg base (TT w mg tb) 5 "_law_facts" ["_law_source_here", "_law_most"] F__law_facts := by
  obtain ⟨fd, hF0⟩ := W.def_ 6 (d := d__law_facts)
  exact fn_mk 4 ["_law_source_here", "_law_most", "_law_found", "_law_turn", "_law_word_here", "_law_size", "_law_some"] m__law_facts hF0 sc__law_facts (W.glo 30) (hF0.bindsN fun _ _ _ _ _ _ us hl => match us, hl with | [_, _], _ => rfl) (fun cdv A outer s G hr => body__law_facts W hr) rfl rfl
theorem sc__law_line : FnScope ["_law_fact", "_law_item"] ["_law_fact"] (defScope s__law_line) := ⟨rfl, rfl, rfl, by decide +kernel, rfl, by decide +kernel, by decide +kernel⟩
theorem body__law_line (W : W0 K mg base tb) {f : Addr} {cdv : Value} {A : Around} {outer : List Env} {s : Shared} {G : Gh} (hr : Room 0 (A.deeper (envOfC "_law_line" (defScope s__law_line) s.heap.objs.size f cdv))) :
    DSs (BX P w K mg base ["_law_fact", "_law_item"] "_law_line" (defScope s__law_line) f cdv A outer s G.H) ⟨TT w mg tb, G, true, s.toks⟩ (defBody s__law_line) m__law_line :=
  (dss_cons (ds_ret (de_m1 F.slot_str_join F.type_str_join m_join (de_str rfl) (da_cons (de_op op_add (de_lst (da_cons (de_idx (fun _ _ => rfl) (de_var (i := 0) rfl (.inl rfl)) de_int) da_nil)) (de_comp (own := [("_law_item", 1)]) rfl sc__law_line.nd (di_val (de_slice (de_var (i := 0) rfl (.inl rfl)) (do_some de_int) do_none)) (blkOk_by (show blkC ["_law_fact", "_law_item"] (defScope s__law_line) _ _ = true from by decide +kernel)) (owns_name) (fun _ _ _ _ _ => (dg_name (i := 1) sc__law_line.nd rfl (.inl rfl))) (fun _ _ _ _ _ => dts_nil) (fun _ _ _ _ _ => (de_if (dt_cmp (op_eq hr.units) (de_var (i := 1) rfl (.inl rfl)) (de_str rfl)) (de_str rfl) (de_callT (c_str) rfl (W.free 5) bb_str (da_cons (de_var (i := 1) rfl (.inl rfl)) da_nil)))))) da_nil)))
 dss_nil)
theorem fn__law_line (W : W0 K mg base tb) : Fn P w K mg base (TT w mg tb) 1 "_law_line" ["_law_fact"] F__law_line := by
  obtain ⟨fd, hF0⟩ := W.def_ 7 (d := d__law_line)
  exact fn_mk 0 ["_law_fact", "_law_item"] m__law_line hF0 sc__law_line (W.glo 31) (hF0.bindsN fun _ _ _ _ _ _ us hl => match us, hl with | [_], _ => rfl) (fun cdv A outer s G hr => body__law_line W hr) rfl rfl
theorem sc_is_string : FnScope ["value", "signs", "low", "high", "sign"] ["value", "signs", "low", "high"] (defScope s_is_string) := ⟨rfl, rfl, rfl, by decide +kernel, rfl, by decide +kernel, by decide +kernel⟩
theorem body_is_string (W : W0 K mg base tb) {f : Addr} {cdv : Value} {A : Around} {outer : List Env} {s : Shared} {G : Gh} (hr : Room 0 (A.deeper (envOfC "is_string" (defScope s_is_string) s.heap.objs.size f cdv))) :
    DSs (BX P w K mg base ["value", "signs", "low", "high", "sign"] "is_string" (defScope s_is_string) f cdv A outer s G.H) ⟨TT w mg tb, G, true, s.toks⟩ (defBody s_is_string) m_is_string :=
  (dss_cons (ds_ret (de_and (de_isI rfl rfl (W.free 8) rfl (W.free 5) bb_str (de_var (i := 0) rfl (.inl rfl))) (de_and (de_chain op_le op_le (de_var (i := 2) rfl (.inl rfl)) (de_callB (c_len) rfl (W.free 0) bb_len (da_cons (de_var (i := 0) rfl (.inl rfl)) da_nil)) (de_var (i := 3) rfl (.inl rfl))) (de_one (de_callB (c_all rfl) rfl (W.free 11) bb_all (da_cons (de_comp (own := [("sign", 4)]) rfl sc_is_string.nd (di_val (de_var (i := 0) rfl (.inl rfl))) (blkOk_by (show blkC ["value", "signs", "low", "high", "sign"] (defScope s_is_string) _ _ = true from by decide +kernel)) (owns_name) (fun _ _ _ _ _ => (dg_name (i := 4) sc_is_string.nd rfl (.inl rfl))) (fun _ _ _ _ _ => dts_nil) (fun _ _ _ _ _ => (de_cmp (op_in hr.units).1 (de_var (i := 4) rfl (.inl rfl)) (de_var (i := 1) rfl (.inr (.inl rfl)))))) da_nil))))))
 dss_nil)
theorem fn_is_string (W : W0 K mg base tb) : Fn P w K mg base (TT w mg tb) 1 "is_string" ["value", "signs", "low", "high"] F_is_string := by
  obtain ⟨fd, hF0⟩ := W.def_ 8 (d := d_is_string)
  exact fn_mk 0 ["value", "signs", "low", "high", "sign"] m_is_string hF0 sc_is_string (W.glo 32) (hF0.bindsN fun _ _ _ _ _ _ us hl => match us, hl with | [_, _, _, _], _ => rfl) (fun cdv A outer s G hr => body_is_string W hr) rfl rfl
theorem sc_is_template : FnScope ["value"] ["value"] (defScope s_is_template) := ⟨rfl, rfl, rfl, by decide +kernel, rfl, by decide +kernel, by decide +kernel⟩
theorem body_is_template (W : W0 K mg base tb) {f : Addr} {cdv : Value} {A : Around} {outer : List Env} {s : Shared} {G : Gh} (hr : Room 1 (A.deeper (envOfC "is_template" (defScope s_is_template) s.heap.objs.size f cdv))) :
    DSs (BX P w K mg base ["value"] "is_template" (defScope s_is_template) f cdv A outer s G.H) ⟨TT w mg tb, G, true, s.toks⟩ (defBody s_is_template) m_is_template :=
  (dss_cons (ds_ret (de_fn (fn_is_string W) hr rfl (da_cons (de_var (i := 0) rfl (.inl rfl)) (da_cons (de_op op_add (de_gstr rfl (W.str 12 0)) (de_gstr rfl (W.str 15 1))) (da_cons de_int (da_cons (de_gint rfl (W.int 16)) da_nil))))))
 dss_nil)
theorem fn_is_template (W : W0 K mg base tb) : Fn P w K mg base (TT w mg tb) 2 "is_template" ["value"] F_is_template := by
  obtain ⟨fd, hF0⟩ := W.def_ 9 (d := d_is_template)
  exact fn_mk 1 ["value"] m_is_template hF0 sc_is_template (W.glo 33) (hF0.bindsN fun _ _ _ _ _ _ us hl => match us, hl with | [_], _ => rfl) (fun cdv A outer s G hr => body_is_template W hr) rfl rfl
theorem sc_is_from : FnScope ["value", "low", "high"] ["value", "low", "high"] (defScope s_is_from) := ⟨rfl, rfl, rfl, by decide +kernel, rfl, by decide +kernel, by decide +kernel⟩
theorem body_is_from (W : W0 K mg base tb) {f : Addr} {cdv : Value} {A : Around} {outer : List Env} {s : Shared} {G : Gh} (hr : Room 0 (A.deeper (envOfC "is_from" (defScope s_is_from) s.heap.objs.size f cdv))) :
    DSs (BX P w K mg base ["value", "low", "high"] "is_from" (defScope s_is_from) f cdv A outer s G.H) ⟨TT w mg tb, G, true, s.toks⟩ (defBody s_is_from) m_is_from :=
  (dss_cons (ds_ret (de_and (de_isI rfl rfl (W.free 8) rfl (W.free 3) bb_int (de_var (i := 0) rfl (.inl rfl))) (de_and (de_not (de_isI rfl rfl (W.free 8) rfl (W.free 17) bb_bool (de_var (i := 0) rfl (.inl rfl)))) (de_one (de_chain op_le op_le (de_var (i := 1) rfl (.inl rfl)) (de_var (i := 0) rfl (.inl rfl)) (de_var (i := 2) rfl (.inl rfl)))))))
 dss_nil)
theorem fn_is_from (W : W0 K mg base tb) : Fn P w K mg base (TT w mg tb) 1 "is_from" ["value", "low", "high"] F_is_from := by
  obtain ⟨fd, hF0⟩ := W.def_ 10 (d := d_is_from)
  exact fn_mk 0 ["value", "low", "high"] m_is_from hF0 sc_is_from (W.glo 34) (hF0.bindsN fun _ _ _ _ _ _ us hl => match us, hl with | [_, _, _], _ => rfl) (fun cdv A outer s G hr => body_is_from W hr) rfl rfl
theorem sc_is_fact : FnScope ["value"] ["value"] (defScope s_is_fact) := ⟨rfl, rfl, rfl, by decide +kernel, rfl, by decide +kernel, by decide +kernel⟩
theorem body_is_fact (W : W0 K mg base tb) {f : Addr} {cdv : Value} {A : Around} {outer : List Env} {s : Shared} {G : Gh} (hr : Room 2 (A.deeper (envOfC "is_fact" (defScope s_is_fact) s.heap.objs.size f cdv))) :
    DSs (BX P w K mg base ["value"] "is_fact" (defScope s_is_fact) f cdv A outer s G.H) ⟨TT w mg tb, G, true, s.toks⟩ (defBody s_is_fact) m_is_fact :=
  (dss_cons (ds_if (DW.dt (dw_or (dt_not (dt_val (de_isI rfl rfl (W.free 8) rfl (W.free 9) bb_tuple (de_var (i := 0) rfl (.inl rfl))) (by intro _; rfl))) (dw_or (dt_cmp op_lt (de_callB (c_len) rfl (W.free 0) bb_len (da_cons (de_var (i := 0) rfl (.inl rfl)) da_nil)) de_int) (dw_or1 (dt_not (dt_val (de_isI rfl rfl (W.free 8) rfl (W.free 5) bb_str (de_idx (fun _ _ => rfl) (de_var (i := 0) rfl (.inl rfl)) de_int)) (by intro _; rfl))))))) (dss_cons (ds_ret de_bl)
 dss_nil) dss_nil)
 (dss_cons (ds_if (dt_cmp (op_eq hr.units) (de_idx (fun _ _ => rfl) (de_var (i := 0) rfl (.inl rfl)) de_int) (de_str rfl)) (dss_cons (ds_ret (de_and (de_cmp (op_eq hr.units) (de_callB (c_len) rfl (W.free 0) bb_len (da_cons (de_var (i := 0) rfl (.inl rfl)) da_nil)) de_int) (de_and (de_fn (fn_is_template W) hr rfl (da_cons (de_idx (fun _ _ => rfl) (de_var (i := 0) rfl (.inl rfl)) de_int) da_nil)) (de_one (de_fn (fn_is_template W) hr rfl (da_cons (de_idx (fun _ _ => rfl) (de_var (i := 0) rfl (.inl rfl)) de_int) da_nil))))))
 dss_nil) dss_nil)
 (dss_cons (ds_if (dt_cmp (op_ne hr.units) (de_callB (c_len) rfl (W.free 0) bb_len (da_cons (de_var (i := 0) rfl (.inl rfl)) da_nil)) de_int) (dss_cons (ds_ret de_bl)
 dss_nil) dss_nil)
 (dss_cons (ds_if (dt_cmp (op_in hr.units).1 (de_idx (fun _ _ => rfl) (de_var (i := 0) rfl (.inl rfl)) de_int) (de_tup (da_cons (de_str rfl) (da_cons (de_str rfl) da_nil)))) (dss_cons (ds_ret (de_fn (fn_is_string W) hr rfl (da_cons (de_idx (fun _ _ => rfl) (de_var (i := 0) rfl (.inl rfl)) de_int) (da_cons (de_gstr rfl (W.str 12 0)) (da_cons de_int (da_cons (de_gint rfl (W.int 13)) da_nil))))))
 dss_nil) dss_nil)
 (dss_cons (ds_ret (de_and (de_cmp (op_in hr.units).1 (de_idx (fun _ _ => rfl) (de_var (i := 0) rfl (.inl rfl)) de_int) (de_tup (da_cons (de_str rfl) (da_cons (de_str rfl) da_nil)))) (de_one (de_fn (fn_is_from W) hr rfl (da_cons (de_idx (fun _ _ => rfl) (de_var (i := 0) rfl (.inl rfl)) de_int) (da_cons de_int (da_cons (de_gint rfl (W.int 14)) da_nil)))))))
 dss_nil)))))
theorem fn_is_fact (W : W0 K mg base tb) : Fn P w K mg base (TT w mg tb) 3 "is_fact" ["value"] F_is_fact := by
  obtain ⟨fd, hF0⟩ := W.def_ 11 (d := d_is_fact)
  exact fn_mk 2 ["value"] m_is_fact hF0 sc_is_fact (W.glo 35) (hF0.bindsN fun _ _ _ _ _ _ us hl => match us, hl with | [_], _ => rfl) (fun cdv A outer s G hr => body_is_fact W hr) rfl rfl
theorem sc_has_facts : FnScope ["value", "fact"] ["value"] (defScope s_has_facts) := ⟨rfl, rfl, rfl, by decide +kernel, rfl, by decide +kernel, by decide +kernel⟩
theorem body_has_facts (W : W0 K mg base tb) {f : Addr} {cdv : Value} {A : Around} {outer : List Env} {s : Shared} {G : Gh} (hr : Room 3 (A.deeper (envOfC "has_facts" (defScope s_has_facts) s.heap.objs.size f cdv))) :
    DSs (BX P w K mg base ["value", "fact"] "has_facts" (defScope s_has_facts) f cdv A outer s G.H) ⟨TT w mg tb, G, true, s.toks⟩ (defBody s_has_facts) m_has_facts :=
  (dss_cons (ds_ret (de_and (de_isI rfl rfl (W.free 8) rfl (W.free 9) bb_tuple (de_var (i := 0) rfl (.inl rfl))) (de_and (de_chain op_le op_le de_int (de_callB (c_len) rfl (W.free 0) bb_len (da_cons (de_var (i := 0) rfl (.inl rfl)) da_nil)) (de_gint rfl (W.int 10))) (de_one (de_callB (c_all rfl) rfl (W.free 11) bb_all (da_cons (de_comp (own := [("fact", 1)]) rfl sc_has_facts.nd (di_val (de_var (i := 0) rfl (.inl rfl))) (blkOk_by (show blkC ["value", "fact"] (defScope s_has_facts) _ _ = true from by decide +kernel)) (owns_name) (fun _ _ _ _ _ => (dg_name (i := 1) sc_has_facts.nd rfl (.inl rfl))) (fun _ _ _ _ _ => dts_nil) (fun _ _ _ _ _ => (de_fn (fn_is_fact W) hr rfl (da_cons (de_var (i := 1) rfl (.inl rfl)) da_nil)))) da_nil))))))
 dss_nil)
theorem fn_has_facts (W : W0 K mg base tb) : Fn P w K mg base (TT w mg tb) 4 "has_facts" ["value"] F_has_facts := by
  obtain ⟨fd, hF0⟩ := W.def_ 12 (d := d_has_facts)
  exact fn_mk 3 ["value", "fact"] m_has_facts hF0 sc_has_facts (W.glo 36) (hF0.bindsN fun _ _ _ _ _ _ us hl => match us, hl with | [_], _ => rfl) (fun cdv A outer s G hr => body_has_facts W hr) rfl rfl
theorem sc_need_facts : FnScope ["value"] ["value"] (defScope s_need_facts) := ⟨rfl, rfl, rfl, by decide +kernel, rfl, by decide +kernel, by decide +kernel⟩
theorem body_need_facts (W : W0 K mg base tb) {f : Addr} {cdv : Value} {A : Around} {outer : List Env} {s : Shared} {G : Gh} (hr : Room 4 (A.deeper (envOfC "need_facts" (defScope s_need_facts) s.heap.objs.size f cdv))) :
    DSs (BX P w K mg base ["value"] "need_facts" (defScope s_need_facts) f cdv A outer s G.H) ⟨TT w mg tb, G, true, s.toks⟩ (defBody s_need_facts) m_need_facts :=
  (dss_cons (ds_if (dt_not (dt_val (de_fn (fn_has_facts W) hr rfl (da_cons (de_var (i := 0) rfl (.inl rfl)) da_nil)) (by intro _; rfl))) (dss_cons (ds_raise (W.err 6 7) rfl rfl)
 dss_nil) dss_nil)
 dss_nil)
theorem fn_need_facts (W : W0 K mg base tb) : Fn P w K mg base (TT w mg tb) 5 "need_facts" ["value"] F_need_facts := by
  obtain ⟨fd, hF0⟩ := W.def_ 13 (d := d_need_facts)
  exact fn_mk 4 ["value"] m_need_facts hF0 sc_need_facts (W.glo 37) (hF0.bindsN fun _ _ _ _ _ _ us hl => match us, hl with | [_], _ => rfl) (fun cdv A outer s G hr => body_need_facts W hr) rfl rfl
theorem sc_item_word : FnScope ["item"] ["item"] (defScope s_item_word) := ⟨rfl, rfl, rfl, by decide +kernel, rfl, by decide +kernel, by decide +kernel⟩
theorem body_item_word (W : W0 K mg base tb) {f : Addr} {cdv : Value} {A : Around} {outer : List Env} {s : Shared} {G : Gh} (hr : Room 0 (A.deeper (envOfC "item_word" (defScope s_item_word) s.heap.objs.size f cdv))) :
    DSs (BX P w K mg base ["item"] "item_word" (defScope s_item_word) f cdv A outer s G.H) ⟨TT w mg tb, G, true, s.toks⟩ (defBody s_item_word) m_item_word :=
  (dss_cons (ds_ret (de_if (dt_cmp (op_eq hr.units) (de_var (i := 0) rfl (.inl rfl)) (de_str rfl)) (de_str rfl) (de_callT (c_str) rfl (W.free 5) bb_str (da_cons (de_var (i := 0) rfl (.inl rfl)) da_nil))))
 dss_nil)
theorem fn_item_word (W : W0 K mg base tb) : Fn P w K mg base (TT w mg tb) 1 "item_word" ["item"] F_item_word := by
  obtain ⟨fd, hF0⟩ := W.def_ 14 (d := d_item_word)
  exact fn_mk 0 ["item"] m_item_word hF0 sc_item_word (W.glo 38) (hF0.bindsN fun _ _ _ _ _ _ us hl => match us, hl with | [_], _ => rfl) (fun cdv A outer s G hr => body_item_word W hr) rfl rfl
theorem sc_facts_lines : FnScope ["facts", "fact", "item"] ["facts"] (defScope s_facts_lines) := ⟨rfl, rfl, rfl, by decide +kernel, rfl, by decide +kernel, by decide +kernel⟩
theorem body_facts_lines (W : W0 K mg base tb) {f : Addr} {cdv : Value} {A : Around} {outer : List Env} {s : Shared} {G : Gh} (hr : Room 1 (A.deeper (envOfC "facts_lines" (defScope s_facts_lines) s.heap.objs.size f cdv))) :
    DSs (BX P w K mg base ["facts", "fact", "item"] "facts_lines" (defScope s_facts_lines) f cdv A outer s G.H) ⟨TT w mg tb, G, true, s.toks⟩ (defBody s_facts_lines) m_facts_lines :=
  (dss_cons (ds_ret (de_comp (own := [("fact", 1)]) rfl sc_facts_lines.nd (di_val (de_var (i := 0) rfl (.inl rfl))) (blkOk_by (show blkC ["facts", "fact", "item"] (defScope s_facts_lines) _ _ = true from by decide +kernel)) (owns_name) (fun _ _ _ _ _ => (dg_name (i := 1) sc_facts_lines.nd rfl (.inl rfl))) (fun _ _ _ _ _ => dts_nil) (fun _ _ _ _ _ => (de_m1 F.slot_str_join F.type_str_join m_join (de_str rfl) (da_cons (de_comp (own := [("item", 2)]) rfl sc_facts_lines.nd (di_val (de_var (i := 1) rfl (.inl rfl))) (blkOk_by (by kernel_rfl)) (owns_name) (fun _ _ _ _ _ => (dg_name (i := 2) sc_facts_lines.nd rfl (.inl rfl))) (fun _ _ _ _ _ => dts_nil) (fun _ _ _ _ _ => (de_fn (fn_item_word W) hr rfl (da_cons (de_var (i := 2) rfl (.inl rfl)) da_nil)))) da_nil)))))
 dss_nil)
theorem fn_facts_lines (W : W0 K mg base tb) : Fn P w K mg base (TT w mg tb) 2 "facts_lines" ["facts"] F_facts_lines := by
  obtain ⟨fd, hF0⟩ := W.def_ 15 (d := d_facts_lines)
  exact fn_mk 1 ["facts", "fact", "item"] m_facts_lines hF0 sc_facts_lines (W.glo 39) (hF0.bindsN fun _ _ _ _ _ _ us hl => match us, hl with | [_], _ => rfl) (fun cdv A outer s G hr => body_facts_lines W hr) rfl rfl
theorem sc_facts_text : FnScope ["facts"] ["facts"] (defScope s_facts_text) := ⟨rfl, rfl, rfl, by decide +kernel, rfl, by decide +kernel, by decide +kernel⟩
theorem body_facts_text (W : W0 K mg base tb) {f : Addr} {cdv : Value} {A : Around} {outer : List Env} {s : Shared} {G : Gh} (hr : Room 5 (A.deeper (envOfC "facts_text" (defScope s_facts_text) s.heap.objs.size f cdv))) :
    DSs (BX P w K mg base ["facts"] "facts_text" (defScope s_facts_text) f cdv A outer s G.H) ⟨TT w mg tb, G, true, s.toks⟩ (defBody s_facts_text) m_facts_text :=
  (dss_cons (ds_expr (de_fn (fn_need_facts W) hr rfl (da_cons (de_var (i := 0) rfl (.inl rfl)) da_nil)))
 (dss_cons (ds_ret (de_m1 F.slot_str_join F.type_str_join m_join (de_str rfl) (da_cons (de_fn (fn_facts_lines W) hr rfl (da_cons (de_var (i := 0) rfl (.inl rfl)) da_nil)) da_nil)))
 dss_nil))
theorem fn_facts_text (W : W0 K mg base tb) : Fn P w K mg base (TT w mg tb) 6 "facts_text" ["facts"] F_facts_text := by
  obtain ⟨fd, hF0⟩ := W.def_ 16 (d := d_facts_text)
  exact fn_mk 5 ["facts"] m_facts_text hF0 sc_facts_text (W.glo 40) (hF0.bindsN fun _ _ _ _ _ _ us hl => match us, hl with | [_], _ => rfl) (fun cdv A outer s G hr => body_facts_text W hr) rfl rfl
theorem sc_read_line : FnScope ["line", "words", "some", "fact", "number", "word"] ["line"] (defScope s_read_line) := ⟨rfl, rfl, rfl, by decide +kernel, rfl, by decide +kernel, by decide +kernel⟩
theorem body_read_line (W : W0 K mg base tb) {f : Addr} {cdv : Value} {A : Around} {outer : List Env} {s : Shared} {G : Gh} (hr : Room 3 (A.deeper (envOfC "read_line" (defScope s_read_line) s.heap.objs.size f cdv))) :
    DSs (BX P w K mg base ["line", "words", "some", "fact", "number", "word"] "read_line" (defScope s_read_line) f cdv A outer s G.H) ⟨TT w mg tb, G, true, s.toks⟩ (defBody s_read_line) m_read_line :=
  (dss_cons (ds_set (i := 1) sc_read_line.nd rfl (.inl rfl) (de_m1 F.slot_str_split F.type_str_split m_split (de_var (i := 0) rfl (.inl rfl)) (da_cons (de_str rfl) da_nil)))
 (dss_cons (ds_if (DW.dt (dw_and (dt_cmp (op_in hr.units).1 (de_idx (fun _ _ => rfl) (de_var (i := 1) rfl (.inl rfl)) de_int) (de_tup (da_cons (de_str rfl) (da_cons (de_str rfl) da_nil)))) (dw_and1 (dt_cmp (op_eq hr.units) (de_callB (c_len) rfl (W.free 0) bb_len (da_cons (de_var (i := 1) rfl (.inl rfl)) da_nil)) de_int)))) (dss_cons (ds_setComp (i := 2) (by rfl) rfl sc_read_line.nd rfl rfl (own := [("number", 4)]) (di_rng1 rfl (W.free 2) (da_cons (de_op op_add (de_gint rfl (W.int 14)) de_int) da_nil)) (blkOk_by (show blkC ["line", "words", "some", "fact", "number", "word"] (defScope s_read_line) _ _ = true from by decide +kernel)) (owns_name) (fun _ _ _ _ _ => (dg_name (i := 4) sc_read_line.nd rfl (.inl rfl))) (fun _ _ _ _ _ => dts_nil) (fun _ _ _ _ _ => (de_callT (c_str) rfl (W.free 5) bb_str (da_cons (de_var (i := 4) rfl (.inl rfl)) da_nil))))
 (dss_cons (ds_ret (de_if (dt_cmp (op_in hr.units).1 (de_idx (fun _ _ => rfl) (de_var (i := 1) rfl (.inl rfl)) de_int) (de_var (i := 2) rfl (.inl rfl))) (de_tup (da_cons (de_idx (fun _ _ => rfl) (de_var (i := 1) rfl (.inl rfl)) de_int) (da_cons (de_ml1 F.slot_list_index F.type_list_index (m_indexE hr.units) (de_var (i := 2) rfl (.inl rfl)) (da_cons (de_idx (fun _ _ => rfl) (de_var (i := 1) rfl (.inl rfl)) de_int) da_nil)) da_nil))) de_non))
 dss_nil)) dss_nil)
 (dss_cons (ds_if (dt_cmp (op_in hr.units).1 (de_str rfl) (de_var (i := 1) rfl (.inl rfl))) (dss_cons (ds_ret de_non)
 dss_nil) dss_nil)
 (dss_cons (ds_set (i := 3) sc_read_line.nd rfl (.inl rfl) (de_op op_add (de_tup (da_cons (de_idx (fun _ _ => rfl) (de_var (i := 1) rfl (.inl rfl)) de_int) da_nil)) (de_callT (c_tuple) rfl (W.free 9) bb_tuple (da_cons (de_comp (own := [("word", 5)]) rfl sc_read_line.nd (di_val (de_slice (de_var (i := 1) rfl (.inl rfl)) (do_some de_int) do_none)) (blkOk_by (show blkC ["line", "words", "some", "fact", "number", "word"] (defScope s_read_line) _ _ = true from by decide +kernel)) (owns_name) (fun _ _ _ _ _ => (dg_name (i := 5) sc_read_line.nd rfl (.inl rfl))) (fun _ _ _ _ _ => dts_nil) (fun _ _ _ _ _ => (de_if (dt_cmp (op_eq hr.units) (de_var (i := 5) rfl (.inl rfl)) (de_str rfl)) (de_str rfl) (de_var (i := 5) rfl (.inl rfl))))) da_nil))))
 (dss_cons (ds_ret (de_if (dt_val (de_fn (fn_is_fact W) hr rfl (da_cons (de_var (i := 3) rfl (.inl rfl)) da_nil)) (by intro _; rfl)) (de_var (i := 3) rfl (.inl rfl)) de_non))
 dss_nil)))))
theorem fn_read_line (W : W0 K mg base tb) : Fn P w K mg base (TT w mg tb) 4 "read_line" ["line"] F_read_line := by
  obtain ⟨fd, hF0⟩ := W.def_ 17 (d := d_read_line)
  exact fn_mk 3 ["line", "words", "some", "fact", "number", "word"] m_read_line hF0 sc_read_line (W.glo 41) (hF0.bindsN fun _ _ _ _ _ _ us hl => match us, hl with | [_], _ => rfl) (fun cdv A outer s G hr => body_read_line W hr) rfl rfl
theorem sc_read_facts : FnScope ["value", "found", "at", "line", "fact"] ["value"] (defScope s_read_facts) := ⟨rfl, rfl, rfl, by decide +kernel, rfl, by decide +kernel, by decide +kernel⟩
theorem body_read_facts (W : W0 K mg base tb) {f : Addr} {cdv : Value} {A : Around} {outer : List Env} {s : Shared} {G : Gh} (hr : Room 4 (A.deeper (envOfC "read_facts" (defScope s_read_facts) s.heap.objs.size f cdv))) :
    DSs (BX P w K mg base ["value", "found", "at", "line", "fact"] "read_facts" (defScope s_read_facts) f cdv A outer s G.H) ⟨TT w mg tb, G, true, s.toks⟩ (defBody s_read_facts) m_read_facts :=
  (dss_cons (ds_if (dt_not (dt_val (de_isI rfl rfl (W.free 8) rfl (W.free 5) bb_str (de_var (i := 0) rfl (.inl rfl))) (by intro _; rfl))) (dss_cons (ds_raiseN (num_InvalidText W) hr (by decide) rfl rfl (da_cons de_int da_nil))
 dss_nil) dss_nil)
 (dss_cons (ds_setO (i := 1) rfl sc_read_facts.nd rfl (.inl rfl) (de_lst da_nil))
 (dss_cons (ds_forE rfl rfl rfl rfl (W.free 20) (da_cons (de_m1 F.slot_str_split F.type_str_split m_split (de_var (i := 0) rfl (.inl rfl)) (da_cons (de_str rfl) da_nil)) da_nil) (dg_tup rfl (dgs_cons (i := 2) sc_read_facts.nd rfl (.inl rfl) (dgs_cons (i := 3) sc_read_facts.nd rfl (.inl rfl) dgs_nil))) (dss_cons (ds_set (i := 4) sc_read_facts.nd rfl (.inl rfl) (de_fn (fn_read_line W) hr rfl (da_cons (de_var (i := 3) rfl (.inl rfl)) da_nil)))
 (dss_cons (ds_if (dt_cmp op_is.1 (de_var (i := 4) rfl (.inl rfl)) de_non) (dss_cons (ds_raiseN (num_InvalidText W) hr (by decide) rfl rfl (da_cons (de_op op_add (de_var (i := 2) rfl (.inl rfl)) de_int) da_nil))
 dss_nil) dss_nil)
 (dss_cons (ds_app (i := 1) rfl rfl (.inl rfl) (de_var (i := 4) rfl (.inl rfl)))
 dss_nil))))
 (dss_cons (ds_if (dt_not (dt_val (de_fn (fn_has_facts W) hr rfl (da_cons (de_callT (c_tuple) rfl (W.free 9) bb_tuple (da_cons (de_var (i := 1) rfl (.inl rfl)) da_nil)) da_nil)) (by intro _; rfl))) (dss_cons (ds_raiseN (num_InvalidText W) hr (by decide) rfl rfl (da_cons (de_op op_add (de_callB (c_len) rfl (W.free 0) bb_len (da_cons (de_var (i := 1) rfl (.inl rfl)) da_nil)) de_int) da_nil))
 dss_nil) dss_nil)
 (dss_cons (ds_ret (de_callT (c_tuple) rfl (W.free 9) bb_tuple (da_cons (de_var (i := 1) rfl (.inl rfl)) da_nil)))
 dss_nil)))))
theorem fn_read_facts (W : W0 K mg base tb) : Fn P w K mg base (TT w mg tb) 5 "read_facts" ["value"] F_read_facts := by
  obtain ⟨fd, hF0⟩ := W.def_ 18 (d := d_read_facts)
  exact fn_mk 4 ["value", "found", "at", "line", "fact"] m_read_facts hF0 sc_read_facts (W.glo 42) (hF0.bindsN fun _ _ _ _ _ _ us hl => match us, hl with | [_], _ => rfl) (fun cdv A outer s G hr => body_read_facts W hr) rfl rfl
theorem sc__law_bent : FnScope ["_law_source_here", "_law_text", "_law_signs", "_law_at", "_law_lines", "_law_some"] ["_law_source_here", "_law_text"] (defScope s__law_bent) := ⟨rfl, rfl, rfl, by decide +kernel, rfl, by decide +kernel, by decide +kernel⟩
theorem body__law_bent (W : W0 K mg base tb) {f : Addr} {cdv : Value} {A : Around} {outer : List Env} {s : Shared} {G : Gh} (hr : Room 2 (A.deeper (envOfC "_law_bent" (defScope s__law_bent) s.heap.objs.size f cdv))) :
    DSs (BX P w K mg base ["_law_source_here", "_law_text", "_law_signs", "_law_at", "_law_lines", "_law_some"] "_law_bent" (defScope s__law_bent) f cdv A outer s G.H) ⟨TT w mg tb, G, true, s.toks⟩ (defBody s__law_bent) m__law_bent :=
  (dss_cons (ds_set (i := 2) sc__law_bent.nd rfl (.inl rfl) (de_lst (da_cons (de_str rfl) (da_cons (de_str rfl) (da_cons (de_str rfl) (da_cons (de_str rfl) (da_cons (de_str rfl) (da_cons (de_str rfl) (da_cons (de_str rfl) (da_cons (de_str rfl) (da_cons (de_str rfl) (da_cons (de_str rfl) (da_cons (de_str rfl) (da_cons (de_str rfl) (da_cons (de_str rfl) (da_cons (de_str rfl) (da_cons (de_str rfl) da_nil)))))))))))))))))
 (dss_cons (ds_set (i := 3) sc__law_bent.nd rfl (.inl rfl) (de_fn (fn__law_draw W) hr rfl (da_cons (de_var (i := 0) rfl (.inl rfl)) (da_cons (de_op op_add (de_callB (c_len) rfl (W.free 0) bb_len (da_cons (de_var (i := 1) rfl (.inl rfl)) da_nil)) de_int) da_nil))))
 (dss_cons (ds_set (i := 1) sc__law_bent.nd rfl (.inl rfl) (de_op op_add (de_op op_add (de_slice (de_var (i := 1) rfl (.inl rfl)) do_none (do_some (de_var (i := 3) rfl (.inl rfl)))) (de_fn (fn__law_choice W) hr rfl (da_cons (de_var (i := 0) rfl (.inl rfl)) (da_cons (de_var (i := 2) rfl (.inl rfl)) da_nil)))) (de_slice (de_var (i := 1) rfl (.inl rfl)) (do_some (de_op op_add (de_var (i := 3) rfl (.inl rfl)) (de_fn (fn__law_draw W) hr rfl (da_cons (de_var (i := 0) rfl (.inl rfl)) (da_cons de_int da_nil))))) do_none)))
 (dss_cons (ds_set (i := 4) sc__law_bent.nd rfl (.inl rfl) (de_m1 F.slot_str_split F.type_str_split m_split (de_var (i := 1) rfl (.inl rfl)) (da_cons (de_str rfl) da_nil)))
 (dss_cons (ds_set (i := 5) sc__law_bent.nd rfl (.inl rfl) (de_lst (da_cons (de_var (i := 1) rfl (.inl rfl)) (da_cons (de_var (i := 1) rfl (.inl rfl)) (da_cons (de_var (i := 1) rfl (.inl rfl)) (da_cons (de_m1 F.slot_str_join F.type_str_join m_join (de_str rfl) (da_cons (de_rev (de_var (i := 4) rfl (.inl rfl))) da_nil)) (da_cons (de_m1 F.slot_str_join F.type_str_join m_join (de_str rfl) (da_cons (de_slice (de_var (i := 4) rfl (.inl rfl)) (do_some de_int) do_none) da_nil)) (da_cons (de_m1 F.slot_str_join F.type_str_join m_join (de_str rfl) (da_cons (de_op op_mul (de_var (i := 4) rfl (.inl rfl)) de_int) da_nil)) da_nil))))))))
 (dss_cons (ds_ret (de_fn (fn__law_choice W) hr rfl (da_cons (de_var (i := 0) rfl (.inl rfl)) (da_cons (de_var (i := 5) rfl (.inl rfl)) da_nil))))
 dss_nil))))))
theorem fn__law_bent (W : W0 K mg base tb) : Fn P w K mg base (TT w mg tb) 3 "_law_bent" ["_law_source_here", "_law_text"] F__law_bent := by
  obtain ⟨fd, hF0⟩ := W.def_ 19 (d := d__law_bent)
  exact fn_mk 2 ["_law_source_here", "_law_text", "_law_signs", "_law_at", "_law_lines", "_law_some"] m__law_bent hF0 sc__law_bent (W.glo 43) (hF0.bindsN fun _ _ _ _ _ _ us hl => match us, hl with | [_, _], _ => rfl) (fun cdv A outer s G hr => body__law_bent W hr) rfl rfl
theorem hnd1__law_tried : ∀ (a : Addr) (v : Int) (ρ : Env_) (st : Store), ρ.length = 3 → wipeS 2 (quietS ((fun (a : Addr) (v : Int) => (sSeq (sAsg 1 (eFldA 2 a v)) sNext) : Addr → Int → SM) a v (ρ.set 2 (some (.adr a))) st)) = wipeS 2 (quietS ((fun (v : Int) => (sSeq (sAsg 1 (eC (.int v))) sNext) : Int → SM) v (ρ.set 2 none) st)) := by
  intro a v ρ st hl
  match ρ, hl with
  | [_, _, _], _ => simp [sSeq, sAsg, sRet, sNext, eFldA, eC, RS.ofE, RS.then, quietS, wipeS, frz, plain]
theorem sc__law_tried : FnScope ["_law_value", "_law_found", "e"] ["_law_value"] (defScope s__law_tried) := ⟨rfl, rfl, rfl, by decide +kernel, rfl, by decide +kernel, by decide +kernel⟩
theorem body__law_tried (W : W0 K mg base tb) {f : Addr} {cdv : Value} {A : Around} {outer : List Env} {s : Shared} {G : Gh} (hr : Room 5 (A.deeper (envOfC "_law_tried" (defScope s__law_tried) s.heap.objs.size f cdv))) :
    DSs (BX P w K mg base ["_law_value", "_law_found", "e"] "_law_tried" (defScope s__law_tried) f cdv A outer s G.H) ⟨TT w mg tb, G, true, s.toks⟩ (defBody s__law_tried) m__law_tried :=
  (dss_cons (ds_set (i := 1) sc__law_tried.nd rfl (.inl rfl) de_non)
 (dss_cons (ds_tryA (es := ["InvalidFacts", "InvalidText"]) rfl rfl (dss_cons (ds_set (i := 1) sc__law_tried.nd rfl (.inl rfl) (de_fn (fn_read_facts W) hr rfl (da_cons (de_var (i := 0) rfl (.inl rfl)) da_nil)))
 dss_nil) (HdsA.as_ (i := 2) (kn := fun a v => (sSeq (sAsg 1 (eFldA 2 a v)) sNext)) (k := fun v => (sSeq (sAsg 1 (eC (.int v))) sNext)) ⟨W.glo 18, (cm_cons (W.glo 6) (W.exm 22) (cm_cons (W.glo 18) (W.exm 21) cm_nil))⟩ rfl (by decide) sc__law_tried.nd rfl rfl (by decide) (by decide) (num_InvalidText W) (fun _ _ => rfl) (fun _ _ _ _ _ hE => (dss_cons (ds_set (i := 1) sc__law_tried.nd rfl (.inl rfl) (hE _ _))
 dss_nil)) hnd1__law_tried HdsA.nil))
 (dss_cons (ds_ret (de_var (i := 1) rfl (.inl rfl)))
 dss_nil)))
theorem fn__law_tried (W : W0 K mg base tb) : Fn P w K mg base (TT w mg tb) 6 "_law_tried" ["_law_value"] F__law_tried := by
  obtain ⟨fd, hF0⟩ := W.def_ 20 (d := d__law_tried)
  exact fn_mk 5 ["_law_value", "_law_found", "e"] m__law_tried hF0 sc__law_tried (W.glo 44) (hF0.bindsN fun _ _ _ _ _ _ us hl => match us, hl with | [_], _ => rfl) (fun cdv A outer s G hr => body__law_tried W hr) rfl rfl
theorem sc__law_fact_of : FnScope ["_law_line_here", "_law_words", "_law_known", "_law_fact", "_law_number", "_law_word_here"] ["_law_line_here"] (defScope s__law_fact_of) := ⟨rfl, rfl, rfl, by decide +kernel, rfl, by decide +kernel, by decide +kernel⟩
theorem body__law_fact_of (W : W0 K mg base tb) {f : Addr} {cdv : Value} {A : Around} {outer : List Env} {s : Shared} {G : Gh} (hr : Room 3 (A.deeper (envOfC "_law_fact_of" (defScope s__law_fact_of) s.heap.objs.size f cdv))) :
    DSs (BX P w K mg base ["_law_line_here", "_law_words", "_law_known", "_law_fact", "_law_number", "_law_word_here"] "_law_fact_of" (defScope s__law_fact_of) f cdv A outer s G.H) ⟨TT w mg tb, G, true, s.toks⟩ (defBody s__law_fact_of) m__law_fact_of :=
  (dss_cons (ds_set (i := 1) sc__law_fact_of.nd rfl (.inl rfl) (de_m1 F.slot_str_split F.type_str_split m_split (de_var (i := 0) rfl (.inl rfl)) (da_cons (de_str rfl) da_nil)))
 (dss_cons (ds_if (DW.dt (dw_and (dt_cmp (op_in hr.units).1 (de_idx (fun _ _ => rfl) (de_var (i := 1) rfl (.inl rfl)) de_int) (de_lst (da_cons (de_str rfl) (da_cons (de_str rfl) da_nil)))) (dw_and1 (dt_cmp (op_eq hr.units) (de_callB (c_len) rfl (W.free 0) bb_len (da_cons (de_var (i := 1) rfl (.inl rfl)) da_nil)) de_int)))) (dss_cons (ds_set (i := 2) sc__law_fact_of.nd rfl (.inl rfl) (de_callT (c_dict rfl rfl) rfl (W.free 23) bb_dict (da_cons (de_comp (own := [("_law_number", 4)]) rfl sc__law_fact_of.nd (di_rng1 rfl (W.free 2) (da_cons de_int da_nil)) (blkOk_by (show blkC ["_law_line_here", "_law_words", "_law_known", "_law_fact", "_law_number", "_law_word_here"] (defScope s__law_fact_of) _ _ = true from by decide +kernel)) (owns_name) (fun _ _ _ _ _ => (dg_name (i := 4) sc__law_fact_of.nd rfl (.inl rfl))) (fun _ _ _ _ _ => dts_nil) (fun _ _ _ _ _ => (de_tup (da_cons (de_callT (c_str) rfl (W.free 5) bb_str (da_cons (de_var (i := 4) rfl (.inl rfl)) da_nil)) (da_cons (de_var (i := 4) rfl (.inl rfl)) da_nil))))) da_nil)))
 (dss_cons (ds_ret (de_if (dt_cmp (op_inD rfl) (de_idx (fun _ _ => rfl) (de_var (i := 1) rfl (.inl rfl)) de_int) (de_var (i := 2) rfl (.inl rfl))) (de_tup (da_cons (de_idx (fun _ _ => rfl) (de_var (i := 1) rfl (.inl rfl)) de_int) (da_cons (de_getD rfl (fun _ _ => rfl) (de_var (i := 2) rfl (.inl rfl)) (de_idx (fun _ _ => rfl) (de_var (i := 1) rfl (.inl rfl)) de_int)) da_nil))) de_non))
 dss_nil)) dss_nil)
 (dss_cons (ds_if (dt_cmp (op_in hr.units).1 (de_str rfl) (de_var (i := 1) rfl (.inl rfl))) (dss_cons (ds_ret de_non)
 dss_nil) dss_nil)
 (dss_cons (ds_set (i := 3) sc__law_fact_of.nd rfl (.inl rfl) (de_op op_add (de_tup (da_cons (de_idx (fun _ _ => rfl) (de_var (i := 1) rfl (.inl rfl)) de_int) da_nil)) (de_callT (c_tuple) rfl (W.free 9) bb_tuple (da_cons (de_comp (own := [("_law_word_here", 5)]) rfl sc__law_fact_of.nd (di_val (de_slice (de_var (i := 1) rfl (.inl rfl)) (do_some de_int) do_none)) (blkOk_by (show blkC ["_law_line_here", "_law_words", "_law_known", "_law_fact", "_law_number", "_law_word_here"] (defScope s__law_fact_of) _ _ = true from by decide +kernel)) (owns_name) (fun _ _ _ _ _ => (dg_name (i := 5) sc__law_fact_of.nd rfl (.inl rfl))) (fun _ _ _ _ _ => dts_nil) (fun _ _ _ _ _ => (de_if (dt_cmp (op_eq hr.units) (de_var (i := 5) rfl (.inl rfl)) (de_str rfl)) (de_str rfl) (de_var (i := 5) rfl (.inl rfl))))) da_nil))))
 (dss_cons (ds_ret (de_if (dt_val (de_fn (fn_is_fact W) hr rfl (da_cons (de_var (i := 3) rfl (.inl rfl)) da_nil)) (by intro _; rfl)) (de_var (i := 3) rfl (.inl rfl)) de_non))
 dss_nil)))))
theorem fn__law_fact_of (W : W0 K mg base tb) : Fn P w K mg base (TT w mg tb) 4 "_law_fact_of" ["_law_line_here"] F__law_fact_of := by
  obtain ⟨fd, hF0⟩ := W.def_ 21 (d := d__law_fact_of)
  exact fn_mk 3 ["_law_line_here", "_law_words", "_law_known", "_law_fact", "_law_number", "_law_word_here"] m__law_fact_of hF0 sc__law_fact_of (W.glo 45) (hF0.bindsN fun _ _ _ _ _ _ us hl => match us, hl with | [_], _ => rfl) (fun cdv A outer s G hr => body__law_fact_of W hr) rfl rfl
theorem sc_is_facts : FnScope ["value"] ["value"] (defScope s_is_facts) := ⟨rfl, rfl, rfl, by decide +kernel, rfl, by decide +kernel, by decide +kernel⟩
theorem body_is_facts (W : W0 K mg base tb) {f : Addr} {cdv : Value} {A : Around} {outer : List Env} {s : Shared} {G : Gh} (hr : Room 4 (A.deeper (envOfC "is_facts" (defScope s_is_facts) s.heap.objs.size f cdv))) :
    DSs (BX P w K mg base ["value"] "is_facts" (defScope s_is_facts) f cdv A outer s G.H) ⟨TT w mg tb, G, true, s.toks⟩ (defBody s_is_facts) m_is_facts :=
  (dss_cons (ds_ret (de_fn (fn_has_facts W) hr rfl (da_cons (de_var (i := 0) rfl (.inl rfl)) da_nil)))
 dss_nil)
theorem fn_is_facts (W : W0 K mg base tb) : Fn P w K mg base (TT w mg tb) 5 "is_facts" ["value"] F_is_facts := by
  obtain ⟨fd, hF0⟩ := W.def_ 22 (d := d_is_facts)
  exact fn_mk 4 ["value"] m_is_facts hF0 sc_is_facts (W.glo 46) (hF0.bindsN fun _ _ _ _ _ _ us hl => match us, hl with | [_], _ => rfl) (fun cdv A outer s G hr => body_is_facts W hr) rfl rfl
theorem sc__law_due : FnScope ["_law_text", "_law_rows", "_law_line_here"] ["_law_text"] (defScope s__law_due) := ⟨rfl, rfl, rfl, by decide +kernel, rfl, by decide +kernel, by decide +kernel⟩
theorem body__law_due (W : W0 K mg base tb) {f : Addr} {cdv : Value} {A : Around} {outer : List Env} {s : Shared} {G : Gh} (hr : Room 5 (A.deeper (envOfC "_law_due" (defScope s__law_due) s.heap.objs.size f cdv))) :
    DSs (BX P w K mg base ["_law_text", "_law_rows", "_law_line_here"] "_law_due" (defScope s__law_due) f cdv A outer s G.H) ⟨TT w mg tb, G, true, s.toks⟩ (defBody s__law_due) m__law_due :=
  (dss_cons (ds_setComp (i := 1) (by rfl) rfl sc__law_due.nd rfl rfl (own := [("_law_line_here", 2)]) (di_val (de_m1 F.slot_str_split F.type_str_split m_split (de_var (i := 0) rfl (.inl rfl)) (da_cons (de_str rfl) da_nil))) (blkOk_by (show blkC ["_law_text", "_law_rows", "_law_line_here"] (defScope s__law_due) _ _ = true from by decide +kernel)) (owns_name) (fun _ _ _ _ _ => (dg_name (i := 2) sc__law_due.nd rfl (.inl rfl))) (fun _ _ _ _ _ => dts_nil) (fun _ _ _ _ _ => (de_fn (fn__law_fact_of W) hr rfl (da_cons (de_var (i := 2) rfl (.inl rfl)) da_nil))))
 (dss_cons (ds_if (dt_cmp (op_in hr.units).1 de_non (de_var (i := 1) rfl (.inl rfl))) (dss_cons (ds_ret (de_op op_add (de_ml1 F.slot_list_index F.type_list_index (m_indexE hr.units) (de_var (i := 1) rfl (.inl rfl)) (da_cons de_non da_nil)) de_int))
 dss_nil) dss_nil)
 (dss_cons (ds_ret (de_if (dt_val (de_fn (fn_is_facts W) hr rfl (da_cons (de_callT (c_tuple) rfl (W.free 9) bb_tuple (da_cons (de_var (i := 1) rfl (.inl rfl)) da_nil)) da_nil)) (by intro _; rfl)) (de_callT (c_tuple) rfl (W.free 9) bb_tuple (da_cons (de_var (i := 1) rfl (.inl rfl)) da_nil)) (de_op op_add (de_callB (c_len) rfl (W.free 0) bb_len (da_cons (de_var (i := 1) rfl (.inl rfl)) da_nil)) de_int)))
 dss_nil)))
theorem fn__law_due (W : W0 K mg base tb) : Fn P w K mg base (TT w mg tb) 6 "_law_due" ["_law_text"] F__law_due := by
  obtain ⟨fd, hF0⟩ := W.def_ 23 (d := d__law_due)
  exact fn_mk 5 ["_law_text", "_law_rows", "_law_line_here"] m__law_due hF0 sc__law_due (W.glo 47) (hF0.bindsN fun _ _ _ _ _ _ us hl => match us, hl with | [_], _ => rfl) (fun cdv A outer s G hr => body__law_due W hr) rfl rfl
theorem sc_law : FnScope ["_law_script", "_law_k", "_law_source_here", "_law_facts_here", "_law_first", "_law_text", "_law_turn", "_law_odd", "_law_good", "_law_rows", "_law_due_here", "_law_fact"] ["_law_script"] (defScope s_law) := ⟨rfl, rfl, rfl, by decide +kernel, rfl, by decide +kernel, by decide +kernel⟩
theorem body_law (W : W0 K mg base tb) {f : Addr} {cdv : Value} {A : Around} {outer : List Env} {s : Shared} {G : Gh} (hr : Room 6 (A.deeper (envOfC "law" (defScope s_law) s.heap.objs.size f cdv))) :
    DSs (BX P w K mg base ["_law_script", "_law_k", "_law_source_here", "_law_facts_here", "_law_first", "_law_text", "_law_turn", "_law_odd", "_law_good", "_law_rows", "_law_due_here", "_law_fact"] "law" (defScope s_law) f cdv A outer s G.H) ⟨TT w mg tb, G, true, s.toks⟩ (defBody s_law) m_law :=
  (dss_cons (ds_for rfl rfl rfl (di_rng1 rfl (W.free 2) (da_cons (de_op op_add de_int (de_callB (c_min2 rfl) rfl (W.free 1) bb_min (da_cons (de_callB (c_len) rfl (W.free 0) bb_len (da_cons (de_var (i := 0) rfl (.inl rfl)) da_nil)) (da_cons de_int da_nil)))) da_nil)) (dg_name (i := 1) sc_law.nd rfl (.inl rfl)) (dss_cons (ds_setC (i := 2) sc_law.nd rfl (.inl rfl) (de_fn (fn__law_source W) hr rfl (da_cons (de_var (i := 0) rfl (.inl rfl)) (da_cons (de_var (i := 1) rfl (.inl rfl)) da_nil))))
 (dss_cons (ds_set (i := 3) sc_law.nd rfl (.inl rfl) (de_fn (fn__law_facts W) hr rfl (da_cons (de_var (i := 2) rfl (.inl rfl)) (da_cons de_int da_nil))))
 (dss_cons (ds_set (i := 4) sc_law.nd rfl (.inl rfl) (de_m1 F.slot_str_join F.type_str_join m_join (de_str rfl) (da_cons (de_comp (own := [("_law_fact", 11)]) rfl sc_law.nd (di_val (de_var (i := 3) rfl (.inl rfl))) (blkOk_by (show blkC ["_law_script", "_law_k", "_law_source_here", "_law_facts_here", "_law_first", "_law_text", "_law_turn", "_law_odd", "_law_good", "_law_rows", "_law_due_here", "_law_fact"] (defScope s_law) _ _ = true from by decide +kernel)) (owns_name) (fun _ _ _ _ _ => (dg_name (i := 11) sc_law.nd rfl (.inl rfl))) (fun _ _ _ _ _ => dts_nil) (fun _ _ _ _ _ => (de_fn (fn__law_line W) hr rfl (da_cons (de_var (i := 11) rfl (.inl rfl)) da_nil)))) da_nil)))
 (dss_cons (ds_if (DW.dt (dw_or (dt_cmp (op_ne hr.units) (de_fn (fn_facts_text W) hr rfl (da_cons (de_var (i := 3) rfl (.inl rfl)) da_nil)) (de_var (i := 4) rfl (.inl rfl))) (dw_or1 (dt_cmp (op_ne hr.units) (de_fn (fn_read_facts W) hr rfl (da_cons (de_var (i := 4) rfl (.inl rfl)) da_nil)) (de_var (i := 3) rfl (.inl rfl)))))) (dss_cons (ds_ret de_bl)
 dss_nil) dss_nil)
 (dss_cons (ds_set (i := 5) sc_law.nd rfl (.inl rfl) (de_var (i := 4) rfl (.inl rfl)))
 (dss_cons (ds_for rfl rfl rfl (di_rng1 rfl (W.free 2) (da_cons de_int da_nil)) (dg_name (i := 6) sc_law.nd rfl (.inl rfl)) (dss_cons (ds_set (i := 5) sc_law.nd rfl (.inl rfl) (de_slice (de_fn (fn__law_bent W) hr rfl (da_cons (de_var (i := 2) rfl (.inl rfl)) (da_cons (de_if (dt_cmp (op_eq hr.units) (de_op op_mod (de_var (i := 6) rfl (.inl rfl)) de_int) de_int) (de_var (i := 4) rfl (.inl rfl)) (de_var (i := 5) rfl (.inl rfl))) da_nil))) do_none (do_some de_int)))
 (dss_cons (ds_if (dt_cmp (op_ne hr.units) (de_fn (fn__law_tried W) hr rfl (da_cons (de_var (i := 5) rfl (.inl rfl)) da_nil)) (de_fn (fn__law_due W) hr rfl (da_cons (de_var (i := 5) rfl (.inl rfl)) da_nil))) (dss_cons (ds_ret de_bl)
 dss_nil) dss_nil)
 dss_nil)))
 (dss_cons (ds_for rfl rfl rfl (di_val (de_lst (da_cons de_non (da_cons de_int (da_cons (de_tup (da_cons (de_var (i := 5) rfl (.inl rfl)) da_nil)) (da_cons (de_lst (da_cons (de_var (i := 5) rfl (.inl rfl)) da_nil)) (da_cons de_bl (da_cons (de_var (i := 3) rfl (.inl rfl)) da_nil)))))))) (dg_name (i := 7) sc_law.nd rfl (.inl rfl)) (dss_cons (ds_if (dt_cmp (op_ne hr.units) (de_fn (fn__law_tried W) hr rfl (da_cons (de_var (i := 7) rfl (.inl rfl)) da_nil)) de_int) (dss_cons (ds_ret de_bl)
 dss_nil) dss_nil)
 dss_nil))
 dss_nil))))))))
 (dss_cons (ds_set (i := 8) sc_law.nd rfl (.inl rfl) (de_str rfl))
 (dss_cons (ds_set (i := 9) sc_law.nd rfl (.inl rfl) (de_lst (da_cons (de_str rfl) (da_cons (de_var (i := 8) rfl (.inl rfl)) (da_cons (de_op op_add (de_var (i := 8) rfl (.inl rfl)) (de_str rfl)) (da_cons (de_op op_add (de_var (i := 8) rfl (.inl rfl)) (de_str rfl)) (da_cons (de_str rfl) (da_cons (de_str rfl) (da_cons (de_str rfl) (da_cons (de_str rfl) da_nil))))))))))
 (dss_cons (ds_set (i := 9) sc_law.nd rfl (.inl rfl) (de_op op_add (de_var (i := 9) rfl (.inl rfl)) (de_lst (da_cons (de_str rfl) (da_cons (de_str rfl) da_nil)))))
 (dss_cons (ds_set (i := 9) sc_law.nd rfl (.inl rfl) (de_op op_add (de_var (i := 9) rfl (.inl rfl)) (de_lst (da_cons (de_str rfl) (da_cons (de_str rfl) (da_cons (de_op op_add (de_var (i := 8) rfl (.inl rfl)) (de_str rfl)) (da_cons (de_m1 F.slot_str_join F.type_str_join m_join (de_str rfl) (da_cons (de_op op_mul (de_lst (da_cons (de_var (i := 8) rfl (.inl rfl)) da_nil)) de_int) da_nil)) (da_cons (de_str rfl) (da_cons (de_str rfl) (da_cons (de_op op_add (de_var (i := 8) rfl (.inl rfl)) (de_str rfl)) da_nil))))))))))
 (dss_cons (ds_set (i := 10) sc_law.nd rfl (.inl rfl) (de_lst (da_cons de_int (da_cons (de_tup (da_cons (de_tup (da_cons (de_str rfl) (da_cons (de_str rfl) (da_cons (de_str rfl) da_nil)))) da_nil)) (da_cons (de_tup (da_cons (de_tup (da_cons (de_str rfl) (da_cons (de_str rfl) (da_cons (de_str rfl) da_nil)))) (da_cons (de_tup (da_cons (de_str rfl) (da_cons de_int da_nil))) da_nil))) (da_cons de_int (da_cons (de_tup (da_cons (de_tup (da_cons (de_str rfl) (da_cons (de_str rfl) (da_cons (de_str rfl) da_nil)))) da_nil)) (da_cons de_int (da_cons de_int (da_cons de_int (da_cons de_int (da_cons de_int da_nil))))))))))))
 (dss_cons (ds_set (i := 10) sc_law.nd rfl (.inl rfl) (de_op op_add (de_var (i := 10) rfl (.inl rfl)) (de_lst (da_cons de_int (da_cons de_int (da_cons de_int (da_cons de_int (da_cons (de_tup (da_cons (de_tup (da_cons (de_str rfl) (da_cons (de_str rfl) (da_cons (de_str rfl) da_nil)))) da_nil)) (da_cons de_int (da_cons de_int da_nil))))))))))
 (dss_cons (ds_if (dt_cmp (op_ne hr.units) (de_comp (own := [("_law_text", 5)]) rfl sc_law.nd (di_val (de_var (i := 9) rfl (.inl rfl))) (blkOk_by (show blkC ["_law_script", "_law_k", "_law_source_here", "_law_facts_here", "_law_first", "_law_text", "_law_turn", "_law_odd", "_law_good", "_law_rows", "_law_due_here", "_law_fact"] (defScope s_law) _ _ = true from by decide +kernel)) (owns_name) (fun _ _ _ _ _ => (dg_name (i := 5) sc_law.nd rfl (.inl rfl))) (fun _ _ _ _ _ => dts_nil) (fun _ _ _ _ _ => (de_fn (fn__law_tried W) hr rfl (da_cons (de_var (i := 5) rfl (.inl rfl)) da_nil)))) (de_var (i := 10) rfl (.inl rfl))) (dss_cons (ds_ret de_bl)
 dss_nil) dss_nil)
 (dss_cons (ds_ret (de_cmp (op_eq hr.units) (de_fn (fn_facts_text W) hr rfl (da_cons (de_tup (da_cons (de_tup (da_cons (de_str rfl) (da_cons (de_str rfl) (da_cons (de_str rfl) da_nil)))) (da_cons (de_tup (da_cons (de_str rfl) (da_cons de_int da_nil))) (da_cons (de_tup (da_cons (de_str rfl) (da_cons (de_str rfl) da_nil))) da_nil)))) da_nil)) (de_str rfl)))
 dss_nil)))))))))
theorem fn_law (W : W0 K mg base tb) : Fn P w K mg base (TT w mg tb) 7 "law" ["_law_script"] F_law := by
  obtain ⟨fd, hF0⟩ := W.def_ 24 (d := d_law)
  exact fn_mk 6 ["_law_script", "_law_k", "_law_source_here", "_law_facts_here", "_law_first", "_law_text", "_law_turn", "_law_odd", "_law_good", "_law_rows", "_law_due_here", "_law_fact"] m_law hF0 sc_law (W.glo 48) (hF0.bindsN fun _ _ _ _ _ _ us hl => match us, hl with | [_], _ => rfl) (fun cdv A outer s G hr => body_law W hr) rfl rfl
end
end DL.K11
set_option linter.all false
set_option maxRecDepth 100000
set_option maxHeartbeats 0
namespace DL.K11
open PySem PySem.Spec PyProof.Rows L2 DL DL.SH
abbrev R : PySem.W.OpenRow := PySem.W.OpenLaw.row PySem.Challenge.rw_onestamp_k11_texts_of_facts
abbrev hk : PySem.W.Hook := hookT 4 fa fn ts T0 (tl.map (·.1)) xk
def ob (s : PySem.W.SharedT) : AlT := obsT 4 fa fn ts T0 (tl.map (·.1)) xk (HandSHeadRun.getT s) s.toks
theorem ob_eq (s : PySem.W.SharedT) : ob s = hk.obs s.abs := obsT_eq (s := s.abs) (HandSHeadRun.getT_eq s)
def loose : List Str := "StampError" :: "InvalidFacts" :: "InvalidText" :: "LETTERS" :: "MARK" :: "MOST_SIGNS" :: "MOST_WORD" :: "MOST_BOUND" :: "MOST_FACTS" :: "is_from" :: "is_string" :: "is_template" :: "is_fact" :: "has_facts" :: "is_facts" :: "need_facts" :: "item_word" :: "facts_lines" :: "facts_text" :: "read_line" :: "read_facts" :: "_law_source" :: "_law_draw" :: "_law_choice" :: "_law_word" :: "_law_template" :: "_law_same" :: "_law_facts" :: "_law_line" :: "_law_fact_of" :: "_law_due" :: "_law_bent" :: "_law_tried" :: []
theorem run (w : World) : HandSHeadRun.RunEq R (PySem.W.view R.prog [37]) hk ob 3200 loose w := by
  intro os
  kernel_rfl
end DL.K11
open PySem PySem.W PySem.Calls PyProof.Rows DL.K11 in
theorem DL.K11.row_holds (hF : ∀ ns : List Int, ns.length ≤ 63 → ∃ st, F_law [.scr ns] DL.K11.st0 = .ok (.bl true) st) : PySem.Challenge.rw_onestamp_k11_texts_of_facts.Holds := by
  w_on; o_law
  refine DL.head_anyX (r := OpenLaw.row PySem.Challenge.rw_onestamp_k11_texts_of_facts) (q := view (OpenLaw.row PySem.Challenge.rw_onestamp_k11_texts_of_facts).prog [37]) (H := hk) (ob := ob) (M := 3200) (loose := loose) (d := HandSHeadRun.topDef (OpenLaw.row PySem.Challenge.rw_onestamp_k11_texts_of_facts).prog 37) (kwd := []) ob_eq
    (by kernel_rfl) (fun s => by kernel_rfl) run (by kernel_rfl) (by kernel_rfl) (by kernel_rfl) (by rfl) (by first | assumption | decide +kernel) (by decide +kernel) ⟨rfl, rfl, rfl, rfl, rfl, by decide +kernel⟩ ?hw ?hc
  case hw => w_witness2
  case hc =>
    refine DL.walk_ofX (l := PySem.Challenge.rw_onestamp_k11_texts_of_facts) (n := 63) (k := 7) (x := "_law_script") (m := 4) (tl := tl) (xk := xk) (F := F_law) rfl (by decide) (by kernel_rfl) ⟨rfl, by decide, by decide⟩ (by decide) (by kernel_rfl) (fun w mg f h K X G hmg0 c => ?_) hF
    have hmg : mg ("law" : PySem.Str) = some (.ref f) := by
      have e : (HandSHeadRun.topDef (OpenLaw.row PySem.Challenge.rw_onestamp_k11_texts_of_facts).prog 37).name = ("law" : PySem.Str) := by kernel_rfl
      rw [← e]
      exact hmg0
    obtain ⟨fd, hF0⟩ := c.1.def_ 24 (d := d_law)
    have eg := hmg.symm.trans (He.glo_ok X G (c.1.fact 48 (f := .glo "law")))
    cases eg
    refine ⟨fd, fun s v => hF0.bindsA (ps := ["_law_script"]) (fun _ _ _ _ _ _ us hl => match us, hl with | [_], _ => rfl) s [v] rfl, fun base tb X' G' tabs => ?_⟩
    exact DL.fnd_makeC (k := 6) (N := ["_law_script", "_law_k", "_law_source_here", "_law_facts_here", "_law_first", "_law_text", "_law_turn", "_law_odd", "_law_good", "_law_rows", "_law_due_here", "_law_fact"]) (m := m_law) hF0 sc_law fun cdv A outer s G hc hr => body_law ⟨c, X', G', tabs⟩ hr
theorem PySem.Challenge.cw_onestamp_k11_texts_of_facts_holds : PySem.Challenge.rw_onestamp_k11_texts_of_facts.Holds :=
  DL.K11.row_holds DL.K11.law_true
