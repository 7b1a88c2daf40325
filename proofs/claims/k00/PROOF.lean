import PyProof.Rows.All
import Wide.All
import OpenK.AllK
import Wide.FinOn
import HandS.ForMost
import HandS.ForExc
import HandS.IsInst
import HandS.Gcd
import HandS.Wide
import HandS.TupAny
import HandS.TupMul
import HandS.Deep
import HandS.TupLen
import HandS.Zip
import HandS.Style
import HandS.DictComp
import HandS.Lambda
import HandS.SortKw
import HandS.EndTab
import KE.KMathGC
import KE.GoesEnum
import KE.KDictKeyed
import HandS.DictTup
import HandS.TupLe
import KE.DataEq
import KE.KDictList
import KE.SortKeyHeap
import KE.KTupSum
import KE.KSortKey
import KE.DataMinMax
import HandS.Strs
import HandS.SetBool
import HandS.TupSets
import HandS.SetFor
import KE.SortCalls
import KE.SortData
import PyProof.Rows.SortWalk
import HandS.ExcOwn
import HandS.TryOnly
import PySem.Challenge.RW_idealcore_k00_numbers
/-! the defs that hold a lambda -/
namespace L2.PyD
def lamDefs : List PySem.Str := ["_law_refused"]
end L2.PyD
set_option Elab.async false
set_option linter.all false
set_option maxRecDepth 100000
set_option maxHeartbeats 8000000
/-! PyD, part 1: data without a heap (D), cells that change, and how both lie in the layer's heap. -/
namespace L2.PyD
open PySem PySem.Spec PyProof.Rows

/-- a value: data that never changes, or the number of a cell that may -/
inductive D where
  | non | bl (b : Bool) | int (i : Int) | str (s : Str)
  | tup (ds : List D) | lst (ds : List D) | frl (ds : List D)
  | cell (n : Nat) | ty (n : String)

/-- what a cell holds: a list that may change; a dict with keys that are tuples of ints (lk: a loop walks it) -/
inductive Cell where
  | lst (ds : List D)
  | dct (lk : Bool) (kvs : List (List Int × D))
/-- a loop walks it: it is not written -/
def Cell.lkd : Cell → Bool
  | .lst _ => false
  | .dct lk _ => lk

abbrev Store := List Cell
abbrev Env := List (Option D)

/-- a list that no one writes: the script, a list of the written part -/
def FixL (K : PySem.W.Frag) (as : List Addr) (H : Hp) (p : Addr) (xs : List V) : Prop :=
  (∃ o, H p = some (.frz o (.lst xs))) ∨ (∀ H', SqL K H' p xs) ∨ (H p = some (.lst xs) ∧ p ∉ as)

mutual
/-- how data stands for a value of the layer; as: the cells' addresses -/
inductive Rp (K : PySem.W.Frag) (as : List Addr) (H : Hp) : V → D → Prop
  | non : Rp K as H .non .non
  | bl (b : Bool) : Rp K as H (.bl b) (.bl b)
  | int (i : Int) : Rp K as H (.int i) (.int i)
  | str (s : Str) : Rp K as H (.str s) (.str s)
  | ty (n : String) : Rp K as H (.ty n) (.ty n)
  | tup {p : Addr} {xs : List V} {ds : List D} : SqT K H p xs → xs.length ≤ sizeLine → RpL K as H xs ds → Rp K as H (.ref p) (.tup ds)
  | lst {p : Addr} {xs : List V} {ds : List D} : H p = some (.lst xs) → p ∉ as → xs.length ≤ sizeLine → RpL K as H xs ds → Rp K as H (.ref p) (.lst ds)
  | frl {p : Addr} {xs : List V} {ds : List D} : FixL K as H p xs → xs.length ≤ sizeLine → RpL K as H xs ds → Rp K as H (.ref p) (.frl ds)
  | cell {i : Nat} {p : Addr} : as[i]? = some p → Rp K as H (.ref p) (.cell i)
inductive RpL (K : PySem.W.Frag) (as : List Addr) (H : Hp) : List V → List D → Prop
  | nil : RpL K as H [] []
  | cons {v : V} {vs : List V} {d : D} {ds : List D} : Rp K as H v d → RpL K as H vs ds → RpL K as H (v :: vs) (d :: ds)
end

/-- what no one writes -/
def Fix : HO → Prop
  | .tup _ => True
  | .frz _ _ => True
  | _ => False

/-- the tables of code objects that defs with lambdas write -/
def tabT (K : PySem.W.Frag) : List (Addr × Str) := lamDefs.filterMap fun x => (PySem.W.tabIn K x).map fun cp => (cp.2, x ++ (".<locals>." : Str) ++ ("<lambda>" : Str))
/-- the heap goes on: cells may change, new ones may come, all else stays -/
structure Ext (as : List Addr) (H : Hp) (as' : List Addr) (H' : Hp) : Prop where
  pre : ∃ bs, as' = as ++ bs
  keep : ∀ p o, H p = some o → (p ∉ as ∨ Fix o) → (∀ ps, o ≠ .tbl ps) → H' p = some o
  new : ∀ p o, H p = some o → (∀ ps, o ≠ .tbl ps) → p ∉ as → p ∉ as'

theorem Ext.refl (as : List Addr) (H : Hp) : Ext as H as H := ⟨⟨[], by simp⟩, fun _ _ h _ _ => h, fun _ _ _ _ h => h⟩
theorem Ext.trans {as as1 as2 : List Addr} {H H1 H2 : Hp} (a : Ext as H as1 H1) (b : Ext as1 H1 as2 H2) : Ext as H as2 H2 := by
  obtain ⟨bs, e1⟩ := a.pre
  obtain ⟨cs, e2⟩ := b.pre
  refine ⟨⟨bs ++ cs, by rw [e2, e1, List.append_assoc]⟩, fun p o h c n => ?_, fun p o h n c => b.new p o (a.keep p o h (.inl c) n) n (a.new p o h n c)⟩
  refine b.keep p o (a.keep p o h c n) ?_ n
  rcases c with c | c
  · exact .inl (a.new p o h n c)
  · exact .inr c
theorem Ext.get {as as' : List Addr} {H H' : Hp} (x : Ext as H as' H') {i : Nat} {p : Addr} (h : as[i]? = some p) : as'[i]? = some p := by
  obtain ⟨bs, rfl⟩ := x.pre
  rw [List.getElem?_append_left (List.getElem?_eq_some_iff.mp h).1, h]

theorem Rd.ext {as as' : List Addr} {H H' : Hp} {p : Addr} {u : HO} (x : Ext as H as' H') (h : Rd H p u) (c : p ∉ as ∨ Fix u) (n : ∀ ps, u ≠ .tbl ps) : Rd H' p u := by
  rcases h with h | ⟨o, h⟩
  · exact .inl (x.keep _ _ h c n)
  · exact .inr ⟨o, x.keep _ _ h (.inr trivial) (fun _ z => nomatch z)⟩
theorem SqT.ext {K : PySem.W.Frag} {as as' : List Addr} {H H' : Hp} {p : Addr} {xs : List V} (x : Ext as H as' H') (h : SqT K H p xs) : SqT K H' p xs := by
  rcases h with h | h
  · exact .inl (Rd.ext x h (.inr trivial) (fun _ z => nomatch z))
  · exact .inr h
theorem FixL.ext {K : PySem.W.Frag} {as as' : List Addr} {H H' : Hp} {p : Addr} {xs : List V} (x : Ext as H as' H') (h : FixL K as H p xs) : FixL K as' H' p xs := by
  rcases h with ⟨o, h⟩ | h | ⟨h, n⟩
  · exact .inl ⟨o, x.keep _ _ h (.inr trivial) (fun _ z => nomatch z)⟩
  · exact .inr (.inl h)
  · exact .inr (.inr ⟨x.keep _ _ h (.inl n) (fun _ z => nomatch z), x.new _ _ h (fun _ z => nomatch z) n⟩)
theorem FixL.seq {K : PySem.W.Frag} {as : List Addr} {H : Hp} {p : Addr} {xs : List V} (h : FixL K as H p xs) : SqL K H p xs := by
  rcases h with ⟨o, h⟩ | h | ⟨h, _⟩
  · exact .inl (.inr ⟨o, h⟩)
  · exact h H
  · exact .inl (.inl h)
theorem FixL.sub {K : PySem.W.Frag} {as as' : List Addr} {H : Hp} {p : Addr} {xs : List V} (h : FixL K as H p xs) (i : ∀ a ∈ as', a ∈ as) : FixL K as' H p xs := by
  rcases h with h | h | ⟨h, n⟩
  · exact .inl h
  · exact .inr (.inl h)
  · exact .inr (.inr ⟨h, fun m => n (i _ m)⟩)
theorem Rd.has {H : Hp} {p : Addr} {u : HO} (h : Rd H p u) : ∃ o, H p = some o := by
  rcases h with h | ⟨o, h⟩
  · exact ⟨_, h⟩
  · exact ⟨_, h⟩

mutual
theorem Rp.ext {K : PySem.W.Frag} {as as' : List Addr} {H H' : Hp} (x : Ext as H as' H') : ∀ {v : V} {d : D}, Rp K as H v d → Rp K as' H' v d
  | _, _, .non => .non
  | _, _, .bl b => .bl b
  | _, _, .int i => .int i
  | _, _, .str s => .str s
  | _, _, .ty n => .ty n
  | _, _, .tup h z r => .tup (SqT.ext x h) z (RpL.ext x r)
  | _, _, .lst h c z r => .lst (x.keep _ _ h (.inl c) (fun _ z => nomatch z)) (x.new _ _ h (fun _ z => nomatch z) c) z (RpL.ext x r)
  | _, _, .frl h z r => .frl (FixL.ext x h) z (RpL.ext x r)
  | _, _, .cell h => .cell (x.get h)
theorem RpL.ext {K : PySem.W.Frag} {as as' : List Addr} {H H' : Hp} (x : Ext as H as' H') : ∀ {vs : List V} {ds : List D}, RpL K as H vs ds → RpL K as' H' vs ds
  | _, _, .nil => .nil
  | _, _, .cons h r => .cons (Rp.ext x h) (RpL.ext x r)
end

section
variable {K : PySem.W.Frag} {as : List Addr} {H : Hp}
theorem RpL.length : ∀ {vs : List V} {ds : List D}, RpL K as H vs ds → vs.length = ds.length
  | _, _, .nil => rfl
  | _, _, .cons _ r => by rw [List.length_cons, List.length_cons, RpL.length r]
theorem RpL.get : ∀ {vs : List V} {ds : List D} {i : Nat} {d : D}, RpL K as H vs ds → ds[i]? = some d → ∃ v, vs[i]? = some v ∧ Rp K as H v d
  | _, _, _, _, .nil, e => by simp at e
  | _, _, 0, _, .cons h _, e => by simp at e; subst e; exact ⟨_, rfl, h⟩
  | _, _, i + 1, d, .cons _ r, e => by
    obtain ⟨v, h1, h2⟩ := RpL.get (i := i) (d := d) r (by simpa using e)
    exact ⟨v, by simpa using h1, h2⟩
theorem RpL.append : ∀ {vs ws : List V} {ds es : List D}, RpL K as H vs ds → RpL K as H ws es → RpL K as H (vs ++ ws) (ds ++ es)
  | _, _, _, _, .nil, s => s
  | _, _, _, _, .cons h r, s => .cons h (RpL.append r s)
theorem RpL.set {v : V} {d : D} (h : Rp K as H v d) : ∀ {vs : List V} {ds : List D} (i : Nat), RpL K as H vs ds → RpL K as H (vs.set i v) (ds.set i d)
  | _, _, _, .nil => .nil
  | _, _, 0, .cons _ r => .cons h r
  | _, _, i + 1, .cons q r => .cons q (RpL.set h i r)
theorem RpL.take : ∀ {vs : List V} {ds : List D} (n : Nat), RpL K as H vs ds → RpL K as H (vs.take n) (ds.take n)
  | _, _, 0, _ => .nil
  | _, _, _ + 1, .nil => .nil
  | _, _, n + 1, .cons h r => .cons h (RpL.take n r)
theorem RpL.drop : ∀ {vs : List V} {ds : List D} (n : Nat), RpL K as H vs ds → RpL K as H (vs.drop n) (ds.drop n)
  | _, _, 0, r => r
  | _, _, _ + 1, .nil => .nil
  | _, _, n + 1, .cons _ r => RpL.drop n r
theorem RpL.one {v : V} {d : D} (h : Rp K as H v d) : RpL K as H [v] [d] := .cons h .nil
theorem RpL.ints : ∀ ns : List Int, RpL K as H (ns.map V.int) (ns.map D.int)
  | [] => .nil
  | n :: ns => .cons (.int n) (RpL.ints ns)
end

/-! dicts: the one object is known -/
def DX (p : Addr) (o : Obj) : HO := .ext fun h => h.get? p = some o
/-- the hash of a tuple of ints -/
def hT (ks : List Int) : Int := reduceHash (Builtin.Tuple.tupleHashOf (ks.map hashInt))
/-- an entry: its key, where the key's tuple lies, its value -/
abbrev Ent := List Int × Addr × Value
def entT (x : Ent) : DictEntry := ⟨hT x.1, .ref x.2.1, x.2.2⟩
theorem entT_eq (P : Program) (w : World) : entryOfKey (tupleKind (PySem.intKind P w)) = entT := rfl
/-- a tuple of ints lies at b -/
def KeyR (K : PySem.W.Frag) (H : Hp) (b : Addr) (ks : List Int) : Prop := SqT K H b (ks.map V.int) ∧ ks.length ≤ sizeLine
def EntR (K : PySem.W.Frag) (as : List Addr) (H : Hp) : List Ent → List (List Int × D) → Prop :=
  Paired fun x kv => x.1 = kv.1 ∧ KeyR K H x.2.1 x.1 ∧ ∃ v, RelV v x.2.2 ∧ Rp K as H v kv.2
/-- the object o is the dict kvs -/
def DatR (K : PySem.W.Frag) (as : List Addr) (H : Hp) (o : Obj) (kvs : List (List Int × D)) : Prop :=
  kvs.length ≤ sizeLine ∧ o.ExactDict ∧ ∃ (es : Array DictEntry) (ep : Nat) (xs : List Ent), o.data = .dict es ep ∧ es.toList = xs.map entT ∧ (xs.map (·.1)).Nodup ∧ EntR K as H xs kvs
theorem EntR.ext {K : PySem.W.Frag} {as as' : List Addr} {H H' : Hp} (x : Ext as H as' H') : ∀ {xs : List Ent} {kvs : List (List Int × D)}, EntR K as H xs kvs → EntR K as' H' xs kvs
  | _, _, .nil => .nil
  | _, _, .cons ⟨h1, h2, v, h3, h4⟩ r => .cons ⟨h1, ⟨SqT.ext x h2.1, h2.2⟩, v, h3, Rp.ext x h4⟩ (EntR.ext x r)
theorem DatR.ext {K : PySem.W.Frag} {as as' : List Addr} {H H' : Hp} (x : Ext as H as' H') {o : Obj} {kvs : List (List Int × D)} (h : DatR K as H o kvs) : DatR K as' H' o kvs := by
  obtain ⟨z, hx, es, ep, xs, h1, h2, h3, r⟩ := h
  exact ⟨z, hx, es, ep, xs, h1, h2, h3, r.ext x⟩

/-- a cell lies at p -/
def CellR (K : PySem.W.Frag) (as : List Addr) (H : Hp) (p : Addr) : Cell → Prop
  | .lst ds => ∃ xs, H p = some (.lst xs) ∧ xs.length ≤ sizeLine ∧ RpL K as H xs ds
  | .dct false kvs => (p == sysModules) = false ∧ ∃ o, H p = some (DX p o) ∧ DatR K as H o kvs
  | .dct true kvs => (p == sysModules) = false ∧ ∃ o od, H p = some (.frz od (DX p o)) ∧ DatR K as H o kvs
/-- the cells lie apart at their addresses -/
structure StR (K : PySem.W.Frag) (as : List Addr) (H : Hp) (st : Store) : Prop where
  len : as.length = st.length
  nd : as.Nodup
  at_ : ∀ (i : Nat) (p : Addr) (c : Cell), as[i]? = some p → st[i]? = some c → CellR K as H p c
  tabs : LamX.Tabs (tabT K) H
/-- the names' values -/
structure EnvR (K : PySem.W.Frag) (as : List Addr) (H : Hp) (σ : St) (env : Env) : Prop where
  len : σ.length = env.length
  at_ : ∀ (i : Nat) (d : D), env[i]? = some (some d) → ∃ v, σ[i]? = some (some v) ∧ Rp K as H v d

theorem EnvR.ext {K : PySem.W.Frag} {as as' : List Addr} {H H' : Hp} {σ : St} {env : Env} (x : Ext as H as' H') (r : EnvR K as H σ env) : EnvR K as' H' σ env :=
  ⟨r.len, fun i d e => by obtain ⟨v, h1, h2⟩ := r.at_ i d e; exact ⟨v, h1, Rp.ext x h2⟩⟩
theorem EnvR.set {K : PySem.W.Frag} {as : List Addr} {H : Hp} {σ : St} {env : Env} {v : V} {d : D} (r : EnvR K as H σ env) (h : Rp K as H v d) (i : Nat) : EnvR K as H (σ.set i (some v)) (env.set i (some d)) := by
  refine ⟨by simp [r.len], fun j e q => ?_⟩
  by_cases hj : i = j
  · subst hj
    by_cases hl : i < env.length
    · rw [List.getElem?_set_self hl] at q
      cases q
      exact ⟨v, List.getElem?_set_self (by rw [r.len]; exact hl), h⟩
    · rw [List.getElem?_eq_none (by simpa using hl)] at q; cases q
  · rw [List.getElem?_set_ne hj] at q
    obtain ⟨w, h1, h2⟩ := r.at_ j e q
    exact ⟨w, by rw [List.getElem?_set_ne hj]; exact h1, h2⟩
theorem Paired.imp {α β : Type} {F G : α → β → Prop} : ∀ {xs : List α} {ys : List β}, Paired F xs ys → (∀ a b, F a b → G a b) → Paired G xs ys
  | _, _, .nil, _ => .nil
  | _, _, .cons h r, f => .cons (f _ _ h) (Paired.imp r f)
theorem CellR.ext {K : PySem.W.Frag} {as as' : List Addr} {H H' : Hp} {p : Addr} (x : Ext as H as' H') (e : H' p = H p) : ∀ {c : Cell}, CellR K as H p c → CellR K as' H' p c
  | .lst _, ⟨xs, h, z, r⟩ => ⟨xs, by rw [e]; exact h, z, RpL.ext x r⟩
  | .dct false _, ⟨z, o, h, r⟩ => ⟨z, o, by rw [e]; exact h, r.ext x⟩
  | .dct true _, ⟨z, o, od, h, r⟩ => ⟨z, o, od, by rw [e]; exact h, r.ext x⟩
theorem CellR.mut {K : PySem.W.Frag} {as : List Addr} {H : Hp} {p : Addr} : ∀ {c : Cell}, c.lkd = false → CellR K as H p c → ∀ o, H p = some o → ¬ Fix o
  | .lst _, _, ⟨xs, h, _⟩, o, e => fun f => by rw [h] at e; cases e; exact f
  | .dct false _, _, ⟨_, u, h, _⟩, o, e => fun f => by rw [h] at e; cases e; exact f
  | .dct true _, q, _, _, _ => nomatch q
theorem CellR.has {K : PySem.W.Frag} {as : List Addr} {H : Hp} {p : Addr} : ∀ {c : Cell}, CellR K as H p c → ∃ o, H p = some o
  | .lst _, ⟨xs, h, _⟩ => ⟨_, h⟩
  | .dct false _, ⟨_, u, h, _⟩ => ⟨_, h⟩
  | .dct true _, ⟨_, u, od, h, _⟩ => ⟨_, h⟩
/-- a dict is no code object -/
theorem DX_code {p : Addr} {o : Obj} {q : Str} (hx : ∃ es ep, o.data = .dict es ep) : LamX.CodeO p q ≠ DX p o := fun e => by
  unfold LamX.CodeO DX at e
  have e2 := HO.ext.inj e
  obtain ⟨es, ep, hd⟩ := hx
  let oc : Obj := { cls := .none, data := .fields #[.none, .str q 0] }
  let h : Heap := { objs := Array.replicate (p + 1) oc }
  have hg : h.get? p = some oc := by
    unfold Heap.get?
    have : h.objs[p]? = some oc := by simp [h]
    rw [this]
  have z : h.get? p = some o := (congrFun e2 h).mp ⟨oc, _, 0, hg, rfl, rfl⟩
  rw [hg] at z
  rw [← Option.some.inj z] at hd
  cases hd
section
variable {K : PySem.W.Frag} {as : List Addr} {H : Hp} {st : Store}
theorem tabs_new (T : LamX.Tabs (tabT K) H) {p : Addr} (o : HO) (h : H p = none) : LamX.Tabs (tabT K) (upd H p o) := T.ext fun b u e => by rw [upd_ne (ne_of_none e h)]; exact e
theorem tabs_cell (T : LamX.Tabs (tabT K) H) {p : Addr} {c : Cell} (o : HO) (h : CellR K as H p c) : LamX.Tabs (tabT K) (upd H p o) := by
  have ne : ∀ b u, H b = some u → ((∃ ps, u = .tbl ps) ∨ ∃ q, u = LamX.CodeO b q) → b ≠ p := fun b u e n z => by
    subst z
    match c, h with
    | .lst ds, ⟨xs, q, _⟩ =>
      rw [q] at e; cases e
      rcases n with ⟨ps, n⟩ | ⟨y, n⟩
      · cases n
      · unfold LamX.CodeO at n; cases n
    | .dct false kvs, ⟨_, u, q, _, _, es, ep, _, hd, _⟩ =>
      rw [q] at e; cases e
      rcases n with ⟨ps, n⟩ | ⟨y, n⟩
      · unfold DX at n; cases n
      · exact DX_code ⟨es, ep, hd⟩ n.symm
    | .dct true kvs, ⟨_, u, od, q, _⟩ =>
      rw [q] at e; cases e
      rcases n with ⟨ps, n⟩ | ⟨y, n⟩
      · cases n
      · unfold LamX.CodeO at n; cases n
  intro q hq
  obtain ⟨ps, h1, h2, h3⟩ := T q hq
  refine ⟨ps, by rw [upd_ne (ne _ _ h1 (.inl ⟨_, rfl⟩))]; exact h1, h2, fun pos cv e => ?_⟩
  obtain ⟨c', e1, e2⟩ := h3 pos cv e
  exact ⟨c', e1, by rw [upd_ne (ne _ _ e2 (.inr ⟨_, rfl⟩))]; exact e2⟩
theorem StR.cellOf (S : StR K as H st) {p : Addr} (h : p ∈ as) : ∃ c, CellR K as H p c := by
  obtain ⟨i, hi, e⟩ := List.getElem_of_mem h
  have hs : i < st.length := by rw [← S.len]; exact hi
  exact ⟨st[i], S.at_ i p st[i] (by rw [List.getElem?_eq_getElem hi, e]) (List.getElem?_eq_getElem hs)⟩
theorem StR.free (S : StR K as H st) {p : Addr} (h : H p = none) : p ∉ as := fun m => by
  obtain ⟨c, hc⟩ := S.cellOf m
  obtain ⟨o, e⟩ := hc.has
  rw [h] at e; cases e
/-- a new object that is no cell -/
theorem StR.alloc (S : StR K as H st) {p : Addr} (o : HO) (h : H p = none) : Ext as H as (upd H p o) ∧ StR K as (upd H p o) st := by
  have x : Ext as H as (upd H p o) := ⟨⟨[], by simp⟩, fun q u e _ _ => by rw [upd_ne (ne_of_none e h)]; exact e, fun _ _ _ _ c => c⟩
  refine ⟨x, S.len, S.nd, fun i q c e1 e2 => ?_, tabs_new S.tabs o h⟩
  have z := S.at_ i q c e1 e2
  obtain ⟨u, hu⟩ := z.has
  exact z.ext x (by rw [upd_ne (ne_of_none hu h)])
/-- a new object that is a cell -/
theorem StR.newCell (S : StR K as H st) {p : Addr} {o : HO} {c : Cell} (h : H p = none) (hc : Ext as H (as ++ [p]) (upd H p o) → CellR K (as ++ [p]) (upd H p o) p c) : Ext as H (as ++ [p]) (upd H p o) ∧ StR K (as ++ [p]) (upd H p o) (st ++ [c]) ∧ (as ++ [p])[st.length]? = some p := by
  have x : Ext as H (as ++ [p]) (upd H p o) := by
    refine ⟨⟨[p], rfl⟩, fun q u e _ _ => by rw [upd_ne (ne_of_none e h)]; exact e, fun q u e _ k m => ?_⟩
    rcases List.mem_append.mp m with m | m
    · exact k m
    · exact ne_of_none e h (by simpa using m)
  have l : (as ++ [p])[st.length]? = some p := by rw [← S.len, List.getElem?_append_right (Nat.le_refl _)]; simp
  refine ⟨x, ⟨by simp [S.len], ?_, fun i q c' e1 e2 => ?_, tabs_new S.tabs o h⟩, l⟩
  · rw [List.nodup_append]
    refine ⟨S.nd, by simp, fun a ha b hb e => ?_⟩
    have : b = p := by simpa using hb
    rw [e, this] at ha
    exact S.free h ha
  · by_cases hi : i < as.length
    · rw [List.getElem?_append_left hi] at e1
      rw [List.getElem?_append_left (by rw [← S.len]; exact hi)] at e2
      have z := S.at_ i q c' e1 e2
      obtain ⟨u, hu⟩ := z.has
      exact z.ext x (by rw [upd_ne (ne_of_none hu h)])
    · have hi2 : i = st.length := by
        have := (List.getElem?_eq_some_iff.mp e1).1
        simp only [List.length_append, List.length_singleton, S.len] at this
        rw [S.len] at hi
        omega
      subst hi2
      rw [l] at e1
      cases e1
      rw [List.getElem?_append_right (Nat.le_refl _)] at e2
      simp at e2
      subst e2
      exact hc x
/-- a cell changes -/
theorem StR.write (S : StR K as H st) {i : Nat} {p : Addr} {o : HO} {c : Cell} (h : as[i]? = some p) (hf : ∀ u, H p = some u → ¬ Fix u) (hc : Ext as H as (upd H p o) → CellR K as (upd H p o) p c) : Ext as H as (upd H p o) ∧ StR K as (upd H p o) (st.set i c) := by
  have hm : p ∈ as := List.mem_of_getElem? h
  have x : Ext as H as (upd H p o) := by
    refine ⟨⟨[], by simp⟩, fun q u e k _ => ?_, fun q u e _ k => k⟩
    have : q ≠ p := fun z => by
      subst z
      rcases k with k | k
      · exact k hm
      · exact hf _ e k
    rw [upd_ne this]; exact e
  obtain ⟨cc, hcc⟩ := S.cellOf hm
  refine ⟨x, by simp [S.len], S.nd, fun j q c' e1 e2 => ?_, tabs_cell S.tabs o hcc⟩
  by_cases hj : i = j
  · subst hj
    rw [h] at e1; cases e1
    have hl : i < st.length := by rw [← S.len]; exact (List.getElem?_eq_some_iff.mp h).1
    rw [List.getElem?_set_self hl] at e2
    cases e2
    exact hc x
  · rw [List.getElem?_set_ne hj] at e2
    refine (S.at_ j q c' e1 e2).ext x (upd_ne fun z => hj ?_)
    subst z
    obtain ⟨h1, g1⟩ := List.getElem?_eq_some_iff.mp h
    obtain ⟨h2, g2⟩ := List.getElem?_eq_some_iff.mp e1
    exact (List.getElem_inj S.nd).mp (g1.trans g2.symm)
theorem StR.get (S : StR K as H st) {i : Nat} {c : Cell} (h : st[i]? = some c) : ∃ p, as[i]? = some p ∧ CellR K as H p c := by
  have hl : i < as.length := by rw [S.len]; exact (List.getElem?_eq_some_iff.mp h).1
  exact ⟨as[i], List.getElem?_eq_getElem hl, S.at_ i _ c (List.getElem?_eq_getElem hl) h⟩
theorem StR.get' (S : StR K as H st) {i : Nat} {p : Addr} (h : as[i]? = some p) : ∃ c, st[i]? = some c ∧ CellR K as H p c := by
  have hl : i < st.length := by rw [← S.len]; exact (List.getElem?_eq_some_iff.mp h).1
  exact ⟨st[i], List.getElem?_eq_getElem hl, S.at_ i p _ h (List.getElem?_eq_getElem hl)⟩
end
end L2.PyD
/-! PyD, part 2: what a piece of a program does to data (denotations), and how the layer's readings follow from it. -/
namespace L2.PyD
open PySem PySem.Spec PyProof.Rows
noncomputable section

/-- an expression's outcome: a value, an error with its fields, or nothing known -/
inductive Out (α : Type) where
  | ok (a : α) (st : Store)
  | exc (x : Str) (fs : List (Str × D)) (st : Store)
  | bad
def Out.bind {α β : Type} (o : Out α) (f : α → Store → Out β) : Out β :=
  match o with
  | .ok a st => f a st
  | .exc x fs st => .exc x fs st
  | .bad => .bad
def Out.wp {α : Type} (o : Out α) (P : α → Store → Prop) (E : Str → List (Str × D) → Store → Prop) : Prop :=
  match o with
  | .ok a st => P a st
  | .exc x fs st => E x fs st
  | .bad => False
theorem Out.wp_bind {α β : Type} {o : Out α} {f : α → Store → Out β} {P : β → Store → Prop} {E : Str → List (Str × D) → Store → Prop} (h : (o.bind f).wp P E) : o.wp (fun a st => (f a st).wp P E) E := by
  cases o <;> exact h
theorem Out.wp_mono {α : Type} {o : Out α} {P P' : α → Store → Prop} {E E' : Str → List (Str × D) → Store → Prop} (h : o.wp P E) (hP : ∀ a st, o = .ok a st → P a st → P' a st) (hE : ∀ x fs st, E x fs st → E' x fs st) : o.wp P' E' := by
  cases o with
  | ok a st => exact hP a st rfl h
  | exc x fs st => exact hE x fs st h
  | bad => exact h

abbrev Den := Env → Store → Out D
abbrev DenB := Env → Store → Out Bool
abbrev DenA := Env → Store → Out (List D)

/-- an error as it lies in the heap: its class, its own dict -/
def ExcR (K : PySem.W.Frag) (mg : Str → Option Value) (as : List Addr) (H : Hp) (x : Str) (fs : List (Str × D)) (C : Value) (d : Option Addr) : Prop :=
  mg x = some C ∧ match fs with
    | [] => d = none
    | _ :: _ => ∃ dd ws, d = some dd ∧ H dd = some (.xd ws) ∧ Paired (fun (a : Str × V) (b : Str × D) => a.1 = b.1 ∧ Rp K as H a.2 b.2) ws fs

section
variable (K : PySem.W.Frag) (mg : Str → Option Value) (W : WX)
/-- what is wanted of an error that leaves -/
def WE (as : List Addr) (H : Hp) (σ : St) (x : Str) (fs : List (Str × D)) (st' : Store) : Prop :=
  ∀ as' H' C d, Ext as H as' H' → StR K as' H' st' → ExcR K mg as' H' x fs C d → W C d σ H'
/-- what is wanted of a value -/
def WV (as : List Addr) (H : Hp) (Q : VK) (r : D) (st' : Store) : Prop :=
  ∀ as' H' v, Ext as H as' H' → StR K as' H' st' → Rp K as' H' v r → Q v H'
def WB (as : List Addr) (H : Hp) (Q : Bool → Hp → Prop) (r : Bool) (st' : Store) : Prop :=
  ∀ as' H', Ext as H as' H' → StR K as' H' st' → Q r H'
def WA (as : List Addr) (H : Hp) (Q : List V → Hp → Prop) (r : List D) (st' : Store) : Prop :=
  ∀ as' H' vs, Ext as H as' H' → StR K as' H' st' → RpL K as' H' vs r → Q vs H'
/-- the readings of denotations -/
def RE (f : Den) : TE := fun σ H Q => ∃ as env st, EnvR K as H σ env ∧ StR K as H st ∧ (f env st).wp (WV K as H Q) (WE K mg W as H σ)
def RT (f : DenB) : TT := fun σ H Q => ∃ as env st, EnvR K as H σ env ∧ StR K as H st ∧ (f env st).wp (WB K as H Q) (WE K mg W as H σ)
def RA (f : DenA) : TA := fun σ H Q => ∃ as env st, EnvR K as H σ env ∧ StR K as H st ∧ (f env st).wp (WA K as H Q) (WE K mg W as H σ)
end

section
variable {K : PySem.W.Frag} {mg : Str → Option Value} {W : WX} {as as1 : List Addr} {H H1 : Hp} {σ : St} {st : Store}
theorem WE.ext (x : Ext as H as1 H1) {y : Str} {fs : List (Str × D)} {st' : Store} (h : WE K mg W as H σ y fs st') : WE K mg W as1 H1 σ y fs st' := fun as' H' C d e s r => h as' H' C d (x.trans e) s r
theorem WV.ext (x : Ext as H as1 H1) {Q : VK} {r : D} {st' : Store} (h : WV K as H Q r st') : WV K as1 H1 Q r st' := fun as' H' C e s r => h as' H' C (x.trans e) s r
theorem WB.ext (x : Ext as H as1 H1) {Q : Bool → Hp → Prop} {r : Bool} {st' : Store} (h : WB K as H Q r st') : WB K as1 H1 Q r st' := fun as' H' e s => h as' H' (x.trans e) s
theorem WA.ext (x : Ext as H as1 H1) {Q : List V → Hp → Prop} {r : List D} {st' : Store} (h : WA K as H Q r st') : WA K as1 H1 Q r st' := fun as' H' C e s r => h as' H' C (x.trans e) s r
end

/-- THE STEP: an expression, then the rest -/
theorem re_then {α : Type} {K : PySem.W.Frag} {mg : Str → Option Value} {W : WX} {as : List Addr} {env : Env} {H : Hp} {σ : St} {st : Store} {fa : Den} {k : D → Store → Out α} {P : α → Store → Prop} {Q : VK} (E : EnvR K as H σ env) (S : StR K as H st)
    (h : ((fa env st).bind k).wp P (WE K mg W as H σ))
    (hk : ∀ r st1 as1 H1 v, Ext as H as1 H1 → EnvR K as1 H1 σ env → StR K as1 H1 st1 → Rp K as1 H1 v r → (k r st1).wp P (WE K mg W as1 H1 σ) → Q v H1) : RE K mg W fa σ H Q :=
  ⟨as, env, st, E, S, Out.wp_mono (Out.wp_bind h) (fun r st1 _ h1 as1 H1 v x s rp => hk r st1 as1 H1 v x (E.ext x) s rp (Out.wp_mono h1 (fun _ _ _ z => z) fun _ _ _ z => z.ext x)) fun _ _ _ z => z⟩
theorem rt_then {α : Type} {K : PySem.W.Frag} {mg : Str → Option Value} {W : WX} {as : List Addr} {env : Env} {H : Hp} {σ : St} {st : Store} {fa : DenB} {k : Bool → Store → Out α} {P : α → Store → Prop} {Q : Bool → Hp → Prop} (E : EnvR K as H σ env) (S : StR K as H st)
    (h : ((fa env st).bind k).wp P (WE K mg W as H σ))
    (hk : ∀ r st1 as1 H1, Ext as H as1 H1 → EnvR K as1 H1 σ env → StR K as1 H1 st1 → (k r st1).wp P (WE K mg W as1 H1 σ) → Q r H1) : RT K mg W fa σ H Q :=
  ⟨as, env, st, E, S, Out.wp_mono (Out.wp_bind h) (fun r st1 _ h1 as1 H1 x s => hk r st1 as1 H1 x (E.ext x) s (Out.wp_mono h1 (fun _ _ _ z => z) fun _ _ _ z => z.ext x)) fun _ _ _ z => z⟩
theorem ra_then {α : Type} {K : PySem.W.Frag} {mg : Str → Option Value} {W : WX} {as : List Addr} {env : Env} {H : Hp} {σ : St} {st : Store} {fa : DenA} {k : List D → Store → Out α} {P : α → Store → Prop} {Q : List V → Hp → Prop} (E : EnvR K as H σ env) (S : StR K as H st)
    (h : ((fa env st).bind k).wp P (WE K mg W as H σ))
    (hk : ∀ r st1 as1 H1 vs, Ext as H as1 H1 → EnvR K as1 H1 σ env → StR K as1 H1 st1 → RpL K as1 H1 vs r → (k r st1).wp P (WE K mg W as1 H1 σ) → Q vs H1) : RA K mg W fa σ H Q :=
  ⟨as, env, st, E, S, Out.wp_mono (Out.wp_bind h) (fun r st1 _ h1 as1 H1 v x s rp => hk r st1 as1 H1 v x (E.ext x) s rp (Out.wp_mono h1 (fun _ _ _ z => z) fun _ _ _ z => z.ext x)) fun _ _ _ z => z⟩
theorem re_last {K : PySem.W.Frag} {mg : Str → Option Value} {W : WX} {as : List Addr} {env : Env} {H H0 : Hp} {as0 : List Addr} {σ : St} {st : Store} {fa : Den} {Q : VK} (E : EnvR K as H σ env) (S : StR K as H st) (x : Ext as0 H0 as H)
    (h : (fa env st).wp (WV K as0 H0 Q) (WE K mg W as H σ)) : RE K mg W fa σ H Q := ⟨as, env, st, E, S, Out.wp_mono h (fun _ _ _ z => z.ext x) fun _ _ _ z => z⟩

theorem PE.re {X : Cx} {e : Expr} {t t' : TE} (h : PE X e t) (i : ∀ σ H Q, t' σ H Q → t σ H Q) : PE X e t' := ⟨fun pins s σ H Q I q => h.run pins s σ H Q I (i σ H Q q)⟩
theorem PT.re {X : Cx} {e : Expr} {t t' : TT} (h : PT X e t) (i : ∀ σ H Q, t' σ H Q → t σ H Q) : PT X e t' := ⟨fun pins s σ H Q I q => h.run pins s σ H Q I (i σ H Q q)⟩
theorem PW.re {X : Cx} {e : Expr} {t t' : TT} (h : PW X e t) (i : ∀ σ H Q, t' σ H Q → t σ H Q) : PW X e t' := ⟨fun wh pins s σ H Q I q => h.run wh pins s σ H Q I (i σ H Q q)⟩
theorem PA.re {X : Cx} {e : List Expr} {t t' : TA} (h : PA X e t) (i : ∀ σ H Q, t' σ H Q → t σ H Q) : PA X e t' := ⟨fun pos pins s σ H Q I q => h.run pos pins s σ H Q I (i σ H Q q)⟩

/-! ### results -/
/-- a value, or a list that is new -/
inductive Rv where
  | val (d : D) | newL (ds : List D)
/-- mu: the new list is one that will change -/
def Rv.put (mu : Bool) : Rv → Store → Out D
  | .val d, st => .ok d st
  | .newL ds, st => if mu then .ok (.cell st.length) (st ++ [.lst ds]) else .ok (.lst ds) st
def RvOk (K : PySem.W.Frag) (as : List Addr) (H : Hp) (st : Store) (rv : Rv) (Q : VK) : Prop :=
  match rv with
  | .val d => ∀ H' v, Ext as H as H' → StR K as H' st → Rp K as H' v d → Q v H'
  | .newL ds => ∀ p xs, H p = none → xs.length ≤ sizeLine → RpL K as H xs ds → Q (.ref p) (upd H p (.lst xs))
theorem rv_ok {K : PySem.W.Frag} {as : List Addr} {H : Hp} {st : Store} {rv : Rv} {mu : Bool} {Q : VK} {E : Str → List (Str × D) → Store → Prop} (S : StR K as H st) (h : (rv.put mu st).wp (WV K as H Q) E) : RvOk K as H st rv Q := by
  cases rv with
  | val d => exact fun H' v x s r => h as H' v x s r
  | newL ds =>
    intro p xs hp z r
    cases mu with
    | false =>
      obtain ⟨x, s⟩ := S.alloc (.lst xs) hp
      exact h as _ _ x s (.lst upd_same (S.free hp) z (RpL.ext x r))
    | true =>
      obtain ⟨x, s, g⟩ := S.newCell (o := .lst xs) (c := .lst ds) hp fun x => ⟨xs, upd_same, z, RpL.ext x r⟩
      exact h _ _ _ x s (.cell g)
/-- what an operation gives, put down -/
def fin (mu : Bool) (o : Option Rv) (st : Store) : Out D := match o with
  | some rv => rv.put mu st
  | none => .bad
theorem fin_ok {K : PySem.W.Frag} {as : List Addr} {H : Hp} {st : Store} {o : Option Rv} {mu : Bool} {Q : VK} {E : Str → List (Str × D) → Store → Prop} (S : StR K as H st) (h : (fin mu o st).wp (WV K as H Q) E) : ∃ rv, o = some rv ∧ RvOk K as H st rv Q := by
  cases o with
  | none => exact h.elim
  | some rv => exact ⟨rv, rfl, rv_ok S h⟩

/-! ### constants, names -/
def dCon (d : D) : Den := fun _ st => .ok d st
def dVar (i : Nat) : Den := fun env st => match env[i]? with
  | some (some d) => .ok d st
  | _ => .bad
section
variable {X : Cx} {W : WX} {pos : Pos}
theorem re_con {K : PySem.W.Frag} {mg : Str → Option Value} {d : D} {v : V} {σ : St} {H : Hp} {Q : VK} (r : ∀ as H, Rp K as H v d) (h : RE K mg W (dCon d) σ H Q) : Q v H := by
  obtain ⟨as, env, st, E, S, h⟩ := h
  exact h as H v (.refl _ _) S (r as H)
theorem pe_int' {i : Int} {j} : PE X (.Constant (.int i) j pos) (RE X.K X.mg W (dCon (.int i))) := PE.re pe_int fun _ _ _ h => re_con (fun _ _ => .int i) h
theorem pe_bl' {b : Bool} {j} : PE X (.Constant (.bool b) j pos) (RE X.K X.mg W (dCon (.bl b))) := PE.re pe_bl fun _ _ _ h => re_con (fun _ _ => .bl b) h
theorem pe_non' {j} : PE X (.Constant .none j pos) (RE X.K X.mg W (dCon .non)) := PE.re pe_non fun _ _ _ h => re_con (fun _ _ => .non) h
theorem pe_str' {x : Str} {j} : PE X (.Constant (.str x) j pos) (RE X.K X.mg W (dCon (.str x))) := PE.re pe_str fun _ _ _ h => re_con (fun _ _ => .str x) h
theorem pe_var' {i : Nat} {x : Str} (hN : X.N[i]? = some x) (hv : Vis X.env.scope x) (hd : (x == ("__debug__" : Str)) = false) (hcd : (x == ("__classdict__" : Str)) = false) : PE X (.Name x pos) (RE X.K X.mg W (dVar i)) := by
  refine PE.re (pe_var hN hv hd hcd) fun σ H Q h => ?_
  obtain ⟨as, env, st, E, S, h⟩ := h
  unfold dVar at h
  split at h
  · rename_i d e
    obtain ⟨v, h1, h2⟩ := E.at_ i d e
    exact ⟨v, h1, h as H v (.refl _ _) S h2⟩
  · exact h.elim
/-- a module's constant -/
theorem pe_glob' {x : Str} {d : D} {v : V} {u : Value} (hg : Gl X x) (hm : X.mg x = some u) (r : RelV v u) (rp : ∀ as H, Rp X.K as H v d) (hd : (x == ("__debug__" : Str)) = false) : PE X (.Name x pos) (RE X.K X.mg W (dCon d)) :=
  PE.re (pe_glob hg hm r hd) fun _ _ _ h => re_con rp h
theorem pe_bltn' {x : Str} {d : D} {v : V} {u : Value} (hg : Gl X x) (hm : X.mg x = none) (hv : bootBuiltins x = some u) (r : RelV v u) (rp : ∀ as H, Rp X.K as H v d) (hn : x ≠ "__name__") (hd : (x == ("__debug__" : Str)) = false) : PE X (.Name x pos) (RE X.K X.mg W (dCon d)) :=
  PE.re (pe_bltn hg hm hv r hn hd) fun _ _ _ h => re_con rp h

/-! ### argument lists, displays -/
def aNil : DenA := fun _ st => .ok [] st
def aCons (fa : Den) (fr : DenA) : DenA := fun env st => (fa env st).bind fun x st1 => (fr env st1).bind fun xs st2 => .ok (x :: xs) st2
theorem pa_nil' : PA X [] (RA X.K X.mg W aNil) := PA.re pa_nil fun σ H Q h => by
  obtain ⟨as, env, st, E, S, h⟩ := h
  exact h as H [] (.refl _ _) S .nil
theorem pa_cons' {e : Expr} {es : List Expr} {fa : Den} {fr : DenA} (ha : PE X e (RE X.K X.mg W fa)) (hr : PA X es (RA X.K X.mg W fr)) (hs : starEach (e :: es) X.env = (false, eval e X.env) :: starEach es X.env) : PA X (e :: es) (RA X.K X.mg W (aCons fa fr)) := by
  refine PA.re (pa_cons ha hr hs) fun σ H Q h => ?_
  obtain ⟨as, env, st, E, S, h⟩ := h
  refine re_then E S h fun r st1 as1 H1 v x1 E1 S1 r1 h1 => ra_then E1 S1 h1 fun rs st2 as2 H2 vs x2 E2 S2 r2 h2 => ?_
  exact h2 as2 H2 (v :: vs) (x1.trans x2) S2 (.cons (Rp.ext x2 r1) r2)
/-- a bound, never reckoned out -/
def dec (p : Prop) : Bool := @decide p (Classical.propDecidable p)
theorem of_dec {p : Prop} (h : dec p = true) : p := @of_decide_eq_true p (Classical.propDecidable p) h
theorem dec_eq {p : Prop} (h : p) : dec p = true := @decide_eq_true p (Classical.propDecidable p) h
theorem dec_iff {p : Prop} : (dec p = true) = p := propext ⟨of_dec, dec_eq⟩
def small (ds : List D) : Bool := dec (ds.length ≤ sizeLine)
def dTup (fa : DenA) : Den := fun env st => (fa env st).bind fun ds st1 => if small ds then .ok (.tup ds) st1 else .bad
def dLst (mu : Bool) (fa : DenA) : Den := fun env st => (fa env st).bind fun ds st1 => if small ds then (Rv.newL ds).put mu st1 else .bad
theorem pe_tup' {es : List Expr} {fa : DenA} {x1} (h : PA X es (RA X.K X.mg W fa)) : PE X (.Tuple es x1 pos) (RE X.K X.mg W (dTup fa)) := by
  refine PE.re (pe_tup h) fun σ H Q h => ?_
  obtain ⟨as, env, st, E, S, h⟩ := h
  refine ra_then E S h fun rs st1 as1 H1 vs x1 E1 S1 r1 h1 => ?_
  by_cases z : small rs = true
  · rw [if_pos z] at h1
    refine ⟨by rw [r1.length]; exact of_dec z, fun p hp => ?_⟩
    obtain ⟨x, s⟩ := S1.alloc (.tup vs) hp
    exact h1 as1 _ _ (x1.trans x) s (.tup (SqT.of upd_same) (by rw [r1.length]; exact of_dec z) (RpL.ext x r1))
  · rw [if_neg z] at h1
    exact h1.elim
theorem pe_lst' {es : List Expr} {fa : DenA} {mu : Bool} (h : PA X es (RA X.K X.mg W fa)) : PE X (.List es pos) (RE X.K X.mg W (dLst mu fa)) := by
  refine PE.re (pe_lst h) fun σ H Q h => ?_
  obtain ⟨as, env, st, E, S, h⟩ := h
  refine ra_then E S h fun rs st1 as1 H1 vs x1 E1 S1 r1 h1 => ?_
  by_cases z : small rs = true
  · rw [if_pos z] at h1
    refine ⟨by rw [r1.length]; exact of_dec z, fun p hp => ?_⟩
    exact rv_ok S1 (Out.wp_mono h1 (fun _ _ _ z => z.ext x1) fun _ _ _ z => z) p vs hp (by rw [r1.length]; exact of_dec z) r1
  · rw [if_neg z] at h1
    exact h1.elim

/-! ### operators -/
def RB (K : PySem.W.Frag) (g : Store → D → D → Option Rv) : R2 := fun x y H Q => ∃ as st dx dy rv, StR K as H st ∧ Rp K as H x dx ∧ Rp K as H y dy ∧ g st dx dy = some rv ∧ RvOk K as H st rv Q
def dBin (mu : Bool) (g : Store → D → D → Option Rv) (fa fb : Den) : Den := fun env st => (fa env st).bind fun x st1 => (fb env st1).bind fun y st2 => fin mu (g st2 x y) st2
theorem rb_bin {K : PySem.W.Frag} {mg : Str → Option Value} {g : Store → D → D → Option Rv} {mu : Bool} {fa fb : Den} {σ : St} {H : Hp} {Q : VK} (h : RE K mg W (dBin mu g fa fb) σ H Q) : tOp (RB K g) (RE K mg W fa) (RE K mg W fb) σ H Q := by
  obtain ⟨as, env, st, E, S, h⟩ := h
  refine re_then E S h fun r st1 as1 H1 v x1 E1 S1 r1 h1 => re_then E1 S1 h1 fun r' st2 as2 H2 v2 x2 E2 S2 r2 h2 => ?_
  obtain ⟨rv, e, q⟩ := fin_ok S2 (Out.wp_mono h2 (fun _ _ _ z => z.ext (x1.trans x2)) fun _ _ _ z => z)
  exact ⟨as2, st2, r, r', rv, S2, Rp.ext x2 r1, r2, e, q⟩
theorem pe_bin' {a b : Expr} {op : Operator} {g : Store → D → D → Option Rv} {mu : Bool} {fa fb : Den} (ho : OpR X (binaryOp op) (RB X.K g)) (ha : PE X a (RE X.K X.mg W fa)) (hb : PE X b (RE X.K X.mg W fb)) : PE X (.BinOp a op b pos) (RE X.K X.mg W (dBin mu g fa fb)) :=
  PE.re (pe_op ho ha hb) fun _ _ _ h => rb_bin h
/-- a comparison gives a bool -/
def RCm (K : PySem.W.Frag) (g : Store → D → D → Option Bool) : R2 := fun x y H Q => ∃ as st dx dy b, StR K as H st ∧ Rp K as H x dx ∧ Rp K as H y dy ∧ g st dx dy = some b ∧ Q (.bl b) H
def obool (o : Option Bool) (st : Store) : Out Bool := match o with
  | some b => .ok b st
  | none => .bad
def bCmp (g : Store → D → D → Option Bool) (fa fb : Den) : DenB := fun env st => (fa env st).bind fun x st1 => (fb env st1).bind fun y st2 => obool (g st2 x y) st2
/-- a test as a value -/
def dOf (f : DenB) : Den := fun env st => (f env st).bind fun b st1 => .ok (.bl b) st1
theorem rc_cmp {K : PySem.W.Frag} {mg : Str → Option Value} {g : Store → D → D → Option Bool} {fa fb : Den} {σ : St} {H : Hp} {Q : Bool → Hp → Prop} (h : RT K mg W (bCmp g fa fb) σ H Q) : tOp (RCm K g) (RE K mg W fa) (RE K mg W fb) σ H (fun v H1 => ∃ b, v = .bl b ∧ Q b H1) := by
  obtain ⟨as, env, st, E, S, h⟩ := h
  refine re_then E S h fun r st1 as1 H1 v x1 E1 S1 r1 h1 => re_then E1 S1 h1 fun r' st2 as2 H2 v2 x2 E2 S2 r2 h2 => ?_
  generalize e : g st2 r r' = o at h2
  cases o with
  | none => exact h2.elim
  | some b => exact ⟨as2, st2, r, r', b, S2, Rp.ext x2 r1, r2, e, b, rfl, h2 as2 H2 (x1.trans x2) S2⟩
theorem rt_of {K : PySem.W.Frag} {mg : Str → Option Value} {f : DenB} {σ : St} {H : Hp} {Q : VK} (h : RE K mg W (dOf f) σ H Q) : RT K mg W f σ H (fun b H1 => Q (.bl b) H1) := by
  obtain ⟨as, env, st, E, S, h⟩ := h
  exact rt_then E S h fun r st1 as1 H1 x1 E1 S1 h1 => h1 as1 H1 _ x1 S1 (.bl r)
theorem pt_cmp' {a b : Expr} {op : CmpOp} {g : Store → D → D → Option Bool} {fa fb : Den} (ho : OpR X (compareOp op) (RCm X.K g)) (ha : PE X a (RE X.K X.mg W fa)) (hb : PE X b (RE X.K X.mg W fb)) (hm : behindInMarks op b = false) : PT X (.Compare a [op] [b] pos) (RT X.K X.mg W (bCmp g fa fb)) :=
  PT.re (pt_cmpR ho ha hb hm) fun _ _ _ h => rc_cmp h
theorem pe_cmp' {a b : Expr} {op : CmpOp} {g : Store → D → D → Option Bool} {fa fb : Den} (ho : OpR X (compareOp op) (RCm X.K g)) (ha : PE X a (RE X.K X.mg W fa)) (hb : PE X b (RE X.K X.mg W fb)) (hm : behindInMarks op b = false) : PE X (.Compare a [op] [b] pos) (RE X.K X.mg W (dOf (bCmp g fa fb))) := by
  refine PE.re (pe_cmpR ho ha hb hm) fun σ H Q h => ?_
  have q := rc_cmp (rt_of h)
  obtain ⟨as, env, st, E, S, q⟩ := q
  refine ⟨as, env, st, E, S, Out.wp_mono q (fun r st1 _ h1 as1 H1 v x s rp => ?_) fun _ _ _ z => z⟩
  obtain ⟨as2, env2, st2, E2, S2, q2⟩ := h1 as1 H1 v x s rp
  refine ⟨as2, env2, st2, E2, S2, Out.wp_mono q2 (fun r st1 _ h1 as1 H1 v x s rp => ?_) fun _ _ _ z => z⟩
  obtain ⟨as3, st3, dx, dy, b, h1, h2, h3, h4, b', h5, h6⟩ := h1 as1 H1 v x s rp
  cases h5
  exact ⟨as3, st3, dx, dy, _, h1, h2, h3, h4, h6⟩
/-- a op b op' c -/
def bChain (g g' : Store → D → D → Option Bool) (fa fb fc : Den) : DenB := fun env st => (fa env st).bind fun x st1 => (fb env st1).bind fun y st2 => (obool (g st2 x y) st2).bind fun k st3 =>
  if k then (fc env st3).bind fun z st4 => obool (g' st4 y z) st4 else .ok false st3
theorem rc_chain {K : PySem.W.Frag} {mg : Str → Option Value} {g g' : Store → D → D → Option Bool} {fa fb fc : Den} {σ : St} {H : Hp} {Q : VK} (h : RT K mg W (bChain g g' fa fb fc) σ H (fun b H1 => Q (.bl b) H1)) : tChain (RCm K g) (RCm K g') (RE K mg W fa) (RE K mg W fb) (RE K mg W fc) σ H Q := by
  obtain ⟨as, env, st, E, S, h⟩ := h
  refine re_then E S h fun r st1 as1 H1 v x1 E1 S1 r1 h1 => re_then E1 S1 h1 fun r' st2 as2 H2 v2 x2 E2 S2 r2 h2 => ?_
  generalize e : g st2 r r' = o at h2
  cases o with
  | none => exact h2.elim
  | some b =>
    refine ⟨as2, st2, r, r', b, S2, Rp.ext x2 r1, r2, e, b, rfl, ?_⟩
    cases b with
    | false => exact iteF (h2 as2 H2 (x1.trans x2) S2)
    | true =>
      refine iteT (re_then E2 S2 h2 fun r3 st3 as3 H3 v3 x3 E3 S3 r3' h3 => ?_)
      generalize e3 : g' st3 r' r3 = o at h3
      cases o with
      | none => exact h3.elim
      | some b => exact ⟨as3, st3, r', r3, b, S3, Rp.ext x3 r2, r3', e3, h3 as3 H3 ((x1.trans x2).trans x3) S3⟩
theorem tChain.mono {r r' : R2} {fa fb fc : Den} {K : PySem.W.Frag} {mg : Str → Option Value} {g g' : Store → D → D → Option Bool} {σ : St} {H : Hp} {Q : Bool → Hp → Prop} (h : RT K mg W (bChain g g' fa fb fc) σ H Q) :
    tTest (tChain (RCm K g) (RCm K g') (RE K mg W fa) (RE K mg W fb) (RE K mg W fc)) σ H Q := by
  refine rc_chain (Q := fun x H' => ∃ k, x = .bl k ∧ Q k H') ?_
  obtain ⟨as, env, st, E, S, h⟩ := h
  exact ⟨as, env, st, E, S, Out.wp_mono h (fun r st1 _ h1 as1 H1 x s => ⟨r, rfl, h1 as1 H1 x s⟩) fun _ _ _ z => z⟩
theorem pt_chain' {a b c : Expr} {op op' : CmpOp} {g g' : Store → D → D → Option Bool} {fa fb fc : Den} (ho : OpR X (compareOp op) (RCm X.K g)) (ho' : OpR X (compareOp op') (RCm X.K g')) (ha : PE X a (RE X.K X.mg W fa)) (hb : PE X b (RE X.K X.mg W fb)) (hc : PE X c (RE X.K X.mg W fc))
    (hm : lastMarks [op, op'] [b, c] = false) : PT X (.Compare a [op, op'] [b, c] pos) (RT X.K X.mg W (bChain g g' fa fb fc)) :=
  PT.re (pt_chain ho ho' ha hb hc hm) fun _ _ _ h => tChain.mono (r := RCm X.K g) (r' := RCm X.K g') h
theorem pe_chain' {a b c : Expr} {op op' : CmpOp} {g g' : Store → D → D → Option Bool} {fa fb fc : Den} (ho : OpR X (compareOp op) (RCm X.K g)) (ho' : OpR X (compareOp op') (RCm X.K g')) (ha : PE X a (RE X.K X.mg W fa)) (hb : PE X b (RE X.K X.mg W fb)) (hc : PE X c (RE X.K X.mg W fc))
    (hm : lastMarks [op, op'] [b, c] = false) : PE X (.Compare a [op, op'] [b, c] pos) (RE X.K X.mg W (dOf (bChain g g' fa fb fc))) :=
  PE.re (pe_chain ho ho' ha hb hc hm) fun _ _ _ h => rc_chain (rt_of h)

/-! ### tests: and, or, not; a value's truth -/
def bAnd (fa fb : DenB) : DenB := fun env st => (fa env st).bind fun b st1 => if b then fb env st1 else .ok false st1
def bOr (fa fb : DenB) : DenB := fun env st => (fa env st).bind fun b st1 => if b then .ok true st1 else fb env st1
def bNot (fa : DenB) : DenB := fun env st => (fa env st).bind fun b st1 => .ok (!b) st1
/-- the truth of a value (bools, ints, None, lists, tuples, texts) -/
def truD (st : Store) : D → Option Bool
  | .non => some false
  | .bl b => some b
  | .int i => some (i != 0)
  | .tup ds => some (!ds.isEmpty)
  | .lst ds => some (!ds.isEmpty)
  | .frl ds => some (!ds.isEmpty)
  | .cell i => match st[i]? with
    | some (.lst ds) => some (!ds.isEmpty)
    | _ => none
  | _ => none
def bTru (f : Den) : DenB := fun env st => (f env st).bind fun d st1 => obool (truD st1 d) st1
section
variable {a b : Expr} {rest : List Expr} {fa fb : DenB}
theorem pw_and1' (ha : PT X a (RT X.K X.mg W fa)) : PW X (.BoolOp .And [a] pos) (RT X.K X.mg W fa) := pw_and1 ha
theorem pw_or1' (ha : PT X a (RT X.K X.mg W fa)) : PW X (.BoolOp .Or [a] pos) (RT X.K X.mg W fa) := pw_or1 ha
theorem rt_last {K : PySem.W.Frag} {mg : Str → Option Value} {as : List Addr} {env : Env} {H H0 : Hp} {as0 : List Addr} {σ : St} {st : Store} {fa : DenB} {Q : Bool → Hp → Prop} (E : EnvR K as H σ env) (S : StR K as H st) (x : Ext as0 H0 as H)
    (h : (fa env st).wp (WB K as0 H0 Q) (WE K mg W as H σ)) : RT K mg W fa σ H Q := ⟨as, env, st, E, S, Out.wp_mono h (fun _ _ _ z => z.ext x) fun _ _ _ z => z⟩
theorem pw_and' (ha : PT X a (RT X.K X.mg W fa)) (hb : PW X (.BoolOp .And (b :: rest) pos) (RT X.K X.mg W fb)) : PW X (.BoolOp .And (a :: b :: rest) pos) (RT X.K X.mg W (bAnd fa fb)) := by
  refine PW.re (pw_and ha hb) fun σ H Q h => ?_
  obtain ⟨as, env, st, E, S, h⟩ := h
  refine rt_then E S h fun r st1 as1 H1 x1 E1 S1 h1 => ?_
  cases r with
  | true => exact iteT (rt_last E1 S1 x1 h1)
  | false => exact iteF (h1 as1 H1 x1 S1)
theorem pw_or' (ha : PT X a (RT X.K X.mg W fa)) (hb : PW X (.BoolOp .Or (b :: rest) pos) (RT X.K X.mg W fb)) : PW X (.BoolOp .Or (a :: b :: rest) pos) (RT X.K X.mg W (bOr fa fb)) := by
  refine PW.re (pw_or ha hb) fun σ H Q h => ?_
  obtain ⟨as, env, st, E, S, h⟩ := h
  refine rt_then E S h fun r st1 as1 H1 x1 E1 S1 h1 => ?_
  cases r with
  | true => exact iteT (h1 as1 H1 x1 S1)
  | false => exact iteF (rt_last E1 S1 x1 h1)
theorem pt_not' (ha : PT X a (RT X.K X.mg W fa)) : PT X (.UnaryOp .Not a pos) (RT X.K X.mg W (bNot fa)) := by
  refine PT.re (pt_not ha) fun σ H Q h => ?_
  obtain ⟨as, env, st, E, S, h⟩ := h
  exact rt_then E S h fun r st1 as1 H1 x1 E1 S1 h1 => h1 as1 H1 x1 S1
/-- .. as values -/
theorem Out.assoc {α β γ : Type} (o : Out α) (f : α → Store → Out β) (g : β → Store → Out γ) : (o.bind f).bind g = o.bind fun a st => (f a st).bind g := by cases o <;> rfl
theorem rb_then {α : Type} {K : PySem.W.Frag} {mg : Str → Option Value} {as : List Addr} {env : Env} {H : Hp} {σ : St} {st : Store} {fa : DenB} {k : Bool → Store → Out α} {P : α → Store → Prop} {Q : VK} (E : EnvR K as H σ env) (S : StR K as H st)
    (h : ((fa env st).bind k).wp P (WE K mg W as H σ))
    (hk : ∀ r st1 as1 H1, Ext as H as1 H1 → EnvR K as1 H1 σ env → StR K as1 H1 st1 → (k r st1).wp P (WE K mg W as1 H1 σ) → Q (.bl r) H1) : RE K mg W (dOf fa) σ H Q := by
  refine ⟨as, env, st, E, S, ?_⟩
  unfold dOf
  generalize e : fa env st = o at h
  cases o with
  | ok b st1 =>
    intro as1 H1 v x s rp
    cases rp
    exact hk b st1 as1 H1 x (E.ext x) s (Out.wp_mono h (fun _ _ _ z => z) fun _ _ _ z => z.ext x)
  | exc y fs st1 => exact h
  | bad => exact h
theorem pe_and' (ha : PE X a (RE X.K X.mg W (dOf fa))) (hb : PE X (.BoolOp .And (b :: rest) pos) (RE X.K X.mg W (dOf fb))) : PE X (.BoolOp .And (a :: b :: rest) pos) (RE X.K X.mg W (dOf (bAnd fa fb))) := by
  refine PE.re (pe_and ha hb) fun σ H Q h => ?_
  obtain ⟨as, env, st, E, S, h⟩ := h
  unfold dOf bAnd at h
  rw [Out.assoc] at h
  refine rb_then E S h fun r st1 as1 H1 x1 E1 S1 h1 => ⟨r, rfl, ?_⟩
  cases r with
  | true => exact iteT ⟨as1, env, st1, E1, S1, Out.wp_mono h1 (fun _ _ _ z => z.ext x1) fun _ _ _ z => z⟩
  | false => exact iteF (h1 as1 H1 _ x1 S1 (.bl false))
theorem pe_or' (ha : PE X a (RE X.K X.mg W (dOf fa))) (hb : PE X (.BoolOp .Or (b :: rest) pos) (RE X.K X.mg W (dOf fb))) : PE X (.BoolOp .Or (a :: b :: rest) pos) (RE X.K X.mg W (dOf (bOr fa fb))) := by
  refine PE.re (pe_or ha hb) fun σ H Q h => ?_
  obtain ⟨as, env, st, E, S, h⟩ := h
  unfold dOf bOr at h
  rw [Out.assoc] at h
  refine rb_then E S h fun r st1 as1 H1 x1 E1 S1 h1 => ⟨r, rfl, ?_⟩
  cases r with
  | true => exact iteT (h1 as1 H1 _ x1 S1 (.bl true))
  | false => exact iteF ⟨as1, env, st1, E1, S1, Out.wp_mono h1 (fun _ _ _ z => z.ext x1) fun _ _ _ z => z⟩
theorem pe_not' (ha : PE X a (RE X.K X.mg W (dOf fa))) : PE X (.UnaryOp .Not a pos) (RE X.K X.mg W (dOf (bNot fa))) := by
  refine PE.re (pe_not ha) fun σ H Q h => ?_
  obtain ⟨as, env, st, E, S, h⟩ := h
  unfold dOf bNot at h
  rw [Out.assoc] at h
  exact rb_then E S h fun r st1 as1 H1 x1 E1 S1 h1 => ⟨r, rfl, h1 as1 H1 _ x1 S1 (.bl _)⟩
end
/-- a value that is a bool, as one (else nothing is known) -/
def bVal (f : Den) : DenB := fun env st => (f env st).bind fun d st1 => match d with
  | .bl b => .ok b st1
  | _ => .bad
theorem pt_val' {e : Expr} {f : Den} (h : PE X e (RE X.K X.mg W f)) (he : ∀ whole, isTrue e X.env whole = (do let v ← whole; standAt e.pos; holding [v] (truthy v))) : PT X e (RT X.K X.mg W (bTru f)) := by
  refine PT.re (pt_truth h he) fun σ H Q h => ?_
  obtain ⟨as, env, st, E, S, h⟩ := h
  refine re_then E S h fun r st1 as1 H1 v x1 E1 S1 r1 h1 => ?_
  generalize e : truD st1 r = o at h1
  cases o with
  | none => exact h1.elim
  | some k =>
    refine ⟨k, ?_, h1 as1 H1 x1 S1⟩
    cases r1 with
    | non => exact (Option.some.inj e).symm
    | bl b => exact (Option.some.inj e).symm
    | int i => exact (Option.some.inj e).symm
    | str s => cases e
    | ty n => cases e
    | tup h z r => exact .inr (.inl ⟨_, h, by rw [← Option.some.inj e]; cases r <;> rfl⟩)
    | lst h c z r => exact .inl ⟨_, SqL.of h, by rw [← Option.some.inj e]; cases r <;> rfl⟩
    | frl h z r => exact .inl ⟨_, h.seq, by rw [← Option.some.inj e]; cases r <;> rfl⟩
    | cell h =>
      obtain ⟨c, hc, hR⟩ := S1.get' h
      unfold truD at e
      simp only [hc] at e
      cases c with
      | lst ds =>
        obtain ⟨xs, hx, z, r⟩ := hR
        exact .inl ⟨xs, SqL.of hx, by rw [← Option.some.inj e]; cases r <;> rfl⟩
      | dct lk kvs => cases e
/-- a bool made by any expression stands for its test -/
theorem pe_bVal {e : Expr} {f : Den} (h : PE X e (RE X.K X.mg W f)) : PE X e (RE X.K X.mg W (dOf (bVal f))) := by
  refine PE.re h fun σ H Q h => ?_
  obtain ⟨as, env, st, E, S, h⟩ := h
  unfold dOf bVal at h
  rw [Out.assoc] at h
  refine ⟨as, env, st, E, S, Out.wp_mono (Out.wp_bind h) (fun d st1 _ h1 => ?_) fun _ _ _ z => z⟩
  cases d <;> first | exact h1 | exact h1.elim
/-- a if t else b -/
def dIte (t : DenB) (fa fb : Den) : Den := fun env st => (t env st).bind fun b st1 => if b then fa env st1 else fb env st1
theorem pe_ite' {c a b : Expr} {t : DenB} {fa fb : Den} (hc : PT X c (RT X.K X.mg W t)) (ha : PE X a (RE X.K X.mg W fa)) (hb : PE X b (RE X.K X.mg W fb)) : PE X (.IfExp c a b pos) (RE X.K X.mg W (dIte t fa fb)) := by
  refine PE.re (pe_ifExp hc ha hb) fun σ H Q h => ?_
  obtain ⟨as, env, st, E, S, h⟩ := h
  refine rt_then E S h fun r st1 as1 H1 x1 E1 S1 h1 => ?_
  cases r with
  | true => exact iteT (re_last E1 S1 x1 h1)
  | false => exact iteF (re_last E1 S1 x1 h1)

/-! ### unary operators, subscripts, slices, calls of built-ins -/
def RU (K : PySem.W.Frag) (g : Store → D → Option Rv) : V → Hp → VK → Prop := fun x H Q => ∃ as st dx rv, StR K as H st ∧ Rp K as H x dx ∧ g st dx = some rv ∧ RvOk K as H st rv Q
def dUn (mu : Bool) (g : Store → D → Option Rv) (fa : Den) : Den := fun env st => (fa env st).bind fun x st1 => fin mu (g st1 x) st1
theorem pe_un' {a : Expr} {op : UnaryOp} {g : Store → D → Option Rv} {mu : Bool} {fa : Den} (ho : UnR X (unaryOp op) (RU X.K g)) (ha : PE X a (RE X.K X.mg W fa)) : PE X (.UnaryOp op a pos) (RE X.K X.mg W (dUn mu g fa)) := by
  refine PE.re (pe_un ho ha) fun σ H Q h => ?_
  obtain ⟨as, env, st, E, S, h⟩ := h
  refine re_then E S h fun r st1 as1 H1 v x1 E1 S1 r1 h1 => ?_
  obtain ⟨rv, e, q⟩ := fin_ok S1 (Out.wp_mono h1 (fun _ _ _ z => z.ext x1) fun _ _ _ z => z)
  exact ⟨as1, st1, r, rv, S1, r1, e, q⟩
theorem pe_ix' {a b : Expr} {g : Store → D → D → Option Rv} {mu : Bool} {fa fb : Den} (hr : IxR X (RB X.K g)) (ha : PE X a (RE X.K X.mg W fa)) (hb : PE X b (RE X.K X.mg W fb)) (hs : PlainIx b) : PE X (.Subscript a b pos) (RE X.K X.mg W (dBin mu g fa fb)) :=
  PE.re (pe_ix hr ha hb hs) fun _ _ _ h => rb_bin h
def RC (K : PySem.W.Frag) (g : Store → List D → Option Rv) : List V → Hp → VK → Prop := fun vs H Q => ∃ as st ds rv, StR K as H st ∧ RpL K as H vs ds ∧ g st ds = some rv ∧ RvOk K as H st rv Q
def dCl (mu : Bool) (g : Store → List D → Option Rv) (fa : DenA) : Den := fun env st => (fa env st).bind fun ds st1 => fin mu (g st1 ds) st1
theorem rc_call {K : PySem.W.Frag} {mg : Str → Option Value} {g : Store → List D → Option Rv} {mu : Bool} {fa : DenA} {σ : St} {H : Hp} {Q : VK} (h : RE K mg W (dCl mu g fa) σ H Q) : tCB (RC K g) (RA K mg W fa) σ H Q := by
  obtain ⟨as, env, st, E, S, h⟩ := h
  refine ra_then E S h fun r st1 as1 H1 v x1 E1 S1 r1 h1 => ?_
  obtain ⟨rv, e, q⟩ := fin_ok S1 (Out.wp_mono h1 (fun _ _ _ z => z.ext x1) fun _ _ _ z => z)
  exact ⟨as1, st1, r, rv, S1, r1, e, q⟩
end
end
end L2.PyD
/-! PyD, part 3: statements, loops, what loops walk. -/
namespace L2.PyD
open PySem PySem.Spec PyProof.Rows
noncomputable section

/-- a statement's outcome -/
inductive Fs where
  | nx (e : Env) (st : Store)
  | brk (e : Env) (st : Store)
  | ct (e : Env) (st : Store)
  | ret (d : D) (st : Store)
  | exc (e : Env) (x : Str) (fs : List (Str × D)) (st : Store)
  | bad
abbrev DenS := Env → Store → Fs
/-- an expression, then a statement -/
def Out.then {α : Type} (o : Out α) (env : Env) (k : α → Store → Fs) : Fs := match o with
  | .ok a st => k a st
  | .exc x fs st => .exc env x fs st
  | .bad => .bad

section
variable (K : PySem.W.Frag) (mg : Str → Option Value) (W : WX)
def WN (as : List Addr) (H : Hp) (Q : St → Hp → Prop) (e : Env) (st' : Store) : Prop :=
  ∀ as' H' σ', Ext as H as' H' → StR K as' H' st' → EnvR K as' H' σ' e → Q σ' H'
def WX' (as : List Addr) (H : Hp) (e : Env) (x : Str) (fs : List (Str × D)) (st' : Store) : Prop :=
  ∀ as' H' σ' C d, Ext as H as' H' → StR K as' H' st' → EnvR K as' H' σ' e → ExcR K mg as' H' x fs C d → W C d σ' H'
def Fs.wp (as : List Addr) (H : Hp) (Z : Ends) : Fs → Prop
  | .nx e st => WN K as H Z.nx e st
  | .brk e st => WN K as H Z.bk e st
  | .ct e st => WN K as H Z.ct e st
  | .ret d st => WV K as H Z.rt d st
  | .exc e x fs st => WX' K mg W as H e x fs st
  | .bad => False
def RS (f : DenS) : TS := fun Z σ H => ∃ as env st, EnvR K as H σ env ∧ StR K as H st ∧ (f env st).wp K mg W as H Z
end
section
variable {K : PySem.W.Frag} {mg : Str → Option Value} {W : WX} {as as1 : List Addr} {H H1 : Hp} {σ : St} {st : Store} {env : Env}
theorem WN.ext (x : Ext as H as1 H1) {Q : St → Hp → Prop} {e : Env} {st' : Store} (h : WN K as H Q e st') : WN K as1 H1 Q e st' := fun as' H' s' y s r => h as' H' s' (x.trans y) s r
theorem WX'.ext (x : Ext as H as1 H1) {e : Env} {y : Str} {fs : List (Str × D)} {st' : Store} (h : WX' K mg W as H e y fs st') : WX' K mg W as1 H1 e y fs st' := fun as' H' s' C d z s r q => h as' H' s' C d (x.trans z) s r q
theorem Fs.ext (x : Ext as H as1 H1) {Z : Ends} : ∀ {f : Fs}, f.wp K mg W as H Z → f.wp K mg W as1 H1 Z
  | .nx _ _, h => WN.ext x h
  | .brk _ _, h => WN.ext x h
  | .ct _ _, h => WN.ext x h
  | .ret _ _, h => WV.ext x h
  | .exc _ _ _ _, h => WX'.ext x h
  | .bad, h => h
theorem WE.of (E : EnvR K as H σ env) {x : Str} {fs : List (Str × D)} {st' : Store} (h : WX' K mg W as H env x fs st') : WE K mg W as H σ x fs st' := fun as' H' C d y s r => h as' H' σ C d y s (E.ext y) r
theorem re_thenS {fa : Den} {k : D → Store → Fs} {Z : Ends} {Q : VK} (E : EnvR K as H σ env) (S : StR K as H st)
    (h : ((fa env st).then env k).wp K mg W as H Z)
    (hk : ∀ r st1 as1 H1 v, Ext as H as1 H1 → EnvR K as1 H1 σ env → StR K as1 H1 st1 → Rp K as1 H1 v r → (k r st1).wp K mg W as1 H1 Z → Q v H1) : RE K mg W fa σ H Q := by
  refine ⟨as, env, st, E, S, ?_⟩
  generalize fa env st = o at h
  cases o with
  | ok a st1 => exact fun as1 H1 v x s r => hk a st1 as1 H1 v x (E.ext x) s r (Fs.ext x h)
  | exc x fs st1 => exact WE.of E h
  | bad => exact h
theorem rt_thenS {fa : DenB} {k : Bool → Store → Fs} {Z : Ends} {Q : Bool → Hp → Prop} (E : EnvR K as H σ env) (S : StR K as H st)
    (h : ((fa env st).then env k).wp K mg W as H Z)
    (hk : ∀ r st1 as1 H1, Ext as H as1 H1 → EnvR K as1 H1 σ env → StR K as1 H1 st1 → (k r st1).wp K mg W as1 H1 Z → Q r H1) : RT K mg W fa σ H Q := by
  refine ⟨as, env, st, E, S, ?_⟩
  generalize fa env st = o at h
  cases o with
  | ok a st1 => exact fun as1 H1 x s => hk a st1 as1 H1 x (E.ext x) s (Fs.ext x h)
  | exc x fs st1 => exact WE.of E h
  | bad => exact h
theorem ra_thenS {fa : DenA} {k : List D → Store → Fs} {Z : Ends} {Q : List V → Hp → Prop} (E : EnvR K as H σ env) (S : StR K as H st)
    (h : ((fa env st).then env k).wp K mg W as H Z)
    (hk : ∀ r st1 as1 H1 vs, Ext as H as1 H1 → EnvR K as1 H1 σ env → StR K as1 H1 st1 → RpL K as1 H1 vs r → (k r st1).wp K mg W as1 H1 Z → Q vs H1) : RA K mg W fa σ H Q := by
  refine ⟨as, env, st, E, S, ?_⟩
  generalize fa env st = o at h
  cases o with
  | ok a st1 => exact fun as1 H1 v x s r => hk a st1 as1 H1 v x (E.ext x) s r (Fs.ext x h)
  | exc x fs st1 => exact WE.of E h
  | bad => exact h
end
theorem PS.re {X : Cx} {e : Stmt} {t t' : TS} (h : PS X e t) (i : ∀ Z σ H, t' Z σ H → t Z σ H) : PS X e t' := ⟨fun pins s σ H D I q => h.run pins s σ H D I (i D σ H q)⟩
theorem PSs.re {X : Cx} {e : List Stmt} {t t' : TS} (h : PSs X e t) (i : ∀ Z σ H, t' Z σ H → t Z σ H) : PSs X e t' := ⟨fun pins s σ H D I q => h.run pins s σ H D I (i D σ H q)⟩

/-! ### blocks and small statements -/
def sSkip : DenS := fun env st => .nx env st
def sSeq (f g : DenS) : DenS := fun env st => match f env st with
  | .nx e st1 => g e st1
  | o => o
section
variable {X : Cx} {W : WX} {pos : Pos}
theorem rs_skip {σ : St} {H : Hp} {Z : Ends} {K : PySem.W.Frag} {mg : Str → Option Value} (h : RS K mg W sSkip Z σ H) : Z.nx σ H := by
  obtain ⟨as, env, st, E, S, h⟩ := h
  exact h as H σ (.refl _ _) S E
theorem pss_nil' : PSs X [] (RS X.K X.mg W sSkip) := PSs.re pss_nil fun _ _ _ h => rs_skip h
theorem rs_seq {σ : St} {H : Hp} {Z : Ends} {K : PySem.W.Frag} {mg : Str → Option Value} {f g : DenS} (h : RS K mg W (sSeq f g) Z σ H) : tSeq (RS K mg W f) (RS K mg W g) Z σ H := by
  obtain ⟨as, env, st, E, S, h⟩ := h
  refine ⟨as, env, st, E, S, ?_⟩
  unfold sSeq at h
  cases e : f env st with
  | nx e1 st1 =>
    rw [e] at h
    exact fun as1 H1 σ1 x s r => ⟨as1, e1, st1, r, s, Fs.ext x h⟩
  | brk _ _ => rw [e] at h; exact h
  | ct _ _ => rw [e] at h; exact h
  | ret _ _ => rw [e] at h; exact h
  | exc _ _ _ _ => rw [e] at h; exact h
  | bad => rw [e] at h; exact h
theorem pss_cons' {st : Stmt} {rest : List Stmt} {f g : DenS} (h1 : PS X st (RS X.K X.mg W f)) (h2 : PSs X rest (RS X.K X.mg W g)) : PSs X (st :: rest) (RS X.K X.mg W (sSeq f g)) := PSs.re (pss_cons h1 h2) fun _ _ _ h => rs_seq h
theorem ps_pass' : PS X (.Pass pos) (RS X.K X.mg W sSkip) := PS.re ps_pass fun _ _ _ h => rs_skip h
def sBrk : DenS := fun env st => .brk env st
def sCt : DenS := fun env st => .ct env st
theorem ps_break' : PS X (.Break pos) (RS X.K X.mg W sBrk) := PS.re ps_break fun Z σ H h => by
  obtain ⟨as, env, st, E, S, h⟩ := h
  exact h as H σ (.refl _ _) S E
theorem ps_continue' : PS X (.Continue pos) (RS X.K X.mg W sCt) := PS.re ps_continue fun Z σ H h => by
  obtain ⟨as, env, st, E, S, h⟩ := h
  exact h as H σ (.refl _ _) S E
def sRet (f : Den) : DenS := fun env st => (f env st).then env fun d st1 => .ret d st1
theorem ps_ret' {e : Expr} {f : Den} (h : PE X e (RE X.K X.mg W f)) : PS X (.Return (some e) pos) (RS X.K X.mg W (sRet f)) := PS.re (ps_ret h) fun Z σ H h => by
  obtain ⟨as, env, st, E, S, h⟩ := h
  exact re_thenS E S h fun r st1 as1 H1 v x E1 S1 r1 h1 => h1 as1 H1 v (.refl _ _) S1 r1
def sRetN : DenS := fun _ st => .ret .non st
theorem ps_retN' : PS X (.Return none pos) (RS X.K X.mg W sRetN) := PS.re ps_retN fun Z σ H h => by
  obtain ⟨as, env, st, E, S, h⟩ := h
  exact h as H .non (.refl _ _) S .non
def sExpr (f : Den) : DenS := fun env st => (f env st).then env fun _ st1 => .nx env st1
theorem ps_expr' {e : Expr} {f : Den} (h : PE X e (RE X.K X.mg W f)) (hs : swapsWith e none pos.line X.env = pure false) : PS X (.Expr e pos) (RS X.K X.mg W (sExpr f)) := PS.re (ps_expr h hs) fun Z σ H h => by
  obtain ⟨as, env, st, E, S, h⟩ := h
  exact re_thenS E S h fun r st1 as1 H1 v x E1 S1 r1 h1 => h1 as1 H1 σ (.refl _ _) S1 E1
theorem ps_doc' {x : Str} {j} {pos'} : PS X (.Expr (.Constant (.str x) j pos) pos') (RS X.K X.mg W sSkip) := PS.re ps_doc fun _ _ _ h => rs_skip h
def sIf (t : DenB) (f g : DenS) : DenS := fun env st => (t env st).then env fun b st1 => if b then f env st1 else g env st1
theorem ps_if' {c : Expr} {a b : List Stmt} {t : DenB} {f g : DenS} (hc : PT X c (RT X.K X.mg W t)) (ha : PSs X a (RS X.K X.mg W f)) (hb : PSs X b (RS X.K X.mg W g)) : PS X (.If c a b pos) (RS X.K X.mg W (sIf t f g)) := PS.re (ps_if hc ha hb) fun Z σ H h => by
  obtain ⟨as, env, st, E, S, h⟩ := h
  refine rt_thenS E S h fun r st1 as1 H1 x E1 S1 h1 => ?_
  cases r with
  | true => exact iteT ⟨as1, env, st1, E1, S1, h1⟩
  | false => exact iteF ⟨as1, env, st1, E1, S1, h1⟩

/-! ### targets: names, tuples of them -/
abbrev DenT := D → Env → Option Env
/-- nothing but the own names changes -/
def Sm (ow : Option (List Nat)) (σ σ' : St) : Prop := match ow with
  | none => True
  | some vs => wipe σ' vs = wipe σ vs
def Ow (ow : Option (List Nat)) (i : Nat) : Prop := match ow with
  | none => True
  | some vs => i ∈ vs
theorem Sm.trans {ow : Option (List Nat)} {a b c : St} (h : Sm ow a b) (h' : Sm ow b c) : Sm ow a c := by
  cases ow with
  | none => trivial
  | some vs => exact Eq.trans (show wipe c vs = wipe b vs from h') h
theorem Sm.refl (ow : Option (List Nat)) (a : St) : Sm ow a a := by
  cases ow with
  | none => trivial
  | some vs => rfl
theorem wipe_set (σ : St) (i : Nat) (x : Option V) : ∀ vs : List Nat, wipe (σ.set i x) vs = if i ∈ vs then wipe σ vs else (wipe σ vs).set i x
  | [] => by simp [wipe]
  | v :: vs => by
    unfold wipe
    rw [wipe_set σ i x vs]
    by_cases h : i ∈ vs
    · simp [h]
    · by_cases e : i = v
      · subst e
        simp [h]
      · rw [if_neg h, if_neg (by simp [e, h]), List.set_comm _ _ e]
theorem Sm.set {ow : Option (List Nat)} {i : Nat} (h : Ow ow i) (σ : St) (x : Option V) : Sm ow σ (σ.set i x) := by
  cases ow with
  | none => trivial
  | some vs =>
    show wipe (σ.set i x) vs = wipe σ vs
    rw [wipe_set, if_pos (show i ∈ vs from h)]
def RG (K : PySem.W.Frag) (ow : Option (List Nat)) (g : DenT) : TG := fun v σ H Q => ∃ as env d env1, EnvR K as H σ env ∧ Rp K as H v d ∧ g d env = some env1 ∧ ∀ σ', EnvR K as H σ' env1 → Sm ow σ σ' → Q σ' H
abbrev DenTs := List D → Env → Option Env
def RGs (K : PySem.W.Frag) (ow : Option (List Nat)) (g : DenTs) : TGs := fun vs σ H Q => ∃ as env ds env1, EnvR K as H σ env ∧ RpL K as H vs ds ∧ g ds env = some env1 ∧ ∀ σ', EnvR K as H σ' env1 → Sm ow σ σ' → Q σ' H
theorem PG.re {X : Cx} {e : Expr} {t t' : TG} (h : PG X e t) (i : ∀ v σ H Q, t' v σ H Q → t v σ H Q) : PG X e t' := ⟨fun pins s σ H v u Q I r q => h.run pins s σ H v u Q I r (i v σ H Q q)⟩
theorem PGs.re {X : Cx} {e : List Expr} {t t' : TGs} (h : PGs X e t) (i : ∀ v σ H Q, t' v σ H Q → t v σ H Q) : PGs X e t' := ⟨fun pins s σ H v u Q I r q => h.run pins s σ H v u Q I r (i v σ H Q q)⟩
def tgName (i : Nat) : DenT := fun d env => some (env.set i (some d))
theorem pg_name' {ow : Option (List Nat)} {i : Nat} {x : Str} (ho : Ow ow i) (hN : X.N.Nodup) (hi : X.N[i]? = some x) (hx : Loc X.env.scope x) (hf : X.fn x = true ∨ X.env.scope.names.lookup x = some .local) : PG X (.Name x pos) (RG X.K ow (tgName i)) := PG.re (pg_name hN hi hx hf) fun v σ H Q h => by
  obtain ⟨as, env, d, env1, E, r, e, q⟩ := h
  cases e
  exact q _ (E.set r i) (Sm.set ho _ _)
def tgNil : DenTs := fun ds env => match ds with
  | [] => some env
  | _ :: _ => none
def tgCons (t : DenT) (u : DenTs) : DenTs := fun ds env => match ds with
  | [] => none
  | d :: r => match t d env with
    | some e1 => u r e1
    | none => none
theorem pgs_nil' {ow : Option (List Nat)} : PGs X [] (RGs X.K ow tgNil) := PGs.re pgs_nil fun v σ H Q h => by
  obtain ⟨as, env, d, env1, E, r, e, q⟩ := h
  cases r with
  | nil => cases e; exact ⟨rfl, q σ E (.refl _ _)⟩
  | cons _ _ => cases e
theorem pgs_cons' {ow : Option (List Nat)} {e : Expr} {es : List Expr} {t : DenT} {u : DenTs} (h1 : PG X e (RG X.K ow t)) (h2 : PGs X es (RGs X.K ow u))
    (hs : (assignEach (e :: es) X.env).map (·.2) = assign e X.env :: (assignEach es X.env).map (·.2)) : PGs X (e :: es) (RGs X.K ow (tgCons t u)) := PGs.re (pgs_cons h1 h2 hs) fun v σ H Q h => by
  obtain ⟨as, env, ds, env1, E, r, e, q⟩ := h
  cases r with
  | nil => cases e
  | cons r1 r2 =>
    rename_i v1 vs d1 ds1
    unfold tgCons at e
    simp only at e
    cases e1 : t d1 env with
    | none => rw [e1] at e; cases e
    | some e2 =>
      rw [e1] at e
      exact ⟨v1, vs, rfl, as, env, d1, e2, E, r1, e1, fun σ1 E1 m1 => ⟨as, e2, ds1, env1, E1, r2, e, fun σ2 E2 m2 => q σ2 E2 (m1.trans m2)⟩⟩
def tgTup (n : Nat) (u : DenTs) : DenT := fun d env => match d with
  | .tup ds => if ds.length = n then u ds env else none
  | _ => none
theorem pg_tup' {ow : Option (List Nat)} {es : List Expr} {k : Nat} {u : DenTs} {n : Nat} (hc : X.calm = true) (h : PGs X es (RGs X.K ow u)) (hn : (assignEach es X.env).length = n) (hst : (assignEach es X.env).findIdx? (·.1) = none) : PG X (.Tuple es k pos) (RG X.K ow (tgTup n u)) :=
  PG.re (pg_tup hc h hn hst) fun v σ H Q h => by
  obtain ⟨as, env, d, env1, E, r, e, q⟩ := h
  unfold tgTup at e
  cases r with
  | tup hT z rl =>
    rename_i p xs ds
    simp only at e
    by_cases hl : ds.length = n
    · rw [if_pos hl] at e
      exact ⟨p, xs, rfl, hT, by rw [rl.length]; exact hl, as, env, ds, env1, E, rl, e, q⟩
    · rw [if_neg hl] at e; cases e
  | _ => cases e
/-- target = e -/
def ostep (o : Option Env) (st : Store) : Fs := match o with
  | some e => .nx e st
  | none => .bad
def sAsg (f : Den) (g : DenT) : DenS := fun env st => (f env st).then env fun d st1 => ostep (g d env) st1
theorem rs_asg {K : PySem.W.Frag} {mg : Str → Option Value} {f : Den} {g : DenT} {Z : Ends} {σ : St} {H : Hp} (h : RS K mg W (sAsg f g) Z σ H) : tAsg (RE K mg W f) (RG K none g) Z σ H := by
  obtain ⟨as, env, st, E, S, h⟩ := h
  refine re_thenS E S h fun r st1 as1 H1 v x E1 S1 r1 h1 => ?_
  cases e : g r env with
  | none => rw [e] at h1; exact h1.elim
  | some e1 =>
    rw [e] at h1
    exact ⟨as1, env, r, e1, E1, r1, e, fun σ1 E2 _ => h1 as1 H1 σ1 (.refl _ _) S1 E2⟩
theorem ps_asg' {tg e : Expr} {f : Den} {g : DenT} (he : PE X e (RE X.K X.mg W f)) (hg : PG X tg (RG X.K none g)) (hs : swapsWithSole [tg] e pos.line X.env = pure false) (hw : swappedStores [tg] e X.env = pure none)
    (h1 : (assignEach [tg] X.env).map (·.2) = [assign tg X.env]) : PS X (.Assign [tg] e pos) (RS X.K X.mg W (sAsg f g)) := PS.re (ps_asg he hg hs hw h1) fun _ _ _ h => rs_asg h
/-- a, b = e1, e2 with plain local names (the pair is not made) -/
def sPar (i j : Nat) (f : DenA) : DenS := fun env st => (f env st).then env fun ds st1 => match ds with
  | [v, w] => .nx ((env.set i (some v)).set j (some w)) st1
  | _ => .bad
theorem rs_par {K : PySem.W.Frag} {mg : Str → Option Value} {f : DenA} {i j : Nat} {Z : Ends} {σ : St} {H : Hp} (h : RS K mg W (sPar i j f) Z σ H) : tPar i j (RA K mg W f) Z σ H := by
  obtain ⟨as, env, st, E, S, h⟩ := h
  refine ra_thenS E S h fun r st1 as1 H1 v x E1 S1 r1 h1 => ?_
  match r, r1, h1 with
  | [_, _], .cons ra (.cons rb .nil), h1 => exact ⟨_, _, rfl, h1 as1 H1 _ (.refl _ _) S1 ((E1.set ra i).set rb j)⟩
  | [], _, h1 => exact h1.elim
  | [_], _, h1 => exact h1.elim
  | _ :: _ :: _ :: _, _, h1 => exact h1.elim

/-! ### while -/
def whileN (t : DenB) (b : DenS) : Nat → Env → Store → Option Fs
  | 0, _, _ => none
  | n + 1, env, st => match t env st with
    | .ok false st1 => some (.nx env st1)
    | .ok true st1 => match b env st1 with
      | .nx e2 st2 => whileN t b n e2 st2
      | .ct e2 st2 => whileN t b n e2 st2
      | .brk e2 st2 => some (.nx e2 st2)
      | .ret d st2 => some (.ret d st2)
      | .exc e2 x fs st2 => some (.exc e2 x fs st2)
      | .bad => some .bad
    | .exc x fs st1 => some (.exc env x fs st1)
    | .bad => some .bad
theorem whileN_mono {t : DenB} {b : DenS} : ∀ (n k : Nat) (env : Env) (st : Store) (o : Fs), whileN t b n env st = some o → whileN t b (n + k) env st = some o
  | 0, _, _, _, _, h => by cases h
  | n + 1, k, env, st, o, h => by
    rw [Nat.add_right_comm]
    unfold whileN at h ⊢
    split at h
    · exact h
    · split at h
      · exact whileN_mono n k _ _ o h
      · exact whileN_mono n k _ _ o h
      · exact h
      · exact h
      · exact h
      · exact h
    · exact h
    · exact h
open Classical in
noncomputable def sWhile (t : DenB) (b : DenS) : DenS := fun env st => if h : ∃ n o, whileN t b n env st = some o then h.choose_spec.choose else .bad
theorem sWhile_of {t : DenB} {b : DenS} {n : Nat} {env : Env} {st : Store} {o : Fs} (h : whileN t b n env st = some o) : sWhile t b env st = o := by
  have hx : ∃ n o, whileN t b n env st = some o := ⟨n, o, h⟩
  unfold sWhile
  rw [dif_pos hx]
  have h2 := hx.choose_spec.choose_spec
  have h3 := whileN_mono _ n _ _ _ h2
  have h4 := whileN_mono _ hx.choose _ _ _ h
  rw [Nat.add_comm] at h4
  rw [h3] at h4
  exact Option.some.inj h4
theorem sWhile_has {t : DenB} {b : DenS} {env : Env} {st : Store} (h : sWhile t b env st ≠ .bad) : ∃ n, whileN t b n env st = some (sWhile t b env st) := by
  by_cases hx : ∃ n o, whileN t b n env st = some o
  · obtain ⟨n, o, e⟩ := hx
    exact ⟨n, by rw [sWhile_of e]; exact e⟩
  · unfold sWhile at h
    rw [dif_neg hx] at h
    exact absurd rfl h
/-- one turn -/
theorem sWhile_eq (t : DenB) (b : DenS) (env : Env) (st : Store) : sWhile t b env st = (t env st).then env fun c st1 => if c then
    (match b env st1 with
      | .nx e2 st2 => sWhile t b e2 st2
      | .ct e2 st2 => sWhile t b e2 st2
      | .brk e2 st2 => .nx e2 st2
      | o => o) else .nx env st1 := by
  have one : ∀ o, (∀ n, whileN t b (n + 1) env st = some o) → sWhile t b env st = o := fun o h => sWhile_of (h 0)
  have rec_ : ∀ e2 st2, (∀ n, whileN t b (n + 1) env st = whileN t b n e2 st2) → sWhile t b env st = sWhile t b e2 st2 := fun e2 st2 h => by
    by_cases hx : ∃ n o, whileN t b n e2 st2 = some o
    · obtain ⟨n, o, e⟩ := hx
      rw [sWhile_of e]
      exact sWhile_of (n := n + 1) (by rw [h]; exact e)
    · have hy : ¬ ∃ n o, whileN t b n env st = some o := fun ⟨n, o, e⟩ => by
        cases n with
        | zero => cases e
        | succ n => exact hx ⟨n, o, by rw [← h]; exact e⟩
      unfold sWhile
      rw [dif_neg hx, dif_neg hy]
  cases e : t env st with
  | ok c st1 =>
    cases c with
    | false => exact one _ fun n => by unfold whileN; rw [e]; rfl
    | true =>
      show _ = match b env st1 with
        | .nx e2 st2 => sWhile t b e2 st2
        | .ct e2 st2 => sWhile t b e2 st2
        | .brk e2 st2 => .nx e2 st2
        | o => o
      cases e1 : b env st1 with
      | nx e2 st2 => exact rec_ _ _ fun n => by rw [whileN, e]; simp only [e1]
      | ct e2 st2 => exact rec_ _ _ fun n => by rw [whileN, e]; simp only [e1]
      | brk e2 st2 => exact one _ fun n => by rw [whileN, e]; simp only [e1]
      | ret d st2 => exact one _ fun n => by rw [whileN, e]; simp only [e1]
      | exc e2 x fs st2 => exact one _ fun n => by rw [whileN, e]; simp only [e1]
      | bad => exact one _ fun n => by rw [whileN, e]; simp only [e1]
  | exc x fs st1 => exact one _ fun n => by rw [whileN, e]; rfl
  | bad => exact one _ fun n => by rw [whileN, e]; rfl
theorem rs_while {K : PySem.W.Frag} {mg : Str → Option Value} {t : DenB} {b : DenS} {Z : Ends} {σ : St} {H : Hp} (h : RS K mg W (sWhile t b) Z σ H) : tWhile (RT K mg W t) (RS K mg W b) Z σ H := by
  obtain ⟨as, env, st, E, S, h⟩ := h
  have nb : sWhile t b env st ≠ .bad := fun z => by rw [z] at h; exact h
  obtain ⟨n, hn⟩ := sWhile_has nb
  generalize sWhile t b env st = o at h hn
  refine ⟨fun m σ H => ∃ as env st, EnvR K as H σ env ∧ StR K as H st ∧ whileN t b m env st = some o ∧ o.wp K mg W as H Z, ⟨n, as, env, st, E, S, hn, h⟩, ?_⟩
  rintro m σ1 H1 ⟨as1, env1, st1, E1, S1, e, h1⟩
  cases m with
  | zero => cases e
  | succ m =>
    unfold whileN at e
    refine ⟨as1, env1, st1, E1, S1, ?_⟩
    cases et : t env1 st1 with
    | bad =>
      rw [et] at e; cases e; exact h1
    | exc x fs st2 =>
      rw [et] at e; cases e; exact WE.of E1 h1
    | ok c st2 =>
      rw [et] at e
      intro as2 H2 x2 S2
      have E2 := E1.ext x2
      have h2 := Fs.ext x2 h1
      cases c with
      | false =>
        cases e
        exact iteF (h2 as2 H2 σ1 (.refl _ _) S2 E2)
      | true =>
        refine iteT ⟨fun σ H => ∃ as env st, EnvR K as H σ env ∧ StR K as H st ∧ whileN t b m env st = some o ∧ o.wp K mg W as H Z, fun σ' H' w => ⟨m, Nat.lt_succ_self _, w⟩, as2, env1, st2, E2, S2, ?_⟩
        simp only at e
        cases eb : b env1 st2 with
        | nx e2 st3 => rw [eb] at e; exact fun as3 H3 σ3 x3 S3 E3 => ⟨as3, e2, st3, E3, S3, e, Fs.ext x3 h2⟩
        | ct e2 st3 => rw [eb] at e; exact fun as3 H3 σ3 x3 S3 E3 => ⟨as3, e2, st3, E3, S3, e, Fs.ext x3 h2⟩
        | brk e2 st3 => rw [eb] at e; cases e; exact h2
        | ret d st3 => rw [eb] at e; cases e; exact h2
        | exc e2 x fs st3 => rw [eb] at e; cases e; exact h2
        | bad => rw [eb] at e; cases e; exact h2
theorem ps_while' {c : Expr} {body : List Stmt} {t : DenB} {b : DenS} (hp : PassesOwn (model X.prog X.w) X.A X.env X.xe) (hc : PT X c (RT X.K X.mg W t)) (hb : PSs X body (RS X.K X.mg W b)) : PS X (.While c body [] pos) (RS X.K X.mg W (sWhile t b)) :=
  PS.re (ps_while hp hc hb) fun _ _ _ h => rs_while h
end
end
end L2.PyD
/-! EnT: enumerate(tuple). -/
namespace L2.PyD
open PySem PySem.Spec PyProof.Rows
set_option maxHeartbeats 1000000 in
theorem meets_enumT (a : Addr) (its : Array Value) : Meets (Builtin.«enumerate.__new__» ⟨[.type "enumerate", .ref a], []⟩) (fun _ R s => s.heap.IsTuple a its ∧
      R (.ok (.ret (.ref (s.heap.push { cls := .type "tuple_iterator", data := .fields #[.ref a, .int 0 0] }).objs.size))) { s with heap := (s.heap.push { cls := .type "tuple_iterator", data := .fields #[.ref a, .int 0 0] }).push { cls := .type "enumerate", data := .fields #[.none, .bool false, .ref s.heap.objs.size, rawInt 0, .none, .none] } }) :=
  .of_wp fun prog w A R s h => by
    obtain ⟨hp, g, d, tk, os⟩ := s; obtain ⟨ht, h⟩ := h
    have hsub := sub_enumerate
    have go : ∀ {A' : Around} {E : Value → Shared → Prop} {Q : Value → Shared → Prop}, Q (.ref hp.objs.size) ⟨hp.push { cls := .type "tuple_iterator", data := .fields #[.ref a, .int 0 0] }, g, d, tk, os⟩ → wpAny (model prog w) A' (pyIter (.ref a)) Q E ⟨hp, g, d, tk, os⟩ :=
      fun q => wpAny_pyIter_tuple (s := ⟨hp, g, d, tk, os⟩) ht q
    wp_walk using go
    refine wpAny_stack_any fun st => wpAny_pure ?_
    split
    · rename_i c _ _ _ _ _
      cases (c == Value.type "enumerate") <;> (wp_walk using go; exact ⟨_, rfl, h⟩)
    · wp_walk using go
      exact ⟨_, rfl, h⟩
theorem call_enumT {prog : Program} {w : World} {A : Around} {E : Value → Shared → Prop} {s : Shared} {a : Addr} {its : Array Value} {Q : Value → Shared → Prop} (ht : s.heap.IsTuple a its)
    (h : ∀ h', IsEnum h' (s.heap.objs.size + 1) s.heap.objs.size 0 .none → h'.IsTupleIter s.heap.objs.size a 0 → (∀ b o, s.heap.get? b = some o → h'.get? b = some o) → Q (.ref (s.heap.objs.size + 1)) { s with heap := h' }) :
    wpAny (model prog w) A (call (.type "enumerate") [.ref a]) Q E s := by
  refine callType_new F.called_enumerate (by decide) (F.typeCall_enumerate_1 _) (F.newCall_enumerate_1 _) (fun obj => F.args_object_init_2 obj _) F.entry_enumerate_new (meets_enumT a its) ⟨ht, ?_⟩
  have hz : (s.heap.push { cls := .type "tuple_iterator", data := .fields #[.ref a, .int 0 0] }).objs.size = s.heap.objs.size + 1 := Heap.size_push ..
  show _ ∧ _
  rw [hz]
  have he := Heap.get?_push_size (s.heap.push { cls := .type "tuple_iterator", data := .fields #[.ref a, .int 0 0] }) (o := { cls := .type "enumerate", data := .fields #[.none, .bool false, .ref s.heap.objs.size, rawInt 0, .none, .none] }) rfl
  rw [hz] at he
  exact ⟨⟨_, he, rfl⟩, h _ he ⟨_, Heap.get?_push_of_some _ (Heap.get?_push_size _ rfl), rfl, rfl⟩ fun b o x => Heap.get?_push_of_some _ (Heap.get?_push_of_some _ x)⟩
theorem enumT_end {prog : Program} {w : World} {A : Around} {E : Value → Shared → Prop} {s : Shared} {e it a : Addr} {i : Nat} {its : Array Value} {old : Value} {Q : Option Value → Shared → Prop} (hh : A.handled = none) (he : IsEnum s.heap e it i old) (hit : s.heap.IsTupleIter it a i) (ht : s.heap.IsTuple a its) (hx : its[i]? = none)
    (hQ : ∀ h', Heap.ExtBut it s.heap h' → Q none { s with heap := h' }) : wpAny (model prog w) A (pyNext (.ref e)) Q E s := by
  have ty : s.TypeIs (.ref e) "enumerate" := ⟨_, he, rfl⟩
  unfold pyNext
  refine wpAny_bind (wpAny_attempt (wpAny_callSpecial?_slot (name := Str.ofString "__next__") ty F.slot_enumerate_next (wpAny_call_entry F.slot_enumerate_next ty F.entry_enumerate_next ?_ (F.args_enumerate_next_1 _))))
  show wpAny _ _ (field (.ref e) 2 >>= _) _ _ _
  refine wpAny_bind (wpAny_field he rfl (x := .ref it) rfl (wpAny_bind (wpAny_nextOf_tuple_end hh hit ht hx fun h' x k hx' => ?_)))
  obtain ⟨o, ho, hc⟩ := hx'
  exact wpAny_bind (wpAny_isInstance (T := "StopIteration") (b := true) ⟨o, ho, hc⟩ isSubtype_stop (wpAny_pure (hQ _ k)))
/-- the tuple at a, each item in a new pair -/
def IteT (K : PySem.W.Frag) (a : Addr) : It :=
  ⟨fun i H => ∃ (xs : List V) (x : V), SqT K H a xs ∧ xs[i]? = some x, fun i H v H' => ∃ T x, v = .ref T ∧ H T = none ∧ H' = upd H T (.tup [.int (i : Nat), x]) ∧ ∀ xs, SqT K H a xs → xs[i]? = some x, fun i H => ∃ xs : List V, SqT K H a xs ∧ xs.length ≤ i⟩
theorem tuple_inj {X : Cx} {pins : List (Addr × Obj)} {σ : St} {H : Hp} {s : Shared} {a : Addr} {xs ys : List V} (I : Inv X pins σ H s) (h : SqT X.K H a xs) (h' : SqT X.K H a ys) : xs = ys := I.tuple_inj h h'
theorem turn_enumT {P : Program} {w : World} {K : PySem.W.Frag} {elts : List Expr} {kk : Nat} {tpos : Pos} (a e it : Addr) :
    Turn P w K (.Tuple elts kk tpos) (IteT K a) [e, it] e (fun i h => (∃ old, IsEnum h e it ((i : Nat) : Int) old) ∧ h.IsTupleIter it a i ∧ e ≠ it ∧ a ≠ it ∧ e ≠ a) where
  mem := List.mem_cons_self ..
  obj := fun i h st b hb => by
    obtain ⟨⟨old, he⟩, ⟨o, ho, hc, hd⟩, _⟩ := st
    rcases List.mem_cons.mp hb with z | z
    · rw [z]; exact ⟨_, he, fun v q => nomatch q⟩
    · rw [List.mem_singleton.mp z]; exact ⟨o, ho, fun v q => by rw [hd] at q; cases q⟩
  keep := fun i h h' st k => let ⟨⟨old, he⟩, hi, r⟩ := st; ⟨⟨old, k e (List.mem_cons_self ..) _ he⟩, hi.at fun o q => k it (List.mem_cons_of_mem _ (List.mem_singleton.mpr rfl)) o q, r⟩
  item := by
    intro X hP hw hK hc i pins s σ H E I hf st hg
    subst hP hw hK
    obtain ⟨⟨old, he⟩, hit, n1, n2, n3⟩ := st
    obtain ⟨xs, x, hq, hx⟩ := hg
    obtain ⟨its, rv, p, hz⟩ := I.tuple hq
    obtain ⟨u, hu, ru⟩ := rv.get hx
    have hi : i < its.toArray.size := by
      have := (List.getElem?_eq_some_iff.mp hu).1
      simpa using this
    have hel : e < s.heap.objs.size := Heap.lt_size he
    have hil : it < s.heap.objs.size := by obtain ⟨_, q, _⟩ := hit; exact Heap.lt_size q
    refine wpAny_pyNext_enum_itemD (Draws.tuple (A := X.A.in1) (I.ok.hd hc) it a n2 its.toArray) he ⟨hit, p⟩ hi n1 (by simp [n1, n3]) fun y h' tk hy ho hs hT hsz hk => ?_
    have ey : y = u := by
      rw [show its.toArray[i]? = its[i]? by simp] at hy
      rw [hu] at hy
      exact (Option.some.inj hy).symm
    subst ey
    refine ⟨_, rfl, wpAny_letOwnedTupleGo_enum (s := { s with heap := h', toks := tk + 1 }) ho fun h2 he2 sb => ?_⟩
    have hT2 := (sb.2 _ (Nat.ne_of_gt hel)).trans hT
    have new : ObjOk X.prog X.w (upd H s.heap.objs.size (.tup [.int (i : Nat), x])) h2 s.heap.objs.size (.tup [.int (i : Nat), x]) :=
      ⟨by show 2 ≤ sizeLine; decide, [.int i tk, y], .cons ⟨_, rfl⟩ (.cons ru .nil), ⟨_, hT2, rfl, _, rfl⟩⟩
    have off : ∀ b, b ∉ [e, it] → b ≠ e ∧ b ≠ it := fun b hb => ⟨fun z => hb (by simp [z]), fun z => hb (by simp [z])⟩
    have I1 : Inv X pins σ (upd H s.heap.objs.size (.tup [.int (i : Nat), x])) { s with heap := h2, toks := tk + 1 } :=
      I.turnedNew (ch := [e, it]) (fun b ob hb q => (sb.2 b (off b hb).1).trans (hk b ob (off b hb).1 (off b hb).2 q)) hf (Nat.le_refl _) new
    refine ⟨.ref s.heap.objs.size, _, I1, rfl, ⟨_, x, rfl, I.hok.fresh (Nat.le_refl _), rfl, fun ys hy => by rw [tuple_inj I hy hq]; exact hx⟩, ⟨⟨y, ?_⟩, hs.1.at fun o q => (sb.2 it (Ne.symm n1)).trans q, n1, n2, n3⟩, fun b hb => ?_⟩
    · have e1 : ((i + 1 : Nat) : Int) = (i : Int) + 1 := by omega
      rw [e1]; exact he2
    · have hb' : b < s.heap.objs.size := by
        rcases List.mem_cons.mp hb with z | z
        · rw [z]; exact hel
        · rw [List.mem_singleton.mp z]; exact hil
      rw [upd_ne (Nat.ne_of_lt hb')]
      exact (hf b hb).1
  done := by
    intro X hP hw hK hc i pins s σ H E I hf st hg
    subst hP hw hK
    obtain ⟨⟨old, he⟩, hit, n1, n2, n3⟩ := st
    obtain ⟨xs, hq, hx⟩ := hg
    obtain ⟨its, rv, p, hz⟩ := I.tuple hq
    obtain ⟨f0, f1, f2, f3, f4, f5⟩ := hf it (List.mem_cons_of_mem _ (List.mem_singleton.mpr rfl))
    have hl := rv.length
    exact enumT_end (I.ok.hd hc) he hit p (by simp; omega) fun h' eb => ⟨rfl, I.turned (t' := s.toks) (fun b o hb q => eb b o hb q) f0 f1 f3 f4 f5⟩
  self := fun A i s Q E st h => let ⟨⟨_, he⟩, _⟩ := st; wpAny_pyIter_enum he h
/-- enumerate(e), of a list or a tuple -/
def iEnumA (K : PySem.W.Frag) (ta : TA) : TI := fun σ H R => ta σ H fun vs H1 => ∃ a, vs = [.ref a] ∧ ((∃ xs, SqL K H1 a xs ∧ R (Ite K a) H1) ∨ ∃ xs, SqT K H1 a xs ∧ R (IteT K a) H1)
theorem pi_enumA {X : Cx} {e : Expr} {ta : TA} {p pos tpos : Pos} {elts : List Expr} {kk : Nat} (hg : Gl X "enumerate") (hm : X.mg "enumerate" = none) (ha : PA X [e] ta) (hs : starEach [e] X.env = [(false, eval e X.env)]) :
    PI X (.Tuple elts kk tpos) (.Call (.Name "enumerate" p) [e] [] pos) (iEnumA X.K ta) := by
  refine ⟨fun pins s σ H R I h => ?_⟩
  refine Call_ (ld_blt I hg hm boot_enumerate (PyProof.Rows.callWith_type1 (thn (ha.run pos pins s σ H _ I h) fun us s1 ⟨vs, H1, I1, r1, a, ev, q1⟩ => ?_) hs rfl))
  subst ev
  cases r1 with
  | cons r rr =>
    cases rr
    cases r
    have fps : ∀ b ∈ [s1.heap.objs.size + 1, s1.heap.objs.size], FpOk X pins H1 b := fun b hb => by
      have hle : s1.heap.objs.size ≤ b := by
        rcases List.mem_cons.mp hb with z | z
        · rw [z]; exact Nat.le_add_right _ _
        · rw [List.mem_singleton.mp z]; exact Nat.le_refl _
      exact I1.fpOk hle (I1.hok.fresh hle)
    rcases q1 with ⟨xs, hq, q⟩ | ⟨xs, hq, q⟩
    · obtain ⟨its, rv, pl, hz⟩ := I1.list hq
      refine call_enumerate_list pl.isList fun h' he hit hsz hk => wpAny_pyIter_enum he ?_
      exact ⟨s1.heap.objs.size + 1, [s1.heap.objs.size + 1, s1.heap.objs.size], _, _, H1, rfl, I1.kept (t' := s1.toks) hk, turn_enum a (s1.heap.objs.size + 1) s1.heap.objs.size, ⟨⟨.none, he⟩, hit, Nat.succ_ne_self _⟩, fps, q⟩
    · obtain ⟨its, rv, pt, hz⟩ := I1.tuple hq
      have ha : a < s1.heap.objs.size := pt.lt
      refine call_enumT pt fun h' he hit hk => wpAny_pyIter_enum he ?_
      exact ⟨s1.heap.objs.size + 1, [s1.heap.objs.size + 1, s1.heap.objs.size], _, _, H1, rfl, I1.kept (t' := s1.toks) hk, turn_enumT a (s1.heap.objs.size + 1) s1.heap.objs.size, ⟨⟨.none, he⟩, hit, Nat.succ_ne_self _, Nat.ne_of_lt ha, Nat.ne_of_gt (Nat.lt_succ_of_lt ha)⟩, fps, q⟩
end L2.PyD
/-! PyD, part 4: what loops and comprehensions walk; for; list comprehensions. -/
namespace L2.PyD
open PySem PySem.Spec PyProof.Rows
noncomputable section

/-- the items, and the cell that must stay as it is meanwhile -/
abbrev Items := List D × Option (Nat × Cell)
abbrev DenI := Env → Store → Out Items
def Gd (src : Option (Nat × Cell)) (st : Store) : Prop := match src with
  | none => True
  | some (i, c) => st[i]? = some c
def ItOk (K : PySem.W.Frag) (J : It) (as : List Addr) (H : Hp) (it : Items) : Prop :=
  ∀ as2 H2 st2, Ext as H as2 H2 → StR K as2 H2 st2 → Gd it.2 st2 → it.1.length ≤ sizeLine ∧ ∀ i : Nat,
    (∀ d, it.1[i]? = some d → J.go i H2 ∧ ∀ x H3, J.yld i H2 x H3 → Ext as2 H2 as2 H3 ∧ StR K as2 H3 st2 ∧ Rp K as2 H3 x d) ∧ (it.1.length ≤ i → J.stop i H2)
section
variable (K : PySem.W.Frag) (mg : Str → Option Value) (W : WX)
def WI (as : List Addr) (H : Hp) (R : It → Hp → Prop) (it : Items) (st' : Store) : Prop :=
  ∀ as' H' J, Ext as H as' H' → StR K as' H' st' → Gd it.2 st' → ItOk K J as' H' it → R J H'
def RI (f : DenI) : TI := fun σ H R => ∃ as env st, EnvR K as H σ env ∧ StR K as H st ∧ (f env st).wp (WI K as H R) (WE K mg W as H σ)
end
theorem PI.re {X : Cx} {tg e : Expr} {t t' : TI} (h : PI X tg e t) (i : ∀ σ H R, t' σ H R → t σ H R) : PI X tg e t' := ⟨fun pins s σ H R I q => h.run pins s σ H R I (i σ H R q)⟩

theorem ItOk.list {K : PySem.W.Frag} {a : Addr} {as : List Addr} {H : Hp} {ds : List D} {src : Option (Nat × Cell)}
    (h : ∀ as2 H2 st2, Ext as H as2 H2 → StR K as2 H2 st2 → Gd src st2 → ∃ xs, SqL K H2 a xs ∧ xs.length ≤ sizeLine ∧ RpL K as2 H2 xs ds) : ItOk K (Itl K a) as H (ds, src) := by
  intro as2 H2 st2 x2 S2 g
  obtain ⟨xs, hq, z, r⟩ := h as2 H2 st2 x2 S2 g
  refine ⟨by show ds.length ≤ sizeLine; rw [← r.length]; exact z, fun i => ?_⟩
  refine ⟨fun d e => ?_, fun hi => ⟨xs, hq, by rw [r.length]; exact hi⟩⟩
  obtain ⟨v, h1, h2⟩ := r.get e
  refine ⟨⟨xs, v, hq, h1⟩, fun x H3 y => ?_⟩
  obtain ⟨e3, y⟩ := y
  subst e3
  have := y xs hq
  rw [h1] at this
  cases this
  exact ⟨.refl _ _, S2, h2⟩
theorem ItOk.tuple {K : PySem.W.Frag} {a : Addr} {as : List Addr} {H : Hp} {ds : List D} {xs : List V} (hq : SqT K H a xs) (z : xs.length ≤ sizeLine) (r : RpL K as H xs ds) : ItOk K (Itt K a) as H (ds, none) := by
  intro as2 H2 st2 x2 S2 g
  have hq := SqT.ext x2 hq
  have r := RpL.ext x2 r
  refine ⟨by show ds.length ≤ sizeLine; rw [← r.length]; exact z, fun i => ?_⟩
  refine ⟨fun d e => ?_, fun hi => ⟨xs, hq, by rw [r.length]; exact hi⟩⟩
  obtain ⟨v, h1, h2⟩ := r.get e
  refine ⟨⟨xs, v, hq, h1⟩, fun x H3 y => ?_⟩
  obtain ⟨e3, y⟩ := y
  subst e3
  have := y xs hq
  rw [h1] at this
  cases this
  exact ⟨.refl _ _, S2, h2⟩
def rng (lo : Int) (n : Nat) : List D := (List.range n).map fun (k : Nat) => D.int (lo + k)
theorem ItOk.range {K : PySem.W.Frag} {as : List Addr} {H : Hp} (lo : Int) (n : Nat) (z : n ≤ sizeLine) : ItOk K (Itr lo n) as H (rng lo n, none) := by
  intro as2 H2 st2 x2 S2 g
  refine ⟨by show (rng lo n).length ≤ sizeLine; simpa [rng] using z, fun i => ?_⟩
  refine ⟨fun d e => ?_, fun hi => by
    show n ≤ i
    simpa [rng] using hi⟩
  unfold rng at e
  have hi : i < n := by simpa using (List.getElem?_eq_some_iff.mp e).1
  refine ⟨hi, fun x H3 y => ?_⟩
  obtain ⟨e3, e4⟩ := y
  subst e3 e4
  simp [hi] at e
  subst e
  exact ⟨.refl _ _, S2, .int _⟩
/-- a sequence's items: a tuple, a list, a cell's list -/
def seqD (st : Store) : D → Option Items
  | .tup ds => some (ds, none)
  | .lst ds => some (ds, none)
  | .frl ds => some (ds, none)
  | .cell i => match st[i]? with
    | some (.lst ds) => some (ds, some (i, .lst ds))
    | _ => none
  | _ => none
/-- how such a sequence lies -/
theorem seq_lies {K : PySem.W.Frag} {as : List Addr} {H : Hp} {st : Store} {v : V} {d : D} {it : Items} (S : StR K as H st) (r : Rp K as H v d) (e : seqD st d = some it) : Gd it.2 st ∧ ∃ a, v = .ref a ∧
    (((∀ as2 H2 st2, Ext as H as2 H2 → StR K as2 H2 st2 → Gd it.2 st2 → ∃ xs, SqL K H2 a xs ∧ xs.length ≤ sizeLine ∧ RpL K as2 H2 xs it.1)) ∨ (it.2 = none ∧ ∃ xs, SqT K H a xs ∧ xs.length ≤ sizeLine ∧ RpL K as H xs it.1)) := by
  cases r with
  | tup h z r => cases e; exact ⟨trivial, _, rfl, .inr ⟨rfl, _, h, z, r⟩⟩
  | lst h c z r =>
    cases e
    refine ⟨trivial, _, rfl, .inl fun as2 H2 st2 x2 S2 g => ?_⟩
    exact ⟨_, SqL.of (x2.keep _ _ h (.inl c) (fun _ z => nomatch z)), z, RpL.ext x2 r⟩
  | frl h z r => cases e; exact ⟨trivial, _, rfl, .inl fun as2 H2 st2 x2 S2 g => ⟨_, (FixL.ext x2 h).seq, z, RpL.ext x2 r⟩⟩
  | cell h =>
    obtain ⟨c, e1, hR⟩ := S.get' h
    simp only [seqD, e1] at e
    cases c with
    | dct lk kvs => cases e
    | lst ds =>
      cases e
      refine ⟨e1, _, rfl, .inl fun as2 H2 st2 x2 S2 g => ?_⟩
      obtain ⟨p2, h2, xs, hx, z, r⟩ := S2.get g
      rw [x2.get h] at h2
      cases h2
      exact ⟨xs, SqL.of hx, z, r⟩
  | _ => cases e
def oitems (o : Option Items) (st : Store) : Out Items := match o with
  | some it => .ok it st
  | none => .bad
/-- enumerate: the items in new pairs -/
def enumG : Nat → List D → List D
  | _, [] => []
  | i, d :: r => .tup [.int (i : Nat), d] :: enumG (i + 1) r
theorem enumG_len : ∀ (i : Nat) (ds : List D), (enumG i ds).length = ds.length
  | _, [] => rfl
  | i, _ :: r => congrArg (· + 1) (enumG_len (i + 1) r)
theorem enumG_get : ∀ (j : Nat) (ds : List D) (i : Nat), (enumG j ds)[i]? = (ds[i]?).map fun d => .tup [.int ((j + i : Nat) : Int), d]
  | _, [], i => by simp [enumG]
  | j, d :: r, 0 => by simp [enumG]
  | j, d :: r, i + 1 => by
    unfold enumG
    rw [List.getElem?_cons_succ, List.getElem?_cons_succ, enumG_get (j + 1) r i]
    have : j + 1 + i = j + (i + 1) := by omega
    rw [this]
theorem ItOk.enum {K : PySem.W.Frag} {a : Addr} {as : List Addr} {H : Hp} {ds : List D} {src : Option (Nat × Cell)}
    (h : ∀ as2 H2 st2, Ext as H as2 H2 → StR K as2 H2 st2 → Gd src st2 → ∃ xs, SqL K H2 a xs ∧ xs.length ≤ sizeLine ∧ RpL K as2 H2 xs ds) : ItOk K (Ite K a) as H (enumG 0 ds, src) := by
  intro as2 H2 st2 x2 S2 g
  obtain ⟨xs, hq, z, r⟩ := h as2 H2 st2 x2 S2 g
  refine ⟨by show (enumG 0 ds).length ≤ sizeLine; rw [enumG_len, ← r.length]; exact z, fun i => ?_⟩
  refine ⟨fun d e => ?_, fun hi => ⟨xs, hq, by rw [r.length]; rw [enumG_len] at hi; exact hi⟩⟩
  rw [enumG_get] at e
  cases ed : ds[i]? with
  | none => rw [ed] at e; cases e
  | some d0 =>
    rw [ed, Nat.zero_add] at e
    cases e
    obtain ⟨v, h1, h2⟩ := r.get ed
    refine ⟨⟨xs, v, hq, h1⟩, fun x H3 y => ?_⟩
    obtain ⟨T, x1, e0, hn, e3, y⟩ := y
    subst e0 e3
    have := y xs hq
    rw [h1] at this
    cases this
    obtain ⟨xx, SS⟩ := S2.alloc (.tup [.int (i : Nat), v]) hn
    refine ⟨xx, SS, .tup (.inl (.inl (by simp [upd]))) (by show 2 ≤ sizeLine; decide) (.cons (.int _) (.cons (Rp.ext xx h2) .nil))⟩
/-- for .. in e -/
def iVal (f : Den) : DenI := fun env st => (f env st).bind fun d st1 => oitems (seqD st1 d) st1
section
variable {X : Cx} {W : WX} {pos : Pos} {tg : Expr}
/-- one more object of the machine's own (an iterator) -/
theorem iter_new {pins : List (Addr × Obj)} {σ : St} {H : Hp} {s : Shared} {J : It} {o : Obj} {R : It → Hp → Prop} {tn : Nat → Heap → Prop} (I : Inv X pins σ H s) (T : Turn X.prog X.w X.K tg J [s.heap.objs.size] s.heap.objs.size tn)
    (t0 : tn 0 (s.heap.push o)) (q : R J H) : PIE X pins σ tg R (.ref s.heap.objs.size) { s with heap := s.heap.push o } := by
  refine ⟨s.heap.objs.size, [s.heap.objs.size], tn, J, H, rfl, ?_, T, t0, ?_, q⟩
  · exact I.kept (t' := s.toks) fun b u e => Heap.get?_push_of_some _ e
  · intro b hb
    rw [List.mem_singleton.mp hb]
    exact I.fpOk (Nat.le_refl _) (I.hok.fresh (Nat.le_refl _))
theorem pi_val' {e : Expr} {f : Den} (he : PE X e (RE X.K X.mg W f)) : PI X tg e (RI X.K X.mg W (iVal f)) := by
  constructor
  intro pins s σ H R I h
  obtain ⟨as, env, st, E, S, h⟩ := h
  have hr : RE X.K X.mg W f σ H (fun v H1 => ∃ a, v = .ref a ∧ (((∃ xs, SqL X.K H1 a xs) ∧ R (Itl X.K a) H1) ∨ ((∃ xs, SqT X.K H1 a xs) ∧ R (Itt X.K a) H1))) := by
    refine re_then E S h fun r st1 as1 H1 v x1 E1 S1 r1 h1 => ?_
    generalize e : seqD st1 r = o at h1
    cases o with
    | none => exact h1.elim
    | some it =>
      obtain ⟨g, a, ev, hh⟩ := seq_lies S1 r1 e
      refine ⟨a, ev, ?_⟩
      rcases hh with hh | ⟨en, xs, hq, z, rl⟩
      · obtain ⟨xs, hq, z, rl⟩ := hh as1 H1 st1 (.refl _ _) S1 g
        exact .inl ⟨⟨xs, hq⟩, h1 as1 H1 _ x1 S1 g (ItOk.list hh)⟩
      · obtain ⟨i1, i2⟩ := it
        cases en
        exact .inr ⟨⟨xs, hq⟩, h1 as1 H1 _ x1 S1 g (ItOk.tuple hq z rl)⟩
  refine thn (he.run pins s σ H _ I hr) fun v s1 z => ?_
  obtain ⟨x, H1, I1, r1, a, ea, q⟩ := z
  subst ea
  obtain rfl : v = Value.ref a := r1
  rcases q with ⟨⟨xs, hq⟩, q⟩ | ⟨⟨xs, hq⟩, q⟩
  · obtain ⟨its, rv, p, hz⟩ := I1.list hq
    exact wpAny_pyIter_list p.isList (iter_new I1 (turn_list a _) ⟨_, Heap.get?_push_size _ rfl, rfl, rfl⟩ q)
  · obtain ⟨its, rv, p, hz⟩ := I1.tuple hq
    exact wpAny_pyIter_tuple p (iter_new I1 (turn_tuple a _) ⟨_, Heap.get?_push_size _ rfl, rfl, rfl⟩ q)
/-- range(n), range(a, b) -/
def inR (i : Int) : Bool := dec (-(2 ^ 62) ≤ i) && dec (i < 2 ^ 62)
theorem inR_of {i : Int} (h : inR i = true) : -(2 ^ 62) ≤ i ∧ i < 2 ^ 62 := by
  unfold inR at h
  rw [Bool.and_eq_true] at h
  exact ⟨of_dec h.1, of_dec h.2⟩
def rngD : List D → Option Items
  | [.int n] => if inR n && dec (n.toNat ≤ sizeLine) then some (rng 0 n.toNat, none) else none
  | [.int a, .int b] => if inR a && inR b && dec ((b - a).toNat ≤ sizeLine) then some (rng a (b - a).toNat, none) else none
  | _ => none
theorem rngD1 (n : Int) : rngD [.int n] = if inR n && dec (n.toNat ≤ sizeLine) then some (rng 0 n.toNat, none) else none := rfl
theorem rngD2 (a b : Int) : rngD [.int a, .int b] = if inR a && inR b && dec ((b - a).toNat ≤ sizeLine) then some (rng a (b - a).toNat, none) else none := rfl
def iRng (f : DenA) : DenI := fun env st => (f env st).bind fun ds st1 => oitems (rngD ds) st1
theorem pi_range1' {a : Expr} {f : DenA} {p : Pos} (hg : Gl X "range") (hm : X.mg "range" = none) (ha : PA X [a] (RA X.K X.mg W f)) (hs : starEach [a] X.env = [(false, eval a X.env)]) (h1 : ∀ ds env st st1, f env st = .ok ds st1 → ds.length = 1) :
    PI X tg (.Call (.Name "range" p) [a] [] pos) (RI X.K X.mg W (iRng f)) := PI.re (pi_range1 hg hm ha hs) fun σ H R h => by
  obtain ⟨as, env, st, E, S, h⟩ := h
  have hl := fun ds st1 => h1 ds env st st1
  refine ⟨as, env, st, E, S, Out.wp_mono (Out.wp_bind h) (fun ds st1 e h2 as1 H1 vs x1 S1 r1 => ?_) fun _ _ _ z => z⟩
  have h3 := hl ds st1 e
  match ds, r1, h3, h2 with
  | [.int n], .cons r .nil, _, h2 =>
    rw [rngD1] at h2
    by_cases hn : (inR n && dec (n.toNat ≤ sizeLine)) = true
    · rw [if_pos hn] at h2
      cases r
      rw [Bool.and_eq_true] at hn
      obtain ⟨z1, z2⟩ := inR_of hn.1
      exact ⟨n, rfl, z1, z2, h2 as1 H1 _ x1 S1 trivial (ItOk.range 0 n.toNat (of_dec hn.2))⟩
    · rw [if_neg hn] at h2; exact h2.elim
  | [.non], _, _, h2 => exact h2.elim
  | [.bl _], _, _, h2 => exact h2.elim
  | [.str _], _, _, h2 => exact h2.elim
  | [.tup _], _, _, h2 => exact h2.elim
  | [.lst _], _, _, h2 => exact h2.elim
  | [.frl _], _, _, h2 => exact h2.elim
  | [.cell _], _, _, h2 => exact h2.elim
  | [.ty _], _, _, h2 => exact h2.elim
theorem pi_range2' {a b : Expr} {f : DenA} {p : Pos} (hg : Gl X "range") (hm : X.mg "range" = none) (ha : PA X [a, b] (RA X.K X.mg W f)) (hs : starEach [a, b] X.env = [(false, eval a X.env), (false, eval b X.env)]) (hs2 : starEach [b] X.env = [(false, eval b X.env)])
    (h1 : ∀ ds env st st1, f env st = .ok ds st1 → ds.length = 2) : PI X tg (.Call (.Name "range" p) [a, b] [] pos) (RI X.K X.mg W (iRng f)) := PI.re (pi_range2 hg hm ha hs hs2) fun σ H R h => by
  obtain ⟨as, env, st, E, S, h⟩ := h
  have hl := fun ds st1 => h1 ds env st st1
  refine ⟨as, env, st, E, S, Out.wp_mono (Out.wp_bind h) (fun ds st1 e h2 as1 H1 vs x1 S1 r1 => ?_) fun _ _ _ z => z⟩
  have h3 := hl ds st1 e
  match ds, h3 with
  | [d1, d2], _ =>
    have key : ∃ i j, d1 = .int i ∧ d2 = .int j ∧ (inR i && inR j && dec ((j - i).toNat ≤ sizeLine)) = true := by
      cases d1 with
      | int i =>
        cases d2 with
        | int j =>
          by_cases hn : (inR i && inR j && dec ((j - i).toNat ≤ sizeLine)) = true
          · exact ⟨i, j, rfl, rfl, hn⟩
          · rw [rngD2, if_neg hn] at h2; exact h2.elim
        | _ => exact h2.elim
      | _ => cases d2 <;> exact h2.elim
    obtain ⟨i, j, e1, e2, hn⟩ := key
    subst e1 e2
    rw [rngD2, if_pos hn] at h2
    rw [Bool.and_eq_true, Bool.and_eq_true] at hn
    obtain ⟨z1, z2⟩ := inR_of hn.1.1
    obtain ⟨z3, z4⟩ := inR_of hn.1.2
    cases r1 with
    | cons ra rr =>
      cases rr with
      | cons rb rr =>
        cases rr
        cases ra
        cases rb
        exact ⟨i, j, rfl, ⟨z1, z2, z3, z4⟩, h2 as1 H1 _ x1 S1 trivial (ItOk.range i (j - i).toNat (of_dec hn.2))⟩
/-- enumerate(e), of a list -/
def lstO : D → Bool
  | .tup _ => false
  | _ => true
theorem seq_liesL {K : PySem.W.Frag} {as : List Addr} {H : Hp} {st : Store} {v : V} {d : D} {it : Items} (hl : lstO d = true) (S : StR K as H st) (r : Rp K as H v d) (e : seqD st d = some it) : Gd it.2 st ∧ ∃ a, v = .ref a ∧
    ∀ as2 H2 st2, Ext as H as2 H2 → StR K as2 H2 st2 → Gd it.2 st2 → ∃ xs, SqL K H2 a xs ∧ xs.length ≤ sizeLine ∧ RpL K as2 H2 xs it.1 := by
  cases r with
  | tup h z r => cases hl
  | lst h c z r =>
    cases e
    exact ⟨trivial, _, rfl, fun as2 H2 st2 x2 S2 g => ⟨_, SqL.of (x2.keep _ _ h (.inl c) (fun _ z => nomatch z)), z, RpL.ext x2 r⟩⟩
  | frl h z r => cases e; exact ⟨trivial, _, rfl, fun as2 H2 st2 x2 S2 g => ⟨_, (FixL.ext x2 h).seq, z, RpL.ext x2 r⟩⟩
  | cell h =>
    obtain ⟨c, e1, hR⟩ := S.get' h
    simp only [seqD, e1] at e
    cases c with
    | dct lk kvs => cases e
    | lst ds =>
      cases e
      refine ⟨e1, _, rfl, fun as2 H2 st2 x2 S2 g => ?_⟩
      obtain ⟨p2, h2, xs, hx, z, r⟩ := S2.get g
      rw [x2.get h] at h2
      cases h2
      exact ⟨xs, SqL.of hx, z, r⟩
  | _ => cases e
theorem ItOk.enumT {K : PySem.W.Frag} {a : Addr} {as : List Addr} {H : Hp} {ds : List D} {xs : List V} (hq : SqT K H a xs) (z : xs.length ≤ sizeLine) (r : RpL K as H xs ds) : ItOk K (IteT K a) as H (enumG 0 ds, none) := by
  intro as2 H2 st2 x2 S2 g
  have hq := SqT.ext x2 hq
  have r := RpL.ext x2 r
  refine ⟨by show (enumG 0 ds).length ≤ sizeLine; rw [enumG_len, ← r.length]; exact z, fun i => ?_⟩
  refine ⟨fun d e => ?_, fun hi => ⟨xs, hq, by rw [r.length]; rw [enumG_len] at hi; exact hi⟩⟩
  rw [enumG_get] at e
  cases ed : ds[i]? with
  | none => rw [ed] at e; cases e
  | some d0 =>
    rw [ed, Nat.zero_add] at e
    cases e
    obtain ⟨v, h1, h2⟩ := r.get ed
    refine ⟨⟨xs, v, hq, h1⟩, fun x H3 y => ?_⟩
    obtain ⟨T, x1, e0, hn, e3, y⟩ := y
    subst e0 e3
    have := y xs hq
    rw [h1] at this
    cases this
    obtain ⟨xx, SS⟩ := S2.alloc (.tup [.int (i : Nat), v]) hn
    refine ⟨xx, SS, .tup (.inl (.inl (by simp [upd]))) (by show 2 ≤ sizeLine; decide) (.cons (.int _) (.cons (Rp.ext xx h2) .nil))⟩
def enumD (st : Store) : List D → Option Items
  | [d] => (seqD st d).map fun it => (enumG 0 it.1, it.2)
  | _ => none
def iEnu (f : DenA) : DenI := fun env st => (f env st).bind fun ds st1 => oitems (enumD st1 ds) st1
theorem pi_enum' {a : Expr} {f : DenA} {p tpos : Pos} {elts : List Expr} {kk : Nat} (hg : Gl X "enumerate") (hm : X.mg "enumerate" = none) (ha : PA X [a] (RA X.K X.mg W f)) (hs : starEach [a] X.env = [(false, eval a X.env)]) :
    PI X (.Tuple elts kk tpos) (.Call (.Name "enumerate" p) [a] [] pos) (RI X.K X.mg W (iEnu f)) := PI.re (pi_enumA hg hm ha hs) fun σ H R h => by
  obtain ⟨as, env, st, E, S, h⟩ := h
  refine ⟨as, env, st, E, S, Out.wp_mono (Out.wp_bind h) (fun ds st1 e h2 as1 H1 vs x1 S1 r1 => ?_) fun _ _ _ z => z⟩
  cases r1 with
  | nil => exact h2.elim
  | cons ra rr =>
    cases rr with
    | cons _ _ => exact h2.elim
    | nil =>
      rename_i v d
      have h2 : (oitems ((seqD st1 d).map fun it => (enumG 0 it.1, it.2)) st1).wp (WI X.K as H R) (WE X.K X.mg W as H σ) := h2
      generalize e : seqD st1 d = o at h2
      cases o with
      | none => exact h2.elim
      | some it =>
        obtain ⟨g, a, ev, hh⟩ := seq_lies S1 ra e
        subst ev
        refine ⟨a, rfl, ?_⟩
        rcases hh with hh | ⟨en, xs, hq, z, rl⟩
        · obtain ⟨xs, hq, z, rl⟩ := hh as1 H1 st1 (.refl _ _) S1 g
          exact .inl ⟨xs, hq, h2 as1 H1 _ x1 S1 g (ItOk.enum hh)⟩
        · obtain ⟨i1, i2⟩ := it
          cases en
          exact .inr ⟨xs, hq, h2 as1 H1 _ x1 S1 trivial (ItOk.enumT hq z rl)⟩

/-! ### zip; range downwards -/
def zipG : List D → List D → List D
  | x :: xs, y :: ys => .tup [x, y] :: zipG xs ys
  | _, _ => []
theorem zipG_get : ∀ (xs ys : List D) (i : Nat) (d : D), (zipG xs ys)[i]? = some d → ∃ x y, xs[i]? = some x ∧ ys[i]? = some y ∧ d = .tup [x, y]
  | [], _, _, _, h => by cases h
  | _ :: _, [], _, _, h => by cases h
  | x :: xs, y :: ys, 0, d, h => by
    unfold zipG at h
    cases h
    exact ⟨x, y, rfl, rfl, rfl⟩
  | x :: xs, y :: ys, i + 1, d, h => by
    unfold zipG at h
    rw [List.getElem?_cons_succ] at h
    exact zipG_get xs ys i d h
theorem zipG_len : ∀ (xs ys : List D), (zipG xs ys).length = min xs.length ys.length
  | [], _ => by simp [zipG]
  | _ :: _, [] => by simp [zipG]
  | x :: xs, y :: ys => by
    unfold zipG
    rw [List.length_cons, zipG_len xs ys, List.length_cons, List.length_cons]
    omega
theorem ItOk.zipL {K : PySem.W.Frag} {a b : Addr} {as : List Addr} {H : Hp} {ds es : List D} {src : Option (Nat × Cell)}
    (h : ∀ as2 H2 st2, Ext as H as2 H2 → StR K as2 H2 st2 → Gd src st2 → (∃ xs, SqL K H2 a xs ∧ xs.length ≤ sizeLine ∧ RpL K as2 H2 xs ds) ∧ ∃ ys, SqL K H2 b ys ∧ ys.length ≤ sizeLine ∧ RpL K as2 H2 ys es) : ItOk K (Itz K a b) as H (zipG ds es, src) := by
  intro as2 H2 st2 x2 S2 g
  obtain ⟨⟨xs, hq, z, r⟩, ys, hq', z', r'⟩ := h as2 H2 st2 x2 S2 g
  refine ⟨by show (zipG ds es).length ≤ sizeLine; rw [zipG_len, ← r.length]; omega, fun i => ?_⟩
  refine ⟨fun d e => ?_, fun hi => ⟨xs, ys, hq, hq', by
    have hi : (zipG ds es).length ≤ i := hi
    rw [zipG_len] at hi; rw [r.length, r'.length]; omega⟩⟩
  obtain ⟨d1, d2, e1, e2, rfl⟩ := zipG_get ds es i d e
  obtain ⟨v, h1, h2⟩ := r.get e1
  obtain ⟨w, h3, h4⟩ := r'.get e2
  refine ⟨⟨xs, ys, v, w, hq, hq', h1, h3⟩, fun x H3 y => ?_⟩
  obtain ⟨T, x1, y1, e0, hn, e3, y, y'⟩ := y
  subst e0 e3
  have q1 := y xs hq
  rw [h1] at q1
  cases q1
  have q2 := y' ys hq'
  rw [h3] at q2
  cases q2
  obtain ⟨xx, SS⟩ := S2.alloc (.tup [v, w]) hn
  exact ⟨xx, SS, .tup (.inl (.inl (by simp [upd]))) (by show 2 ≤ sizeLine; decide) (.cons (Rp.ext xx h2) (.cons (Rp.ext xx h4) .nil))⟩
theorem ItOk.zipT {K : PySem.W.Frag} {a b : Addr} {as : List Addr} {H : Hp} {ds es : List D} {xs ys : List V} (hq : SqT K H a xs) (z : xs.length ≤ sizeLine) (r : RpL K as H xs ds) (hq' : SqT K H b ys) (r' : RpL K as H ys es) : ItOk K (RZ.ItzT K a b) as H (zipG ds es, none) := by
  intro as2 H2 st2 x2 S2 g
  have hq := SqT.ext x2 hq
  have r := RpL.ext x2 r
  have hq' := SqT.ext x2 hq'
  have r' := RpL.ext x2 r'
  refine ⟨by show (zipG ds es).length ≤ sizeLine; rw [zipG_len, ← r.length]; omega, fun i => ?_⟩
  refine ⟨fun d e => ?_, fun hi => ⟨xs, ys, hq, hq', by
    have hi : (zipG ds es).length ≤ i := hi
    rw [zipG_len] at hi; rw [r.length, r'.length]; omega⟩⟩
  obtain ⟨d1, d2, e1, e2, rfl⟩ := zipG_get ds es i d e
  obtain ⟨v, h1, h2⟩ := r.get e1
  obtain ⟨w, h3, h4⟩ := r'.get e2
  refine ⟨⟨xs, ys, v, w, hq, hq', h1, h3⟩, fun x H3 y => ?_⟩
  obtain ⟨T, x1, y1, e0, hn, e3, y, y'⟩ := y
  subst e0 e3
  have q1 := y xs hq
  rw [h1] at q1
  cases q1
  have q2 := y' ys hq'
  rw [h3] at q2
  cases q2
  obtain ⟨xx, SS⟩ := S2.alloc (.tup [v, w]) hn
  exact ⟨xx, SS, .tup (.inl (.inl (by simp [upd]))) (by show 2 ≤ sizeLine; decide) (.cons (Rp.ext xx h2) (.cons (Rp.ext xx h4) .nil))⟩
/-- at most one of two may be a cell -/
def both (s s' : Option (Nat × Cell)) : Option (Option (Nat × Cell)) := match s, s' with
  | none, s' => some s'
  | s, none => some s
  | _, _ => none
theorem both_ok {s s' r : Option (Nat × Cell)} {st : Store} (e : both s s' = some r) : (Gd r st → Gd s st ∧ Gd s' st) ∧ (Gd s st → Gd s' st → Gd r st) := by
  cases s with
  | none => cases e; exact ⟨fun g => ⟨trivial, g⟩, fun _ g => g⟩
  | some c =>
    cases s' with
    | none => cases e; exact ⟨fun g => ⟨g, trivial⟩, fun g _ => g⟩
    | some c' => cases e
def tupD : D → Option (List D)
  | .tup ds => some ds
  | _ => none
def zipD (st : Store) : List D → Option Items
  | [a, b] => match tupD a, tupD b with
    | some xs, some ys => some (zipG xs ys, none)
    | none, none => match seqD st a, seqD st b with
      | some s, some t => match both s.2 t.2 with
        | some c => some (zipG s.1 t.1, c)
        | none => none
      | _, _ => none
    | _, _ => none
  | _ => none
theorem lstO_of {d : D} (h : tupD d = none) : lstO d = true := by
  cases d <;> first | rfl | cases h
def iZp (f : DenA) : DenI := fun env st => (f env st).bind fun ds st1 => oitems (zipD st1 ds) st1
theorem pi_zip' {a b : Expr} {f : DenA} {p tpos : Pos} {elts : List Expr} {kk : Nat} (hg : Gl X "zip") (hm : X.mg "zip" = none) (ha : PA X [a, b] (RA X.K X.mg W f)) (hs : starEach [a, b] X.env = (false, eval a X.env) :: starEach [b] X.env) (hpl : (backTo pos (starEach [b] X.env)).any (·.1) = false) :
    PI X (.Tuple elts kk tpos) (.Call (.Name "zip" p) [a, b] [] pos) (RI X.K X.mg W (iZp f)) := PI.re (RZ.pi_zipA hg hm ha hs hpl) fun σ H R h => by
  obtain ⟨as, env, st, E, S, h⟩ := h
  refine ⟨as, env, st, E, S, Out.wp_mono (Out.wp_bind h) (fun ds st1 e h2 as1 H1 vs x1 S1 r1 => ?_) fun _ _ _ z => z⟩
  match ds, r1, h2 with
  | [], _, h2 => exact h2.elim
  | [_], _, h2 => exact h2.elim
  | _ :: _ :: _ :: _, _, h2 => exact h2.elim
  | [d1, d2], .cons (v := v1) ra (.cons (v := v2) rb .nil), h2 =>
    generalize eo : zipD st1 [d1, d2] = o at h2
    cases o with
    | none => exact h2.elim
    | some it =>
      unfold zipD at eo
      simp only at eo
      cases e1 : tupD d1 with
      | some xs =>
        cases e2 : tupD d2 with
        | none => rw [e1, e2] at eo; cases eo
        | some ys =>
          rw [e1, e2] at eo
          cases eo
          cases d1 with
          | tup xs' =>
            cases e1
            cases d2 with
            | tup ys' =>
              cases e2
              cases ra with
              | tup h z r =>
                cases rb with
                | tup h' z' r' => exact ⟨_, _, _, _, rfl, .inr ⟨h, h', h2 as1 H1 _ x1 S1 trivial (ItOk.zipT h z r h' r')⟩⟩
            | _ => cases e2
          | _ => cases e1
      | none =>
        cases e2 : tupD d2 with
        | some ys => rw [e1, e2] at eo; cases eo
        | none =>
          rw [e1, e2] at eo
          simp only at eo
          cases e3 : seqD st1 d1 with
          | none => rw [e3] at eo; cases eo
          | some s =>
            cases e4 : seqD st1 d2 with
            | none => rw [e3, e4] at eo; cases eo
            | some t =>
              rw [e3, e4] at eo
              simp only at eo
              cases e5 : both s.2 t.2 with
              | none => rw [e5] at eo; cases eo
              | some c =>
                rw [e5] at eo
                cases eo
                obtain ⟨g, a, ev, hh⟩ := seq_liesL (lstO_of e1) S1 ra e3
                obtain ⟨g', b, ev', hh'⟩ := seq_liesL (lstO_of e2) S1 rb e4
                subst ev ev'
                obtain ⟨xs, hq, _, _⟩ := hh as1 H1 st1 (.refl _ _) S1 g
                obtain ⟨ys, hq', _, _⟩ := hh' as1 H1 st1 (.refl _ _) S1 g'
                exact ⟨a, b, xs, ys, rfl, .inl ⟨hq, hq', h2 as1 H1 _ x1 S1 ((both_ok e5).2 g g') (ItOk.zipL fun as2 H2 st2 x2 S2 gg => ⟨hh as2 H2 st2 x2 S2 ((both_ok e5).1 gg).1, hh' as2 H2 st2 x2 S2 ((both_ok e5).1 gg).2⟩)⟩⟩
/-- range(i, j, -1) -/
def rngDn (i : Int) (n : Nat) : List D := (List.range n).map fun (k : Nat) => D.int (i + (k : Nat) * (-1))
theorem ItOk.rangeDn {K : PySem.W.Frag} {as : List Addr} {H : Hp} (lo : Int) (n : Nat) (z : n ≤ sizeLine) : ItOk K (Itc lo (-1) n) as H (rngDn lo n, none) := by
  intro as2 H2 st2 x2 S2 g
  refine ⟨by show (rngDn lo n).length ≤ sizeLine; simpa [rngDn] using z, fun i => ?_⟩
  refine ⟨fun d e => ?_, fun hi => by
    show n ≤ i
    simpa [rngDn] using hi⟩
  unfold rngDn at e
  have hi : i < n := by simpa using (List.getElem?_eq_some_iff.mp e).1
  refine ⟨hi, fun x H3 y => ?_⟩
  obtain ⟨e3, e4⟩ := y
  subst e3 e4
  rw [List.getElem?_map, List.getElem?_range hi] at e
  cases e
  exact ⟨.refl _ _, S2, .int _⟩
def rng3D : List D → Option Items
  | [.int a, .int b, .int c] => if decide (c = -1) && inR a && inR b && dec ((a - b).toNat ≤ sizeLine) then some (rngDn a (a - b).toNat, none) else none
  | _ => none
def iRng3' (f : DenA) : DenI := fun env st => (f env st).bind fun ds st1 => oitems (rng3D ds) st1
theorem rng3D_inv {ds : List D} {it : Items} (h : rng3D ds = some it) : ∃ a b, ds = [.int a, .int b, .int (-1)] ∧ -(2 ^ 62) ≤ a ∧ a < 2 ^ 62 ∧ -(2 ^ 62) ≤ b ∧ b < 2 ^ 62 ∧ (a - b).toNat ≤ sizeLine ∧ it = (rngDn a (a - b).toNat, none) := by
  unfold rng3D at h
  split at h
  · rename_i a b c
    split at h
    · rename_i hn
      cases h
      simp only [Bool.and_eq_true] at hn
      obtain ⟨⟨⟨h1, h2⟩, h3⟩, h4⟩ := hn
      have := of_decide_eq_true h1
      subst this
      exact ⟨a, b, rfl, (inR_of h2).1, (inR_of h2).2, (inR_of h3).1, (inR_of h3).2, of_dec h4, rfl⟩
    · cases h
  · cases h
theorem pi_range3' {a b c : Expr} {f : DenA} {p : Pos} (hg : Gl X "range") (hm : X.mg "range" = none) (ha : PA X [a, b, c] (RA X.K X.mg W f)) (hs : starEach [a, b, c] X.env = (false, eval a X.env) :: starEach [b, c] X.env) (hpl : (backTo pos (starEach [b, c] X.env)).any (·.1) = false) :
    PI X tg (.Call (.Name "range" p) [a, b, c] [] pos) (RI X.K X.mg W (iRng3' f)) := PI.re (pi_range3 hg hm ha hs hpl) fun σ H R h => by
  obtain ⟨as, env, st, E, S, h⟩ := h
  refine ⟨as, env, st, E, S, Out.wp_mono (Out.wp_bind h) (fun ds st1 e h2 as1 H1 vs x1 S1 r1 => ?_) fun _ _ _ z => z⟩
  generalize eo : rng3D ds = o at h2
  cases o with
  | none => exact h2.elim
  | some it =>
    obtain ⟨a, b, ed, z1, z2, z3, z4, z5, ei⟩ := rng3D_inv eo
    subst ed ei
    match vs, r1 with
    | [_, _, _], .cons (.int _) (.cons (.int _) (.cons (.int _) .nil)) =>
      exact ⟨a, b, -1, (a - b).toNat, rfl, RgC.neg z1 z2 z3 z4, h2 as1 H1 _ x1 S1 trivial (ItOk.rangeDn a _ z5)⟩

/-! ### for -/
open Classical in
noncomputable def forL (src : Option (Nat × Cell)) (g : DenT) (b : DenS) : List D → Env → Store → Fs
  | [], env, st => .nx env st
  | x :: xs, env, st => match g x env with
    | none => .bad
    | some e1 => match b e1 st with
      | .nx e2 st2 => if Gd src st2 then forL src g b xs e2 st2 else .bad
      | .ct e2 st2 => if Gd src st2 then forL src g b xs e2 st2 else .bad
      | .brk e2 st2 => .nx e2 st2
      | o => o
noncomputable def sFor (fi : DenI) (g : DenT) (b : DenS) : DenS := fun env st => (fi env st).then env fun it st1 => forL it.2 g b it.1 env st1
theorem rs_for {K : PySem.W.Frag} {mg : Str → Option Value} {fi : DenI} {g : DenT} {b : DenS} {Z : Ends} {σ : St} {H : Hp} (h : RS K mg W (sFor fi g b) Z σ H) : tFor (RI K mg W fi) (RG K none g) (RS K mg W b) Z σ H := by
  obtain ⟨as, env, st, E, S, h⟩ := h
  refine ⟨as, env, st, E, S, ?_⟩
  unfold sFor at h
  generalize fi env st = o at h
  cases o with
  | bad => exact h
  | exc x fs st1 => exact WE.of E h
  | ok it st1 =>
    intro as1 H1 J x1 S1 g1 ok
    have h1 : (forL it.2 g b it.1 env st1).wp K mg W as1 H1 Z := Fs.ext x1 h
    refine ⟨fun i m σ H2 => m = it.1.length - i ∧ i ≤ it.1.length ∧ ∃ as2 env2 st2, Ext as1 H1 as2 H2 ∧ EnvR K as2 H2 σ env2 ∧ StR K as2 H2 st2 ∧ Gd it.2 st2 ∧ (forL it.2 g b (it.1.drop i) env2 st2).wp K mg W as2 H2 Z, ⟨_, rfl, Nat.zero_le _, as1, env, st1, .refl _ _, E.ext x1, S1, g1, h1⟩, ?_⟩
    rintro i m σ2 H2 ⟨rfl, hi, as2, env2, st2, x2, E2, S2, g2, h2⟩
    have okk := (ok as2 H2 st2 x2 S2 g2).2 i
    by_cases hlt : i < it.1.length
    · right
      have ed : it.1.drop i = it.1[i] :: it.1.drop (i + 1) := List.drop_eq_getElem_cons hlt
      rw [ed] at h2
      obtain ⟨hgo, hy⟩ := okk.1 it.1[i] (List.getElem?_eq_getElem hlt)
      refine ⟨hgo, fun σ' H' => i + 1 ≤ it.1.length ∧ ∃ as3 env3 st3, Ext as1 H1 as3 H' ∧ EnvR K as3 H' σ' env3 ∧ StR K as3 H' st3 ∧ Gd it.2 st3 ∧ (forL it.2 g b (it.1.drop (i + 1)) env3 st3).wp K mg W as3 H' Z, fun σ' H' w => ⟨it.1.length - (i + 1), by omega, rfl, w.1, w.2⟩, fun x H3 y => ?_⟩
      obtain ⟨x3, S3, r3⟩ := hy x H3 y
      have h3 := Fs.ext x3 h2
      unfold forL at h3
      cases eg : g it.1[i] env2 with
      | none => rw [eg] at h3; exact h3.elim
      | some e1 =>
        rw [eg] at h3
        refine ⟨as2, env2, it.1[i], e1, E2.ext x3, r3, eg, fun σ4 E4 _ => ⟨as2, e1, st2, E4, S3, ?_⟩⟩
        simp only at h3
        cases eb : b e1 st2 with
        | nx e2 st5 =>
          rw [eb] at h3
          simp only at h3
          intro as5 H5 σ5 x5 S5 E5
          by_cases hG : Gd it.2 st5
          · rw [if_pos hG] at h3
            exact ⟨hlt, as5, e2, st5, (x2.trans x3).trans x5, E5, S5, hG, Fs.ext x5 h3⟩
          · rw [if_neg hG] at h3; exact h3.elim
        | ct e2 st5 =>
          rw [eb] at h3
          simp only at h3
          intro as5 H5 σ5 x5 S5 E5
          by_cases hG : Gd it.2 st5
          · rw [if_pos hG] at h3
            exact ⟨hlt, as5, e2, st5, (x2.trans x3).trans x5, E5, S5, hG, Fs.ext x5 h3⟩
          · rw [if_neg hG] at h3; exact h3.elim
        | brk e2 st5 => rw [eb] at h3; exact h3
        | ret d st5 => rw [eb] at h3; exact h3
        | exc e2 y fs st5 => rw [eb] at h3; exact h3
        | bad => rw [eb] at h3; exact h3
    · left
      have : i = it.1.length := by omega
      subst this
      rw [List.drop_length] at h2
      exact ⟨okk.2 (Nat.le_refl _), h2 as2 H2 σ2 (.refl _ _) S2 E2⟩
theorem ps_for' {iter : Expr} {body : List Stmt} {fi : DenI} {g : DenT} {b : DenS} (hp : PassesOwn (model X.prog X.w) X.A X.env X.xe) (hc : X.calm = true) (hi : PI X tg iter (RI X.K X.mg W fi)) (hg : PG X tg (RG X.K none g)) (hb : PSs X body (RS X.K X.mg W b))
    (hs : ∀ x, foldedSetIterable iter X.env x = pure x) : PS X (.For tg iter body [] pos) (RS X.K X.mg W (sFor fi g b)) := PS.re (ps_for hp hc hi hg hb hs) fun _ _ _ h => rs_for h
end
end
end L2.PyD
/-! PyD, part 5: what is left behind; comprehensions; calls; bodies. -/
namespace L2.PyD
open PySem PySem.Spec PyProof.Rows
noncomputable section

mutual
/-- no cell from the n-th on is named -/
def D.undr (n : Nat) : D → Bool
  | .cell i => decide (i < n)
  | .tup ds => D.undrL n ds
  | .lst ds => D.undrL n ds
  | .frl ds => D.undrL n ds
  | .non => true
  | .bl _ => true
  | .int _ => true
  | .str _ => true
  | .ty _ => true
def D.undrL (n : Nat) : List D → Bool
  | [] => true
  | d :: ds => D.undr n d && D.undrL n ds
end
def Cell.undr (n : Nat) : Cell → Bool
  | .lst ds => D.undrL n ds
  | .dct _ kvs => D.undrL n (kvs.map (·.2))
mutual
theorem Rp.undr {K : PySem.W.Frag} {as : List Addr} {H : Hp} : ∀ {v : V} {d : D}, Rp K as H v d → d.undr as.length = true
  | _, _, .non => rfl
  | _, _, .bl _ => rfl
  | _, _, .int _ => rfl
  | _, _, .str _ => rfl
  | _, _, .ty _ => rfl
  | _, _, .tup _ _ r => RpL.undr r
  | _, _, .lst _ _ _ r => RpL.undr r
  | _, _, .frl _ _ r => RpL.undr r
  | _, _, .cell h => decide_eq_true (List.getElem?_eq_some_iff.mp h).1
theorem RpL.undr {K : PySem.W.Frag} {as : List Addr} {H : Hp} : ∀ {vs : List V} {ds : List D}, RpL K as H vs ds → D.undrL as.length ds = true
  | _, _, .nil => rfl
  | _, _, .cons h r => by
    unfold D.undrL
    rw [Rp.undr h, RpL.undr r]
    rfl
end
mutual
theorem Rp.cut {K : PySem.W.Frag} {as : List Addr} {H : Hp} {n : Nat} : ∀ {v : V} {d : D}, Rp K as H v d → d.undr n = true → Rp K (as.take n) H v d
  | _, _, .non, _ => .non
  | _, _, .bl b, _ => .bl b
  | _, _, .int i, _ => .int i
  | _, _, .str s, _ => .str s
  | _, _, .ty s, _ => .ty s
  | _, _, .tup h z r, b => .tup h z (RpL.cut r b)
  | _, _, .lst h c z r, b => .lst h (fun m => c (List.mem_of_mem_take m)) z (RpL.cut r b)
  | _, _, .frl h z r, b => .frl (h.sub fun a m => List.mem_of_mem_take m) z (RpL.cut r b)
  | _, _, .cell h, b => .cell (by rw [List.getElem?_take_of_lt (of_decide_eq_true b)]; exact h)
theorem RpL.cut {K : PySem.W.Frag} {as : List Addr} {H : Hp} {n : Nat} : ∀ {vs : List V} {ds : List D}, RpL K as H vs ds → D.undrL n ds = true → RpL K (as.take n) H vs ds
  | _, _, .nil, _ => .nil
  | _, _, .cons h r, b => by
    unfold D.undrL at b
    rw [Bool.and_eq_true] at b
    exact .cons (Rp.cut h b.1) (RpL.cut r b.2)
end
theorem EntR.undr {K : PySem.W.Frag} {as : List Addr} {H : Hp} : ∀ {xs : List Ent} {kvs : List (List Int × D)}, EntR K as H xs kvs → D.undrL as.length (kvs.map (·.2)) = true
  | _, _, .nil => rfl
  | _, _, .cons ⟨_, _, _, _, h⟩ r => by
    rw [List.map_cons]
    unfold D.undrL
    rw [Rp.undr h, EntR.undr r]
    rfl
theorem EntR.cut {K : PySem.W.Frag} {as : List Addr} {H : Hp} {n : Nat} : ∀ {xs : List Ent} {kvs : List (List Int × D)}, EntR K as H xs kvs → D.undrL n (kvs.map (·.2)) = true → EntR K (as.take n) H xs kvs
  | _, _, .nil, _ => .nil
  | _, _, .cons ⟨h1, h2, v, h3, h⟩ r, b => by
    rw [List.map_cons] at b
    unfold D.undrL at b
    rw [Bool.and_eq_true] at b
    exact .cons ⟨h1, h2, v, h3, Rp.cut h b.1⟩ (EntR.cut r b.2)
theorem DatR.cut {K : PySem.W.Frag} {as : List Addr} {H : Hp} {n : Nat} {o : Obj} {kvs : List (List Int × D)} (h : DatR K as H o kvs) (b : D.undrL n (kvs.map (·.2)) = true) : DatR K (as.take n) H o kvs := by
  obtain ⟨z, hx, es, ep, xs, h1, h2, h3, r⟩ := h
  exact ⟨z, hx, es, ep, xs, h1, h2, h3, r.cut b⟩
theorem DatR.undr {K : PySem.W.Frag} {as : List Addr} {H : Hp} {o : Obj} {kvs : List (List Int × D)} (h : DatR K as H o kvs) : D.undrL as.length (kvs.map (·.2)) = true := by
  obtain ⟨z, hx, es, ep, xs, h1, h2, h3, r⟩ := h
  exact r.undr
theorem CellR.undr {K : PySem.W.Frag} {as : List Addr} {H : Hp} {p : Addr} : ∀ {c : Cell}, CellR K as H p c → c.undr as.length = true
  | .lst _, ⟨_, _, _, r⟩ => RpL.undr r
  | .dct false _, ⟨_, _, _, r⟩ => r.undr
  | .dct true _, ⟨_, _, _, _, r⟩ => r.undr
theorem CellR.cut {K : PySem.W.Frag} {as : List Addr} {H : Hp} {p : Addr} {n : Nat} : ∀ {c : Cell}, CellR K as H p c → c.undr n = true → CellR K (as.take n) H p c
  | .lst _, ⟨xs, h, z, r⟩, b => ⟨xs, h, z, RpL.cut r b⟩
  | .dct false _, ⟨z, o, h, r⟩, b => ⟨z, o, h, r.cut b⟩
  | .dct true _, ⟨z, o, od, h, r⟩, b => ⟨z, o, od, h, r.cut b⟩

def mapO {α β : Type} (f : α → Option β) : List α → Option (List β)
  | [] => some []
  | x :: xs => match f x with
    | some y => match mapO f xs with
      | some ys => some (y :: ys)
      | none => none
    | none => none
theorem mapO_cons {α β : Type} {f : α → Option β} {x : α} {xs : List α} {zs : List β} (h : mapO f (x :: xs) = some zs) : ∃ y ys, f x = some y ∧ mapO f xs = some ys ∧ zs = y :: ys := by
  unfold mapO at h
  cases e1 : f x with
  | none => rw [e1] at h; cases h
  | some y =>
    rw [e1] at h
    simp only at h
    cases e2 : mapO f xs with
    | none => rw [e2] at h; cases h
    | some ys => rw [e2] at h; cases h; exact ⟨y, ys, rfl, rfl, rfl⟩
/-- a value as it is seen when the cells from the n-th on are given up: they stand still from then on -/
def frz (s : Store) (n : Nat) : Nat → D → Option D
  | 0, d => if d.undr n then some d else none
  | k + 1, d => if d.undr n then some d else match d with
    | .cell i => match s[i]? with
      | some (.lst ds) => (mapO (frz s n k) ds).map D.lst
      | _ => none
    | .tup ds => (mapO (frz s n k) ds).map D.tup
    | .lst ds => (mapO (frz s n k) ds).map D.lst
    | .frl ds => (mapO (frz s n k) ds).map D.frl
    | _ => none
theorem frzL_ok {K : PySem.W.Frag} {as : List Addr} {H : Hp} {n : Nat} {f : D → Option D} (hf : ∀ {v : V} {d e : D}, Rp K as H v d → f d = some e → Rp K (as.take n) H v e) : ∀ {vs : List V} {ds es : List D}, RpL K as H vs ds → mapO f ds = some es → RpL K (as.take n) H vs es
  | _, _, _, .nil, h => by cases h; exact .nil
  | _, _, _, .cons r rl, h => by
    obtain ⟨y, ys, e1, e2, rfl⟩ := mapO_cons h
    exact .cons (hf r e1) (frzL_ok hf rl e2)
theorem frz_ok {K : PySem.W.Frag} {as : List Addr} {H : Hp} {s : Store} {n : Nat} (S : StR K as H s) : ∀ (k : Nat) {v : V} {d e : D}, Rp K as H v d → frz s n k d = some e → Rp K (as.take n) H v e
  | 0, v, d, e, r, h => by
    unfold frz at h
    by_cases b : d.undr n = true
    · rw [if_pos b] at h; cases h; exact Rp.cut r b
    · rw [if_neg b] at h; cases h
  | k + 1, v, d, e, r, h => by
    unfold frz at h
    by_cases b : d.undr n = true
    · rw [if_pos b] at h; cases h; exact Rp.cut r b
    · rw [if_neg b] at h
      have go := fun {vs : List V} {ds es : List D} => frzL_ok (n := n) (f := frz s n k) (fun {v d e} r h => frz_ok S k r h) (vs := vs) (ds := ds) (es := es)
      cases r with
      | cell hc =>
        rename_i i p
        obtain ⟨c, e1, hR⟩ := S.get' hc
        simp only [e1] at h
        cases c with
        | dct lk kvs => cases h
        | lst ds =>
          obtain ⟨es, e2, e3⟩ := Option.map_eq_some_iff.mp h
          subst e3
          obtain ⟨xs, hx, z, rl⟩ := hR
          refine .lst hx (fun m => ?_) z (go rl e2)
          have hn : n ≤ i := Nat.le_of_not_lt fun q => b (decide_eq_true q)
          obtain ⟨j, hj, ej⟩ := List.getElem_of_mem m
          have hj' : j < n := Nat.lt_of_lt_of_le (by simpa using hj) (Nat.min_le_left _ _)
          have e3 : as[j]? = some p := by
            rw [List.getElem_take] at ej
            exact List.getElem?_eq_some_iff.mpr ⟨_, ej⟩
          obtain ⟨h1, g1⟩ := List.getElem?_eq_some_iff.mp hc
          obtain ⟨h2, g2⟩ := List.getElem?_eq_some_iff.mp e3
          have := (List.getElem_inj S.nd).mp (g1.trans g2.symm)
          omega
      | tup hT z rl =>
        obtain ⟨es, e2, e3⟩ := Option.map_eq_some_iff.mp h
        subst e3
        exact .tup hT z (go rl e2)
      | lst hT c z rl =>
        obtain ⟨es, e2, e3⟩ := Option.map_eq_some_iff.mp h
        subst e3
        exact .lst hT (fun m => c (List.mem_of_mem_take m)) z (go rl e2)
      | frl hT z rl =>
        obtain ⟨es, e2, e3⟩ := Option.map_eq_some_iff.mp h
        subst e3
        exact .frl (hT.sub fun a m => List.mem_of_mem_take m) z (go rl e2)
      | non => cases h
      | bl _ => cases h
      | int _ => cases h
      | str _ => cases h
      | ty _ => cases h
/-- the older cells name no younger one -/
def Closed (st0 s : Store) : Prop := st0.length ≤ s.length ∧ ∀ c ∈ s.take st0.length, c ∈ st0 ∨ c.undr st0.length = true
theorem closed_ok {K : PySem.W.Frag} {as0 as : List Addr} {H0 H : Hp} {st0 s : Store} (S0 : StR K as0 H0 st0) (x : Ext as0 H0 as H) (S : StR K as H s) (c : Closed st0 s) : as.take st0.length = as0 ∧ Ext as0 H0 as0 H ∧ StR K as0 H (s.take st0.length) := by
  obtain ⟨bs, eb⟩ := x.pre
  have e0 : as.take st0.length = as0 := by rw [eb, ← S0.len, List.take_left]
  refine ⟨e0, ⟨⟨[], by simp⟩, x.keep, fun _ _ _ _ k => k⟩, ?_⟩
  refine ⟨by rw [List.length_take, S0.len]; have := c.1; omega, S0.nd, fun i p cc e1 e2 => ?_, S.tabs⟩
  have hi : i < st0.length := by rw [← S0.len]; exact (List.getElem?_eq_some_iff.mp e1).1
  have e2' : s[i]? = some cc := by rw [List.getElem?_take_of_lt hi] at e2; exact e2
  have hm : cc ∈ s.take st0.length := List.mem_of_getElem? e2
  have hb : cc.undr st0.length = true := by
    rcases c.2 cc hm with q | q
    · obtain ⟨j, hj, ej⟩ := List.getElem_of_mem q
      obtain ⟨p', _, r⟩ := S0.get (List.getElem?_eq_some_iff.mpr ⟨hj, ej⟩)
      have := r.undr
      rw [S0.len] at this
      exact this
    · exact q
  have := (S.at_ i p cc (x.get e1) e2').cut hb
  rw [e0] at this
  exact this
def frzDepth : Nat := 6
open Classical in
/-- a block is left: its own cells stand still from now on -/
noncomputable def leave (st0 s : Store) (d : D) : Out D := if Closed st0 s then match frz s st0.length frzDepth d with
  | some e => .ok e (s.take st0.length)
  | none => .bad else .bad
theorem leave_ok {K : PySem.W.Frag} {as0 as : List Addr} {H0 H : Hp} {st0 s : Store} {v : V} {d : D} {P : D → Store → Prop} {E : Str → List (Str × D) → Store → Prop} (S0 : StR K as0 H0 st0) (x : Ext as0 H0 as H) (S : StR K as H s) (r : Rp K as H v d)
    (h : (leave st0 s d).wp P E) : ∃ e, P e (s.take st0.length) ∧ Ext as0 H0 as0 H ∧ StR K as0 H (s.take st0.length) ∧ Rp K as0 H v e := by
  unfold leave at h
  by_cases c : Closed st0 s
  · rw [if_pos c] at h
    obtain ⟨e0, x0, s0⟩ := closed_ok S0 x S c
    cases e : frz s st0.length frzDepth d with
    | none => rw [e] at h; exact h.elim
    | some d' =>
      rw [e] at h
      have := frz_ok S _ r e
      rw [e0] at this
      exact ⟨d', h, x0, s0, this⟩
  · rw [if_neg c] at h; exact h.elim

/-! ### list comprehensions: while it is filled, the new list is a cell -/
def wipeE (env : Env) : List Nat → Env
  | [] => env
  | v :: vs => (wipeE env vs).set v none
theorem wipeE_ok {K : PySem.W.Frag} {as : List Addr} {H : Hp} {σ : St} {env : Env} (E : EnvR K as H σ env) : ∀ vs : List Nat, EnvR K as H (wipe σ vs) (wipeE env vs)
  | [] => E
  | v :: vs => by
    have ih := wipeE_ok E vs
    unfold wipe wipeE
    refine ⟨by simp [ih.len], fun i d e => ?_⟩
    by_cases hi : v = i
    · subst hi
      by_cases hl : v < (wipeE env vs).length
      · rw [List.getElem?_set_self hl] at e; cases e
      · rw [List.getElem?_eq_none (by simpa using hl)] at e; cases e
    · rw [List.getElem?_set_ne hi] at e
      obtain ⟨u, h1, h2⟩ := ih.at_ i d e
      exact ⟨u, by rw [List.getElem?_set_ne hi]; exact h1, h2⟩
/-- one more item at the cell n -/
def push (n : Nat) (y : D) (s : Store) : Option Store := match s[n]? with
  | some (.lst acc) => if dec (acc.length < sizeLine) then some (s.set n (.lst (acc ++ [y]))) else none
  | _ => none
/-- within a comprehension nothing may be raised -/
def Out.nox {α : Type} : Out α → Out α
  | .ok a st => .ok a st
  | _ => .bad
open Classical in
noncomputable def compL (n : Nat) (src : Option (Nat × Cell)) (env0 : Env) (g : DenT) (c : DenB) (e : Den) : List D → Store → Out Unit
  | [], s => .ok () s
  | x :: xs, s => match g x env0 with
    | none => .bad
    | some e1 => (c e1 s).nox.bind fun b s1 => if b then (e e1 s1).nox.bind fun y s2 => match push n y s2 with
        | some s3 => if Gd src s3 then compL n src env0 g c e xs s3 else .bad
        | none => .bad
      else if Gd src s1 then compL n src env0 g c e xs s1 else .bad
/-- what is given back: the cell itself, or the list, which stands still -/
noncomputable def give (mu : Bool) (st1 : Store) (s : Store) : Out D := if mu then .ok (.cell st1.length) s else leave st1 s (.cell st1.length)
noncomputable def dComp (mu : Bool) (fi : DenI) (vs : List Nat) (g : DenT) (c : DenB) (e : Den) : Den := fun env st => (fi env st).bind fun it st1 => (compL st1.length it.2 (wipeE env vs) g c e it.1 (st1 ++ [.lst []])).bind fun _ s => give mu st1 s
abbrev Wno : WX := fun _ _ _ _ => False
theorem Out.wp_nox {α : Type} {o : Out α} {P : α → Store → Prop} {E E' : Str → List (Str × D) → Store → Prop} (h : o.nox.wp P E) : o.wp P E' := by
  cases o <;> first | exact h | exact h.elim
theorem rt_nox {α : Type} {K : PySem.W.Frag} {mg : Str → Option Value} {as : List Addr} {env : Env} {H : Hp} {σ : St} {st : Store} {fa : DenB} {k : Bool → Store → Out α} {P : α → Store → Prop} {E' : Str → List (Str × D) → Store → Prop} {Q : Bool → Hp → Prop} (E : EnvR K as H σ env) (S : StR K as H st)
    (h : ((fa env st).nox.bind k).wp P E') (hk : ∀ r st1 as1 H1, Ext as H as1 H1 → EnvR K as1 H1 σ env → StR K as1 H1 st1 → (k r st1).wp P E' → Q r H1) : RT K mg Wno fa σ H Q :=
  ⟨as, env, st, E, S, Out.wp_mono (Out.wp_nox (Out.wp_bind h)) (fun r st1 _ h1 as1 H1 x s => hk r st1 as1 H1 x (E.ext x) s h1) fun _ _ _ z => z⟩
theorem re_nox {α : Type} {K : PySem.W.Frag} {mg : Str → Option Value} {as : List Addr} {env : Env} {H : Hp} {σ : St} {st : Store} {fa : Den} {k : D → Store → Out α} {P : α → Store → Prop} {E' : Str → List (Str × D) → Store → Prop} {Q : VK} (E : EnvR K as H σ env) (S : StR K as H st)
    (h : ((fa env st).nox.bind k).wp P E') (hk : ∀ r st1 as1 H1 v, Ext as H as1 H1 → EnvR K as1 H1 σ env → StR K as1 H1 st1 → Rp K as1 H1 v r → (k r st1).wp P E' → Q v H1) : RE K mg Wno fa σ H Q :=
  ⟨as, env, st, E, S, Out.wp_mono (Out.wp_nox (Out.wp_bind h)) (fun r st1 _ h1 as1 H1 v x s rp => hk r st1 as1 H1 v x (E.ext x) s rp h1) fun _ _ _ z => z⟩
theorem push_ok {K : PySem.W.Frag} {as : List Addr} {H : Hp} {s s' : Store} {n : Nat} {p : Addr} {y : D} {v : V} (S : StR K as H s) (hp : as[n]? = some p) (r : Rp K as H v y) (h : push n y s = some s') :
    ∃ acc, H p = some (.lst acc) ∧ acc.length < sizeLine ∧ Ext as H as (upd H p (.lst (acc ++ [v]))) ∧ StR K as (upd H p (.lst (acc ++ [v]))) s' := by
  unfold push at h
  obtain ⟨c, e, hR⟩ := S.get' hp
  rw [e] at h
  cases c with
  | dct lk kvs => cases h
  | lst ds =>
    simp only at h
    obtain ⟨xs, hx, z, rl⟩ := hR
    by_cases hl : dec (ds.length < sizeLine) = true
    · rw [if_pos hl] at h
      cases h
      have hl' : xs.length < sizeLine := by rw [rl.length]; exact of_dec hl
      refine ⟨xs, hx, hl', S.write hp (CellR.mut (c := .lst ds) rfl ⟨xs, hx, z, rl⟩) fun x1 => ⟨xs ++ [v], upd_same, ?_, RpL.ext x1 (rl.append (.one r))⟩⟩
      rw [List.length_append]
      exact hl'
    · rw [if_neg hl] at h; cases h
theorem wipe_idem (σ : St) (vs : List Nat) : ∀ us : List Nat, (∀ u ∈ us, u ∈ vs) → wipe (wipe σ us) vs = wipe σ vs
  | [], _ => rfl
  | u :: us, h => by
    have e : wipe σ (u :: us) = (wipe σ us).set u none := rfl
    rw [e, wipe_set, if_pos (h u List.mem_cons_self), wipe_idem σ vs us fun x hx => h x (List.mem_cons_of_mem _ hx)]
theorem Gd.app {src : Option (Nat × Cell)} {st : Store} {c : Cell} (h : Gd src st) : Gd src (st ++ [c]) := by
  cases src with
  | none => trivial
  | some q =>
    obtain ⟨i, d⟩ := q
    have h' : st[i]? = some d := h
    show (st ++ [c])[i]? = some d
    rw [List.getElem?_append_left (List.getElem?_eq_some_iff.mp h').1]
    exact h'
theorem rc_comp {K : PySem.W.Frag} {mg : Str → Option Value} {W : WX} {mu : Bool} {fi : DenI} {vs : List Nat} {g : DenT} {c : DenB} {e : Den} {σ : St} {H : Hp} {Q : VK} (h : RE K mg W (dComp mu fi vs g c e) σ H Q) :
    tLc (RI K mg W fi) (RG K (some vs) g) (RT K mg Wno c) (RE K mg Wno e) vs σ H Q := by
  obtain ⟨as, env, st, E, S, h⟩ := h
  refine ⟨as, env, st, E, S, Out.wp_mono (Out.wp_bind h) (fun it st1 _ h1 as1 H1 J x1 S1 g1 ok => ?_) fun _ _ _ z => z⟩
  intro D hD
  obtain ⟨xD, SD, gD⟩ := S1.newCell (o := .lst []) (c := .lst []) hD fun x => ⟨[], upd_same, Nat.zero_le _, .nil⟩
  refine ⟨fun i m H2 => m = it.1.length - i ∧ i ≤ it.1.length ∧ ∃ as2 s2, Ext (as1 ++ [D]) (upd H1 D (.lst [])) as2 H2 ∧ StR K as2 H2 s2 ∧ Gd it.2 s2 ∧
    ((compL st1.length it.2 (wipeE env vs) g c e (it.1.drop i) s2).bind fun _ s => give mu st1 s).wp (WV K as H Q) (WE K mg W as H σ), ⟨_, rfl, Nat.zero_le _, _, _, .refl _ _, SD, g1.app, h1⟩, ?_⟩
  rintro i m H2 ⟨rfl, hi, as2, s2, x2, S2, g2, h2⟩
  have x12 : Ext as1 H1 as2 H2 := xD.trans x2
  have okk := (ok as2 H2 s2 x12 S2 g2).2 i
  by_cases hlt : i < it.1.length
  · right
    have ed : it.1.drop i = it.1[i] :: it.1.drop (i + 1) := List.drop_eq_getElem_cons hlt
    rw [ed] at h2
    obtain ⟨hgo, hy⟩ := okk.1 it.1[i] (List.getElem?_eq_getElem hlt)
    refine ⟨hgo, fun H' => i + 1 ≤ it.1.length ∧ ∃ as3 s3, Ext (as1 ++ [D]) (upd H1 D (.lst [])) as3 H' ∧ StR K as3 H' s3 ∧ Gd it.2 s3 ∧
      ((compL st1.length it.2 (wipeE env vs) g c e (it.1.drop (i + 1)) s3).bind fun _ s => give mu st1 s).wp (WV K as H Q) (WE K mg W as H σ), fun H' w => ⟨it.1.length - (i + 1), by omega, rfl, w.1, w.2⟩, fun x H3 y => ?_⟩
    obtain ⟨x3, S3, r3⟩ := hy x H3 y
    unfold compL at h2
    cases eg : g it.1[i] (wipeE env vs) with
    | none => rw [eg] at h2; exact h2.elim
    | some e1 =>
      rw [eg] at h2
      simp only at h2
      rw [Out.assoc] at h2
      refine ⟨as2, wipeE env vs, it.1[i], e1, wipeE_ok (E.ext (x1.trans (x12.trans x3))) vs, r3, eg, fun σ4 E4 m4 => ⟨?_, ?_⟩⟩
      · exact Eq.trans (show wipe σ4 vs = wipe (wipe σ vs) vs from m4) (wipe_idem σ vs vs fun _ z => z)
      refine rt_nox E4 S3 h2 fun b s4 as4 H4 x4 E5 S4 h4 => ?_
      cases b with
      | false =>
        refine iteF ?_
        rw [if_neg Bool.false_ne_true] at h4
        by_cases hG : Gd it.2 s4
        · rw [if_pos hG] at h4
          exact ⟨hlt, as4, s4, (x2.trans x3).trans x4, S4, hG, h4⟩
        · rw [if_neg hG] at h4; exact h4.elim
      | true =>
        refine iteT ?_
        rw [if_pos rfl, Out.assoc] at h4
        refine re_nox E5 S4 h4 fun y s5 as5 H5 v x5 E6 S5 r5 h5 => ?_
        cases ep : push st1.length y s5 with
        | none => rw [ep] at h5; exact h5.elim
        | some s6 =>
          rw [ep] at h5
          simp only at h5
          have x25 := ((x2.trans x3).trans x4).trans x5
          obtain ⟨acc, ha, hl, x6, S6⟩ := push_ok S5 (x25.get gD) r5 ep
          refine ⟨acc, ha, hl, hlt, as5, s6, x25.trans x6, S6, ?_⟩
          by_cases hG : Gd it.2 s6
          · rw [if_pos hG] at h5
            exact ⟨hG, h5⟩
          · rw [if_neg hG] at h5; exact h5.elim
  · left
    have : i = it.1.length := by omega
    subst this
    rw [List.drop_length] at h2
    refine ⟨okk.2 (Nat.le_refl _), ?_⟩
    unfold compL at h2
    have h3 : (give mu st1 s2).wp (WV K as H Q) (WE K mg W as H σ) := h2
    have rD : Rp K as2 H2 (.ref D) (.cell st1.length) := .cell (x2.get gD)
    unfold give at h3
    cases mu with
    | true => exact h3 as2 H2 _ (x1.trans x12) S2 rD
    | false =>
      rw [if_neg Bool.false_ne_true] at h3
      obtain ⟨d, q, x5, S5, r5⟩ := leave_ok S1 x12 S2 rD h3
      exact q as1 H2 _ (x1.trans x5) S5 r5
section
variable {X : Cx} {W : WX} {pos : Pos}
theorem pe_comp' {elt tg iter : Expr} {ifs : List Expr} {scope : Scope} {own : List (Str × Nat)} {mu : Bool} {fi : DenI} {g : DenT} {c : DenB} {e : Den} (hc : X.calm = true) (hN : X.N.Nodup) (hi : PI X tg iter (RI X.K X.mg W fi)) (ok : BlkOk X.N X.env.scope scope own)
    (hg : ∀ (s : Shared) (H : Hp) (C : Addr) (cl : List (Str × Addr)) (fp : List Addr), PG (X.blk s H scope (compEnvC scope cl C X.env) fp) tg (RG X.K (some (own.map (·.2))) g))
    (ht : ∀ (s : Shared) (H : Hp) (C : Addr) (cl : List (Str × Addr)) (fp : List Addr), PTs (X.blk s H scope (compEnvC scope cl C X.env) fp) ifs (RT X.K X.mg Wno c))
    (he : ∀ (s : Shared) (H : Hp) (C : Addr) (cl : List (Str × Addr)) (fp : List Addr), PE (X.blk s H scope (compEnvC scope cl C X.env) fp) elt (RE X.K X.mg Wno e)) (hs : ∀ x, foldedSetIterable iter X.env x = pure x) :
    PE X (.ListComp elt [⟨tg, iter, ifs, 0⟩] scope pos) (RE X.K X.mg W (dComp mu fi (own.map (·.2)) g c e)) := PE.re (pe_lc hc hN hi ok hg ht he hs) fun _ _ _ h => rc_comp h
/-- name = [..] on one line -/
theorem ps_setcomp' {i : Nat} {y : Str} {py spos : Pos} {elt tg iter : Expr} {ifs : List Expr} {scope : Scope} {own : List (Str × Nat)} {mu : Bool} {fi : DenI} {g : DenT} {c : DenB} {e : Den} (hc : X.calm = true) (hN : X.N.Nodup) (hy : X.N[i]? = some y) (hyl : X.env.scope.names.lookup y = some .local)
    (hsw : swapsWith (.ListComp elt [⟨tg, iter, ifs, 0⟩] scope pos) (some (.Name y py)) spos.line X.env = pure true) (hi : PI X tg iter (RI X.K X.mg W fi)) (ok : BlkOk X.N X.env.scope scope own)
    (hg : ∀ (s : Shared) (H : Hp) (C : Addr) (cl : List (Str × Addr)) (fp : List Addr), PG (X.blk s H scope (compEnvC scope cl C X.env) fp) tg (RG X.K (some (own.map (·.2))) g))
    (ht : ∀ (s : Shared) (H : Hp) (C : Addr) (cl : List (Str × Addr)) (fp : List Addr), PTs (X.blk s H scope (compEnvC scope cl C X.env) fp) ifs (RT X.K X.mg Wno c))
    (he : ∀ (s : Shared) (H : Hp) (C : Addr) (cl : List (Str × Addr)) (fp : List Addr), PE (X.blk s H scope (compEnvC scope cl C X.env) fp) elt (RE X.K X.mg Wno e)) (hs : ∀ x, foldedSetIterable iter X.env x = pure x) :
    PS X (.Assign [.Name y py] (.ListComp elt [⟨tg, iter, ifs, 0⟩] scope pos) spos) (RS X.K X.mg W (sAsg (dComp mu fi (own.map (·.2)) g c e) (tgName i))) :=
  PS.re (ps_setLc hc hN hy hyl hsw hi ok hg ht he hs) fun Z σ H h => by
    have q := rs_asg h
    obtain ⟨as, env, st, E, S, q⟩ := q
    refine rc_comp ⟨as, env, st, E, S, Out.wp_mono q (fun r st1 _ h1 as1 H1 v x s rp => ?_) fun _ _ _ z => z⟩
    obtain ⟨as2, env2, d, env3, E2, r2, e2, q2⟩ := h1 as1 H1 v x s rp
    cases e2
    exact q2 _ (E2.set r2 i) trivial
end
end
end L2.PyD
/-! PyD, part 5b: list comprehensions of two fors. -/
namespace L2.PyD
open PySem PySem.Spec PyProof.Rows
noncomputable section
open Classical in
def gdo (src : Option (Nat × Cell)) (k : Store → Out Unit) (s : Store) : Out Unit := if Gd src s then k s else .bad
theorem gdo_pos {src : Option (Nat × Cell)} {k : Store → Out Unit} {s : Store} (h : Gd src s) : gdo src k s = k s := if_pos h
theorem gdo_neg {src : Option (Nat × Cell)} {k : Store → Out Unit} {s : Store} (h : ¬ Gd src s) : gdo src k s = .bad := if_neg h
open Classical in
def compL2 (n : Nat) (src : Option (Nat × Cell)) (env0 : Env) (g : DenT) (c : DenB) (fi1 : DenI) (vs1 : List Nat) (g1 : DenT) (c1 : DenB) (e : Den) : List D → Store → Out Unit
  | [], s => .ok () s
  | x :: xs, s => match g x env0 with
    | none => .bad
    | some e1 => (c e1 s).nox.bind fun b s1 => if b then (fi1 e1 s1).nox.bind fun it1 s2 => (compL n it1.2 (wipeE e1 vs1) g1 c1 e it1.1 s2).bind fun _ s3 => gdo src (compL2 n src env0 g c fi1 vs1 g1 c1 e xs) s3
      else if Gd src s1 then compL2 n src env0 g c fi1 vs1 g1 c1 e xs s1 else .bad
def dComp2 (mu : Bool) (fi : DenI) (vs : List Nat) (g : DenT) (c : DenB) (fi1 : DenI) (vs1 : List Nat) (g1 : DenT) (c1 : DenB) (e : Den) : Den := fun env st => (fi env st).bind fun it st1 => (compL2 st1.length it.2 (wipeE env vs) g c fi1 vs1 g1 c1 e it.1 (st1 ++ [.lst []])).bind fun _ s => give mu st1 s
theorem ri_nox {α : Type} {K : PySem.W.Frag} {mg : Str → Option Value} {as : List Addr} {env : Env} {H : Hp} {σ : St} {st : Store} {fa : DenI} {k : Items → Store → Out α} {P : α → Store → Prop} {E' : Str → List (Str × D) → Store → Prop} {R : It → Hp → Prop} (E : EnvR K as H σ env) (S : StR K as H st)
    (h : ((fa env st).nox.bind k).wp P E') (hk : ∀ it st1 as1 H1 J, Ext as H as1 H1 → EnvR K as1 H1 σ env → StR K as1 H1 st1 → Gd it.2 st1 → ItOk K J as1 H1 it → (k it st1).wp P E' → R J H1) : RI K mg Wno fa σ H R :=
  ⟨as, env, st, E, S, Out.wp_mono (Out.wp_nox (Out.wp_bind h)) (fun it st1 _ h1 as1 H1 J x s g ok => hk it st1 as1 H1 J x (E.ext x) s g ok h1) fun _ _ _ z => z⟩
theorem rc_comp2 {K : PySem.W.Frag} {mg : Str → Option Value} {W : WX} {mu : Bool} {fi fi1 : DenI} {vs vs1 : List Nat} {g g1 : DenT} {c c1 : DenB} {e : Den} {σ : St} {H : Hp} {Q : VK} (h : RE K mg W (dComp2 mu fi vs g c fi1 vs1 g1 c1 e) σ H Q) :
    tLc2 (RI K mg W fi) (RG K (some vs) g) (RT K mg Wno c) (RI K mg Wno fi1) (RG K (some vs1) g1) (RT K mg Wno c1) (RE K mg Wno e) vs vs1 σ H Q := by
  obtain ⟨as, env, st, E, S, h⟩ := h
  refine ⟨as, env, st, E, S, Out.wp_mono (Out.wp_bind h) (fun it st1 _ h1 as1 H1 J x1 S1 g1' ok => ?_) fun _ _ _ z => z⟩
  intro D hD
  obtain ⟨xD, SD, gD⟩ := S1.newCell (o := .lst []) (c := .lst []) hD fun x => ⟨[], upd_same, Nat.zero_le _, .nil⟩
  refine ⟨fun i m H2 => m = it.1.length - i ∧ i ≤ it.1.length ∧ ∃ as2 s2, Ext (as1 ++ [D]) (upd H1 D (.lst [])) as2 H2 ∧ StR K as2 H2 s2 ∧ Gd it.2 s2 ∧
    ((compL2 st1.length it.2 (wipeE env vs) g c fi1 vs1 g1 c1 e (it.1.drop i) s2).bind fun _ s => give mu st1 s).wp (WV K as H Q) (WE K mg W as H σ), ⟨_, rfl, Nat.zero_le _, _, _, .refl _ _, SD, g1'.app, h1⟩, ?_⟩
  rintro i m H2 ⟨rfl, hi, as2, s2, x2, S2, g2, h2⟩
  have x12 : Ext as1 H1 as2 H2 := xD.trans x2
  have okk := (ok as2 H2 s2 x12 S2 g2).2 i
  by_cases hlt : i < it.1.length
  · right
    have ed : it.1.drop i = it.1[i] :: it.1.drop (i + 1) := List.drop_eq_getElem_cons hlt
    rw [ed] at h2
    obtain ⟨hgo, hy⟩ := okk.1 it.1[i] (List.getElem?_eq_getElem hlt)
    refine ⟨hgo, fun H' => i + 1 ≤ it.1.length ∧ ∃ as3 s3, Ext (as1 ++ [D]) (upd H1 D (.lst [])) as3 H' ∧ StR K as3 H' s3 ∧ Gd it.2 s3 ∧
      ((compL2 st1.length it.2 (wipeE env vs) g c fi1 vs1 g1 c1 e (it.1.drop (i + 1)) s3).bind fun _ s => give mu st1 s).wp (WV K as H Q) (WE K mg W as H σ), fun H' w => ⟨it.1.length - (i + 1), by omega, rfl, w.1, w.2⟩, fun x H3 y => ?_⟩
    obtain ⟨x3, S3, r3⟩ := hy x H3 y
    unfold compL2 at h2
    cases eg : g it.1[i] (wipeE env vs) with
    | none => rw [eg] at h2; exact h2.elim
    | some e1 =>
      rw [eg] at h2
      simp only at h2
      rw [Out.assoc] at h2
      refine ⟨as2, wipeE env vs, it.1[i], e1, wipeE_ok (E.ext (x1.trans (x12.trans x3))) vs, r3, eg, fun σ4 E4 m4 => ⟨?_, ?_⟩⟩
      · exact Eq.trans (show wipe σ4 vs = wipe (wipe σ vs) vs from m4) (wipe_idem σ vs vs fun _ z => z)
      refine rt_nox E4 S3 h2 fun b s4 as4 H4 x4 E5 S4 h4 => ?_
      cases b with
      | false =>
        refine iteF ?_
        rw [if_neg Bool.false_ne_true] at h4
        by_cases hG : Gd it.2 s4
        · rw [if_pos hG] at h4
          exact ⟨hlt, as4, s4, (x2.trans x3).trans x4, S4, hG, h4⟩
        · rw [if_neg hG] at h4; exact h4.elim
      | true =>
        refine iteT ?_
        rw [if_pos rfl, Out.assoc] at h4
        simp only [Out.assoc] at h4
        refine ri_nox E5 S4 h4 fun it1 s5 as5 H5 J1 x5 E6 S5 g5 ok1 h5 => ?_
        refine ⟨fun j m H6 => m = it1.1.length - j ∧ j ≤ it1.1.length ∧ ∃ as6 s6, Ext as5 H5 as6 H6 ∧ StR K as6 H6 s6 ∧ Gd it1.2 s6 ∧
          ((compL st1.length it1.2 (wipeE e1 vs1) g1 c1 e (it1.1.drop j) s6).bind fun _ s3 => (gdo it.2 (compL2 st1.length it.2 (wipeE env vs) g c fi1 vs1 g1 c1 e (it.1.drop (i + 1))) s3).bind fun _ s => give mu st1 s).wp (WV K as H Q) (WE K mg W as H σ),
          ⟨_, rfl, Nat.zero_le _, _, _, .refl _ _, S5, g5, h5⟩, ?_⟩
        rintro j m H6 ⟨rfl, hj, as6, s6, x6, S6, g6, h6⟩
        have okj := (ok1 as6 H6 s6 x6 S6 g6).2 j
        have x26 : Ext (as1 ++ [D]) (upd H1 D (.lst [])) as6 H6 := (((x2.trans x3).trans x4).trans x5).trans x6
        by_cases hlj : j < it1.1.length
        · right
          have ej : it1.1.drop j = it1.1[j] :: it1.1.drop (j + 1) := List.drop_eq_getElem_cons hlj
          rw [ej] at h6
          obtain ⟨hgj, hyj⟩ := okj.1 it1.1[j] (List.getElem?_eq_getElem hlj)
          refine ⟨hgj, fun H' => j + 1 ≤ it1.1.length ∧ ∃ as7 s7, Ext as5 H5 as7 H' ∧ StR K as7 H' s7 ∧ Gd it1.2 s7 ∧
            ((compL st1.length it1.2 (wipeE e1 vs1) g1 c1 e (it1.1.drop (j + 1)) s7).bind fun _ s3 => (gdo it.2 (compL2 st1.length it.2 (wipeE env vs) g c fi1 vs1 g1 c1 e (it.1.drop (i + 1))) s3).bind fun _ s => give mu st1 s).wp (WV K as H Q) (WE K mg W as H σ),
            fun H' w => ⟨it1.1.length - (j + 1), by omega, rfl, w.1, w.2⟩, fun z H7 yy => ?_⟩
          obtain ⟨x7, S7, r7⟩ := hyj z H7 yy
          unfold compL at h6
          cases eh : g1 it1.1[j] (wipeE e1 vs1) with
          | none => rw [eh] at h6; exact h6.elim
          | some e2 =>
            rw [eh] at h6
            simp only at h6
            rw [Out.assoc] at h6
            refine ⟨as6, wipeE e1 vs1, it1.1[j], e2, wipeE_ok (E6.ext (x6.trans x7)) vs1, r7, eh, fun σ8 E8 m8 => ⟨?_, ?_⟩⟩
            · exact Eq.trans (show wipe σ8 vs1 = wipe (wipe σ4 vs1) vs1 from m8) (wipe_idem σ4 vs1 vs1 fun _ z => z)
            refine rt_nox E8 S7 h6 fun b s8 as8 H8 x8 E9 S8 h8 => ?_
            cases b with
            | false =>
              refine iteF ?_
              rw [if_neg Bool.false_ne_true] at h8
              by_cases hG : Gd it1.2 s8
              · rw [if_pos hG] at h8
                exact ⟨hlj, as8, s8, (x6.trans x7).trans x8, S8, hG, h8⟩
              · rw [if_neg hG] at h8; exact h8.elim
            | true =>
              refine iteT ?_
              rw [if_pos rfl, Out.assoc] at h8
              refine re_nox E9 S8 h8 fun y9 s9 as9 H9 v9 x9 E10 S9 r9 h9 => ?_
              cases ep : push st1.length y9 s9 with
              | none => rw [ep] at h9; exact h9.elim
              | some s10 =>
                rw [ep] at h9
                simp only at h9
                have x29 := ((x26.trans x7).trans x8).trans x9
                obtain ⟨acc, ha, hl, x10, S10⟩ := push_ok S9 (x29.get gD) r9 ep
                refine ⟨acc, ha, hl, hlj, as9, s10, (((x6.trans x7).trans x8).trans x9).trans x10, S10, ?_⟩
                by_cases hG : Gd it1.2 s10
                · rw [if_pos hG] at h9
                  exact ⟨hG, h9⟩
                · rw [if_neg hG] at h9; exact h9.elim
        · left
          have : j = it1.1.length := by omega
          subst this
          rw [List.drop_length] at h6
          refine ⟨okj.2 (Nat.le_refl _), ?_⟩
          unfold compL at h6
          have h7 : ((gdo it.2 (compL2 st1.length it.2 (wipeE env vs) g c fi1 vs1 g1 c1 e (it.1.drop (i + 1))) s6).bind fun _ s => give mu st1 s).wp (WV K as H Q) (WE K mg W as H σ) := h6
          by_cases hG : Gd it.2 s6
          · rw [gdo_pos hG] at h7
            exact ⟨hlt, as6, s6, x26, S6, hG, h7⟩
          · rw [gdo_neg hG] at h7; exact h7.elim
  · left
    have : i = it.1.length := by omega
    subst this
    rw [List.drop_length] at h2
    refine ⟨okk.2 (Nat.le_refl _), ?_⟩
    unfold compL2 at h2
    have h3 : (give mu st1 s2).wp (WV K as H Q) (WE K mg W as H σ) := h2
    have rD : Rp K as2 H2 (.ref D) (.cell st1.length) := .cell (x2.get gD)
    unfold give at h3
    cases mu with
    | true => exact h3 as2 H2 _ (x1.trans x12) S2 rD
    | false =>
      rw [if_neg Bool.false_ne_true] at h3
      obtain ⟨d, q, x5, S5, r5⟩ := leave_ok S1 x12 S2 rD h3
      exact q as1 H2 _ (x1.trans x5) S5 r5
section
variable {X : Cx} {W : WX} {pos : Pos}
theorem pe_comp2' {elt tg iter tg1 iter1 : Expr} {ifs ifs1 : List Expr} {scope : Scope} {own : List (Str × Nat)} {vs1 : List Nat} {mu : Bool} {fi fi1 : DenI} {g g1 : DenT} {c c1 : DenB} {e : Den} (hc : X.calm = true) (hN : X.N.Nodup) (hi : PI X tg iter (RI X.K X.mg W fi)) (ok : BlkOk X.N X.env.scope scope own) (hv : ∀ i ∈ vs1, i ∈ own.map (·.2))
    (hg : ∀ (s : Shared) (H : Hp) (C : Addr) (cl : List (Str × Addr)) (fp : List Addr), PG (X.blk s H scope (compEnvC scope cl C X.env) fp) tg (RG X.K (some (own.map (·.2))) g))
    (ht : ∀ (s : Shared) (H : Hp) (C : Addr) (cl : List (Str × Addr)) (fp : List Addr), PTs (X.blk s H scope (compEnvC scope cl C X.env) fp) ifs (RT X.K X.mg Wno c))
    (hi1 : ∀ (s : Shared) (H : Hp) (C : Addr) (cl : List (Str × Addr)) (fp : List Addr), PI (X.blk s H scope (compEnvC scope cl C X.env) fp) tg1 iter1 (RI X.K X.mg Wno fi1))
    (hg1 : ∀ (s : Shared) (H : Hp) (C : Addr) (cl : List (Str × Addr)) (fp : List Addr), PG (X.blk s H scope (compEnvC scope cl C X.env) fp) tg1 (RG X.K (some vs1) g1))
    (ht1 : ∀ (s : Shared) (H : Hp) (C : Addr) (cl : List (Str × Addr)) (fp : List Addr), PTs (X.blk s H scope (compEnvC scope cl C X.env) fp) ifs1 (RT X.K X.mg Wno c1))
    (he : ∀ (s : Shared) (H : Hp) (C : Addr) (cl : List (Str × Addr)) (fp : List Addr), PE (X.blk s H scope (compEnvC scope cl C X.env) fp) elt (RE X.K X.mg Wno e)) (hs : ∀ x, foldedSetIterable iter X.env x = pure x) (hs1 : ∀ env x, foldedSetIterable iter1 env x = pure x) :
    PE X (.ListComp elt [⟨tg, iter, ifs, 0⟩, ⟨tg1, iter1, ifs1, 0⟩] scope pos) (RE X.K X.mg W (dComp2 mu fi (own.map (·.2)) g c fi1 vs1 g1 c1 e)) := PE.re (pe_lc2 hc hN hi ok hv hg ht hi1 hg1 ht1 he hs hs1) fun _ _ _ h => rc_comp2 h
theorem ps_setcomp2' {i : Nat} {y : Str} {py spos : Pos} {elt tg iter tg1 iter1 : Expr} {ifs ifs1 : List Expr} {scope : Scope} {own : List (Str × Nat)} {vs1 : List Nat} {mu : Bool} {fi fi1 : DenI} {g g1 : DenT} {c c1 : DenB} {e : Den} (hc : X.calm = true) (hN : X.N.Nodup) (hy : X.N[i]? = some y) (hyl : X.env.scope.names.lookup y = some .local)
    (hsw : swapsWith (.ListComp elt [⟨tg, iter, ifs, 0⟩, ⟨tg1, iter1, ifs1, 0⟩] scope pos) (some (.Name y py)) spos.line X.env = pure true) (hi : PI X tg iter (RI X.K X.mg W fi)) (ok : BlkOk X.N X.env.scope scope own) (hv : ∀ i ∈ vs1, i ∈ own.map (·.2))
    (hg : ∀ (s : Shared) (H : Hp) (C : Addr) (cl : List (Str × Addr)) (fp : List Addr), PG (X.blk s H scope (compEnvC scope cl C X.env) fp) tg (RG X.K (some (own.map (·.2))) g))
    (ht : ∀ (s : Shared) (H : Hp) (C : Addr) (cl : List (Str × Addr)) (fp : List Addr), PTs (X.blk s H scope (compEnvC scope cl C X.env) fp) ifs (RT X.K X.mg Wno c))
    (hi1 : ∀ (s : Shared) (H : Hp) (C : Addr) (cl : List (Str × Addr)) (fp : List Addr), PI (X.blk s H scope (compEnvC scope cl C X.env) fp) tg1 iter1 (RI X.K X.mg Wno fi1))
    (hg1 : ∀ (s : Shared) (H : Hp) (C : Addr) (cl : List (Str × Addr)) (fp : List Addr), PG (X.blk s H scope (compEnvC scope cl C X.env) fp) tg1 (RG X.K (some vs1) g1))
    (ht1 : ∀ (s : Shared) (H : Hp) (C : Addr) (cl : List (Str × Addr)) (fp : List Addr), PTs (X.blk s H scope (compEnvC scope cl C X.env) fp) ifs1 (RT X.K X.mg Wno c1))
    (he : ∀ (s : Shared) (H : Hp) (C : Addr) (cl : List (Str × Addr)) (fp : List Addr), PE (X.blk s H scope (compEnvC scope cl C X.env) fp) elt (RE X.K X.mg Wno e)) (hs : ∀ x, foldedSetIterable iter X.env x = pure x) (hs1 : ∀ env x, foldedSetIterable iter1 env x = pure x) :
    PS X (.Assign [.Name y py] (.ListComp elt [⟨tg, iter, ifs, 0⟩, ⟨tg1, iter1, ifs1, 0⟩] scope pos) spos) (RS X.K X.mg W (sAsg (dComp2 mu fi (own.map (·.2)) g c fi1 vs1 g1 c1 e) (tgName i))) :=
  PS.re (ps_setLc2 hc hN hy hyl hsw hi ok hv hg ht hi1 hg1 ht1 he hs hs1) fun Z σ H h => by
    have q := rs_asg h
    obtain ⟨as, env, st, E, S, q⟩ := q
    refine rc_comp2 ⟨as, env, st, E, S, Out.wp_mono q (fun r st1 _ h1 as1 H1 v x s rp => ?_) fun _ _ _ z => z⟩
    obtain ⟨as2, env2, d, env3, E2, r2, e2, q2⟩ := h1 as1 H1 v x s rp
    cases e2
    exact q2 _ (E2.set r2 i) trivial
end
end
end L2.PyD
/-! Dct: dicts whose keys are tuples of ints. -/
namespace L2.PyD
open PySem PySem.Spec PyProof.Rows
noncomputable section

/-! ### keys -/
def ikeys : List D → Option (List Int)
  | [] => some []
  | .int i :: r => (ikeys r).map (i :: ·)
  | _ => none
def keyI : D → Option (List Int)
  | .tup ds => ikeys ds
  | _ => none
theorem ikeys_ints : ∀ l : List Int, ikeys (l.map D.int) = some l
  | [] => rfl
  | i :: l => by
    rw [List.map_cons, ikeys, ikeys_ints l]
    rfl
theorem keyI_ints (l : List Int) : keyI (.tup (l.map D.int)) = some l := ikeys_ints l
theorem ikeys_inv : ∀ {ds : List D} {ks : List Int}, ikeys ds = some ks → ds = ks.map D.int
  | [], ks, h => by cases h; rfl
  | .int i :: r, ks, h => by
    unfold ikeys at h
    obtain ⟨ks', e, rfl⟩ := Option.map_eq_some_iff.mp h
    rw [ikeys_inv e]
    rfl
  | .non :: _, _, h => nomatch h
  | .bl _ :: _, _, h => nomatch h
  | .str _ :: _, _, h => nomatch h
  | .ty _ :: _, _, h => nomatch h
  | .tup _ :: _, _, h => nomatch h
  | .lst _ :: _, _, h => nomatch h
  | .frl _ :: _, _, h => nomatch h
  | .cell _ :: _, _, h => nomatch h
theorem RpL.intsInv {K : PySem.W.Frag} {as : List Addr} {H : Hp} : ∀ {vs : List V} {ks : List Int}, RpL K as H vs (ks.map D.int) → vs = ks.map V.int
  | _, [], .nil => rfl
  | _, _ :: _, .cons (.int _) r => by rw [List.map_cons, RpL.intsInv r]
theorem keyI_ok {K : PySem.W.Frag} {as : List Addr} {H : Hp} {v : V} {d : D} {ks : List Int} (r : Rp K as H v d) (e : keyI d = some ks) : ∃ b, v = .ref b ∧ KeyR K H b ks := by
  cases r with
  | tup h z rl =>
    have := ikeys_inv e
    subst this
    rw [RpL.intsInv rl] at h z
    exact ⟨_, rfl, h, by rw [List.length_map] at z; exact z⟩
  | _ => cases e

/-! ### dicts as lists -/
abbrev Kvs := List (List Int × D)
def kvGet (kvs : Kvs) (k : List Int) : Option D := (kvs.find? fun x => decide (x.1 = k)).map (·.2)
def kvPut (kvs : Kvs) (k : List Int) (d : D) : Kvs := if (kvGet kvs k).isSome then kvs.map (fun x => if x.1 = k then (x.1, d) else x) else kvs ++ [(k, d)]
def kvDrop (kvs : Kvs) (k : List Int) : Kvs := kvs.filter fun x => decide (x.1 ≠ k)
theorem kvPut_le (kvs : Kvs) (k : List Int) (d : D) : (kvPut kvs k d).length ≤ kvs.length + 1 := by
  unfold kvPut
  split <;> simp
section
variable {K : PySem.W.Frag} {as : List Addr} {H : Hp}
theorem EntR.len : ∀ {xs : List Ent} {kvs : Kvs}, EntR K as H xs kvs → xs.length = kvs.length
  | _, _, .nil => rfl
  | _, _, .cons _ r => congrArg (· + 1) (EntR.len r)
theorem EntR.get {k : List Int} : ∀ {xs : List Ent} {kvs : Kvs}, EntR K as H xs kvs → (atKey xs k = none ∧ kvGet kvs k = none) ∨ ∃ p d v, atKey xs k = some p ∧ kvGet kvs k = some d ∧ RelV v p.2 ∧ Rp K as H v d
  | _, _, .nil => .inl ⟨rfl, rfl⟩
  | x :: xs, kv :: kvs, .cons ⟨h1, h2, v, h3, h4⟩ r => by
    by_cases c : kv.1 = k
    · refine .inr ⟨x.2, kv.2, v, ?_, ?_, h3, h4⟩
      · simp [atKey, h1, c]
      · simp [kvGet, c]
    · rcases EntR.get (k := k) r with ⟨e1, e2⟩ | ⟨p, d, w, e1, e2, e3⟩
      · refine .inl ⟨?_, ?_⟩
        · simpa [atKey, h1, c] using e1
        · simpa [kvGet, c] using e2
      · refine .inr ⟨p, d, w, ?_, ?_, e3⟩
        · simpa [atKey, h1, c] using e1
        · simpa [kvGet, c] using e2
theorem EntR.some_iff {xs : List Ent} {kvs : Kvs} (r : EntR K as H xs kvs) (k : List Int) : (atKey xs k).isSome = (kvGet kvs k).isSome := by
  rcases r.get (k := k) with ⟨e1, e2⟩ | ⟨p, d, w, e1, e2, _⟩ <;> rw [e1, e2] <;> rfl
theorem EntR.app : ∀ {xs ys : List Ent} {kvs lvs : Kvs}, EntR K as H xs kvs → EntR K as H ys lvs → EntR K as H (xs ++ ys) (kvs ++ lvs)
  | _, _, _, _, .nil, s => s
  | _, _, _, _, .cons h r, s => .cons h (EntR.app r s)
theorem EntR.repl {k : List Int} {v : V} {u : Value} {d : D} (ru : RelV v u) (rd : Rp K as H v d) : ∀ {xs : List Ent} {kvs : Kvs}, EntR K as H xs kvs → EntR K as H (xs.map (putAt k u)) (kvs.map fun x => if x.1 = k then (x.1, d) else x)
  | _, _, .nil => .nil
  | x :: xs, kv :: kvs, .cons ⟨h1, h2, w, h3, h4⟩ r => by
    rw [List.map_cons, List.map_cons]
    refine .cons ?_ (EntR.repl ru rd r)
    unfold putAt
    by_cases c : kv.1 = k
    · rw [if_pos (h1.trans c), if_pos c]
      exact ⟨h1, h2, v, ru, rd⟩
    · rw [if_neg (fun z => c (h1.symm.trans z)), if_neg c]
      exact ⟨h1, h2, w, h3, h4⟩
theorem EntR.put {k : List Int} {b : Addr} {v : V} {u : Value} {d : D} {xs : List Ent} {kvs : Kvs} (r : EntR K as H xs kvs) (hb : KeyR K H b k) (ru : RelV v u) (rd : Rp K as H v d) : EntR K as H (storedH xs k b u) (kvPut kvs k d) := by
  unfold storedH kvPut
  rw [r.some_iff k]
  split
  · exact r.repl ru rd
  · exact r.app (.cons ⟨rfl, hb, v, ru, rd⟩ .nil)
theorem EntR.drop (k : List Int) : ∀ {xs : List Ent} {kvs : Kvs}, EntR K as H xs kvs → EntR K as H (withoutH xs k) (kvDrop kvs k)
  | _, _, .nil => .nil
  | x :: xs, kv :: kvs, .cons ⟨h1, h2⟩ r => by
    have ih := EntR.drop k r
    unfold withoutH kvDrop at ih ⊢
    by_cases c : kv.1 = k
    · rw [List.filter_cons_of_neg (by simp [h1, c]), List.filter_cons_of_neg (by simp [c])]
      exact ih
    · rw [List.filter_cons_of_pos (by simp [h1, c]), List.filter_cons_of_pos (by simp [c])]
      exact .cons ⟨h1, h2⟩ ih
end

/-! ### how a dict lies -/
theorem ints_are {P : Program} {w : World} : ∀ {ks : List Int} {its : List Value}, Vals (ks.map V.int) its → PySem.ItemsAre (PySem.intKind P w) ks its
  | [], _, h => by cases h; exact .nil
  | k :: ks, _, .cons h r => by
    obtain ⟨t, rfl⟩ := h
    exact .cons (intKind_is P w k t) (ints_are r)
abbrev tk (X : Cx) := tupleKind (PySem.intKind X.prog X.w)
section
variable {X : Cx} {pins : List (Addr × Obj)} {σ : St} {H : Hp} {s : Shared} {as : List Addr} {st : Store} {i : Nat} {p b : Addr} {lk : Bool} {kvs : Kvs} {o : Obj} {ks : List Int}
theorem key_is (I : Inv X pins σ H s) (h : KeyR X.K H b ks) : (tk X).is s.heap ks b := by
  obtain ⟨its, r, ⟨o, ho, hc, n, hd⟩, z⟩ := I.tuple h.1
  exact ⟨o, its.toArray, n, ho, hc, hd, ints_are (by simpa using r)⟩
theorem dct_H (I : Inv X pins σ H s) (ho : s.heap.get? p = some o) (h : DatR X.K as H o kvs) : ∃ xs, s.heap.DictOfH (tk X) p xs ∧ EntR X.K as H xs kvs ∧ xs.length ≤ sizeLine := by
  obtain ⟨z, hx, es, ep, xs, h1, h2, h3, r⟩ := h
  refine ⟨xs, ⟨o, es, ep, ho, hx, h1, h2, fun x hm => ?_, h3⟩, r, by rw [r.len]; exact z⟩
  have go : ∀ {ys : List Ent} {lvs : Kvs}, EntR X.K as H ys lvs → x ∈ ys → (tk X).is s.heap x.1 x.2.1 := by
    intro ys lvs r
    induction r with
    | nil => intro hm; simp at hm
    | cons h r ih =>
      intro hm
      rcases List.mem_cons.mp hm with e | e
      · subst e; exact key_is I h.2.1
      · exact ih e
  exact go r hm
theorem dct_obj (I : Inv X pins σ H s) (h : CellR X.K as H p (.dct lk kvs)) : (p == sysModules) = false ∧ ∃ o, s.heap.get? p = some o ∧ DatR X.K as H o kvs := by
  cases lk with
  | false =>
    obtain ⟨z, o, e, r⟩ := h
    exact ⟨z, o, (I.hok p _ e).1, r⟩
  | true =>
    obtain ⟨z, o, od, e, r⟩ := h
    exact ⟨z, o, (I.hok p _ e).2.1, r⟩
theorem dx_ok {P : Program} {w : World} {H : Hp} {h : Heap} (e : h.get? p = some o) : ObjOk P w H h p (DX p o) := ⟨e, ⟨o, e⟩, fun h1 h2 x k => k o x⟩
/-- a dict cell is written -/
theorem dct_write {h' : Heap} {xs : List Ent} {kvs' : Kvs} {t : Nat} (I : Inv X pins σ H s) (S : StR X.K as H st) (hc : as[i]? = some p) (hl : CellR X.K as H p (.dct false kvs)) (dd : h'.DictOfH (tk X) p xs) (hs : Heap.SameBut p s.heap h') (r : EntR X.K as H xs kvs')
    (z : kvs'.length ≤ sizeLine) : ∃ o', Inv X pins σ (upd H p (DX p o')) { s with heap := h', toks := t } ∧ Ext as H as (upd H p (DX p o')) ∧ StR X.K as (upd H p (DX p o')) (st.set i (.dct false kvs')) := by
  obtain ⟨o', es, ep, hg, hx, hd, he, _, hn⟩ := dd
  obtain ⟨hsm, u, eu, _⟩ := id hl
  have mu : Mut (H p) := by rw [eu]; exact True.intro
  refine ⟨o', I.write (x := p) (e := p) mu (.inl rfl) (fun c q hb e => (hs.2 c hb).trans e) ⟨_, hg⟩ (dx_ok hg), ?_⟩
  exact S.write hc (CellR.mut rfl hl) fun x => ⟨hsm, o', upd_same, z, hx, es, ep, xs, hd, he, hn, r.ext x⟩
end

/-! ### reading -/
def dctD (st : Store) : D → Option Kvs
  | .cell i => match st[i]? with
    | some (.dct _ kvs) => some kvs
    | _ => none
  | _ => none
/-- d[k], k in d, d.get(k, x): what is there -/
def gDict (st : Store) (x y : D) : Option (Option D) := match dctD st x, keyI y with
  | some kvs, some k => some (kvGet kvs k)
  | _, _ => none
section
variable {X : Cx} {pins : List (Addr × Obj)} {σ : St} {H : Hp} {s : Shared} {as : List Addr} {st : Store} {x y : V} {dx dy : D} {v u : Value}
theorem dctD_inv {kvs : Kvs} (e : dctD st dx = some kvs) : ∃ i lk, dx = .cell i ∧ st[i]? = some (.dct lk kvs) := by
  cases dx with
  | cell i =>
    cases h : st[i]? with
    | none => unfold dctD at e; simp only [h] at e; cases e
    | some c =>
      unfold dctD at e
      simp only [h] at e
      cases c with
      | lst ds => cases e
      | dct lk kvs' => cases e; exact ⟨i, lk, rfl, h⟩
  | _ => cases e
theorem dict_now (I : Inv X pins σ H s) (S : StR X.K as H st) (r1 : Rp X.K as H x dx) {kvs : Kvs} (e : dctD st dx = some kvs) : ∃ a, x = .ref a ∧ (a == sysModules) = false ∧ ∃ xs, s.heap.DictOfH (tk X) a xs ∧ EntR X.K as H xs kvs ∧ xs.length ≤ sizeLine := by
  obtain ⟨i, lk, rfl, h⟩ := dctD_inv e
  cases r1 with
  | cell hc =>
    rename_i p
    obtain ⟨c, e1, hR⟩ := S.get' hc
    rw [h] at e1
    cases e1
    obtain ⟨z, o, ho, hd⟩ := dct_obj I hR
    obtain ⟨xs, h1, h2, h3⟩ := dct_H I ho hd
    exact ⟨_, rfl, z, xs, h1, h2, h3⟩
theorem gDict_inv {o : Option D} (e : gDict st dx dy = some o) : ∃ kvs k, dctD st dx = some kvs ∧ keyI dy = some k ∧ o = kvGet kvs k := by
  unfold gDict at e
  split at e
  · rename_i kvs k h1 h2
    cases e
    exact ⟨kvs, k, h1, h2, rfl⟩
  · cases e
theorem dict_at (I : Inv X pins σ H s) (S : StR X.K as H st) (r1 : Rp X.K as H x dx) (r2 : Rp X.K as H y dy) {o : Option D} (e : gDict st dx dy = some o) : ∃ a b k xs, x = .ref a ∧ y = .ref b ∧ (a == sysModules) = false ∧ (tk X).is s.heap k b ∧ s.heap.DictOfH (tk X) a xs ∧
    ((atKey xs k = none ∧ o = none) ∨ ∃ p d w, atKey xs k = some p ∧ o = some d ∧ RelV w p.2 ∧ Rp X.K as H w d) := by
  obtain ⟨kvs, k, h1, h2, rfl⟩ := gDict_inv e
  obtain ⟨a, rfl, z, xs, h3, h4, h5⟩ := dict_now I S r1 h1
  obtain ⟨b, rfl, h6⟩ := keyI_ok r2 h2
  exact ⟨a, b, k, xs, rfl, rfl, z, key_is I h6, h3, h4.get⟩
theorem ix_dct (hu : X.A.units + 1 < cLine) : IxR X (RB X.K fun st x y => match gDict st x y with
    | some (some d) => some (.val d)
    | _ => none) := by
  intro value slice pins s σ H x y v u Q I rx ry q hs
  obtain ⟨as, st, dx, dy, rv, S, r1, r2, e, ok⟩ := q
  simp only at e
  split at e
  · rename_i d h
    cases e
    obtain ⟨a, b, k, xs, rfl, rfl, z, hk, hd, hh⟩ := dict_at I S r1 r2 h
    obtain rfl : v = Value.ref a := rx
    obtain rfl : u = Value.ref b := ry
    rcases hh with ⟨_, hn⟩ | ⟨p, d', w, h1, h2, h3, h4⟩
    · cases hn
    · cases h2
      exact tail_any hd.typeIs slot_dict_getitem.lookup (wpAny_getItem_heap (tupleKind_room_in1 hu) hk hd h1 ⟨w, H, I.tok _, h3, ok H w (.refl _ _) S h4⟩) hs
  · cases e
theorem op_in_dct (hu : X.A.units + 1 < cLine) : OpR X (compareOp .In) (RCm X.K fun st x y => (gDict st y x).map (·.isSome)) := by
  intro pins s σ H x y v u Q I rx ry q
  obtain ⟨as, st, dx, dy, b', S, r1, r2, e, ok⟩ := q
  obtain ⟨o, h, rfl⟩ := Option.map_eq_some_iff.mp e
  obtain ⟨a, b, k, xs, rfl, rfl, z, hk, hd, hh⟩ := dict_at I S r2 r1 h
  obtain rfl : v = Value.ref b := rx
  obtain rfl : u = Value.ref a := ry
  refine wpAny_in_heap (tupleKind_room_in1 hu) hk z hd ?_
  have : (atKey xs k).isSome = o.isSome := by
    rcases hh with ⟨h1, h2⟩ | ⟨p, d, w, h1, h2, _⟩ <;> rw [h1, h2] <;> rfl
  rw [this]
  exact ⟨.bl o.isSome, H, I.tok _, rfl, ok⟩
theorem op_notin_dct (hu : X.A.units + 1 < cLine) : OpR X (compareOp .NotIn) (RCm X.K fun st x y => (gDict st y x).map (fun o => !o.isSome)) := by
  intro pins s σ H x y v u Q I rx ry q
  obtain ⟨as, st, dx, dy, b', S, r1, r2, e, ok⟩ := q
  obtain ⟨o, h, rfl⟩ := Option.map_eq_some_iff.mp e
  obtain ⟨a, b, k, xs, rfl, rfl, z, hk, hd, hh⟩ := dict_at I S r2 r1 h
  obtain rfl : v = Value.ref b := rx
  obtain rfl : u = Value.ref a := ry
  refine wpAny_notIn_heap (tupleKind_room_in1 hu) hk z hd ?_
  have : (atKey xs k).isSome = o.isSome := by
    rcases hh with ⟨h1, h2⟩ | ⟨p, d, w, h1, h2, _⟩ <;> rw [h1, h2] <;> rfl
  rw [this]
  exact ⟨.bl (!o.isSome), H, I.tok _, rfl, ok⟩

/-! ### writing -/
def unlkD (st : Store) : D → Option (Nat × Kvs)
  | .cell i => match st[i]? with
    | some (.dct false kvs) => some (i, kvs)
    | _ => none
  | _ => none
theorem unlkD_inv {i : Nat} {kvs : Kvs} (e : unlkD st dx = some (i, kvs)) : dx = .cell i ∧ st[i]? = some (.dct false kvs) := by
  cases dx with
  | cell j =>
    cases h : st[j]? with
    | none => unfold unlkD at e; simp only [h] at e; cases e
    | some c =>
      unfold unlkD at e
      simp only [h] at e
      cases c with
      | lst ds => cases e
      | dct lk kvs' =>
        cases lk with
        | true => cases e
        | false => cases e; exact ⟨rfl, h⟩
  | _ => cases e
/-- d[k] = v -/
def putD (st : Store) (x y d : D) : Option Store := match unlkD st x, keyI y with
  | some (i, kvs), some k => if dec (kvs.length < sizeLine) then some (st.set i (.dct false (kvPut kvs k d))) else none
  | _, _ => none
theorem putD_inv {d : D} {st' : Store} (e : putD st dx dy d = some st') : ∃ i kvs k, dx = .cell i ∧ st[i]? = some (.dct false kvs) ∧ keyI dy = some k ∧ kvs.length < sizeLine ∧ st' = st.set i (.dct false (kvPut kvs k d)) := by
  unfold putD at e
  split at e
  · rename_i i kvs k h1 h2
    split at e
    · rename_i h3
      cases e
      obtain ⟨h4, h5⟩ := unlkD_inv h1
      exact ⟨i, kvs, k, h4, h5, h2, of_dec h3, rfl⟩
    · cases e
  · cases e
/-- what a store at a key does, by values -/
theorem put_at (I : Inv X pins σ H s) (S : StR X.K as H st) (r1 : Rp X.K as H x dx) (r2 : Rp X.K as H y dy) {d : D} {z : V} (r3 : Rp X.K as H z d) {r : Value} (rr : RelV z r) {st' : Store} (e : putD st dx dy d = some st') :
    ∃ a b k xs, x = .ref a ∧ y = .ref b ∧ (tk X).is s.heap k b ∧ s.heap.DictOfH (tk X) a xs ∧ xs.length ≤ sizeLine ∧ ∀ h' t, h'.DictOfH (tk X) a (storedH xs k b r) → Heap.SameBut a s.heap h' → ∃ o', Inv X pins σ (upd H a (DX a o')) { s with heap := h', toks := t } ∧
      Ext as H as (upd H a (DX a o')) ∧ StR X.K as (upd H a (DX a o')) st' := by
  obtain ⟨i, kvs, k, rfl, h, h2, h3, rfl⟩ := putD_inv e
  cases r1 with
  | cell hc =>
    rename_i p
    obtain ⟨c, e1, hR⟩ := S.get' hc
    rw [h] at e1
    cases e1
    obtain ⟨zz, o, ho, hd⟩ := dct_obj I hR
    obtain ⟨xs, h4, h5, h6⟩ := dct_H I ho hd
    obtain ⟨b, rfl, h7⟩ := keyI_ok r2 h2
    refine ⟨p, b, k, xs, rfl, rfl, key_is I h7, h4, h6, fun h' t dd hs => dct_write I S hc hR dd hs (h5.put h7 rr r3) ?_⟩
    have := kvPut_le kvs k d
    omega
def rSetD (K : PySem.W.Frag) : TSet := fun o i v H Q => ∃ as st d1 d2 d3 st', StR K as H st ∧ Rp K as H o d1 ∧ Rp K as H i d2 ∧ Rp K as H v d3 ∧ putD st d1 d2 d3 = some st' ∧ ∀ as' H', Ext as H as' H' → StR K as' H' st' → Q H'
theorem set_dct (hu : X.A.units + 1 < cLine) : PSet X (rSetD X.K) := by
  intro pins s σ H o i v ov iv u Q I ro ri rv h
  obtain ⟨as, st, d1, d2, d3, st', S, r1, r2, r3, e, ok⟩ := h
  obtain ⟨a, b, k, xs, rfl, rfl, h1, h2, h3, h4⟩ := put_at I S r1 r2 r3 rv e
  obtain rfl : ov = Value.ref a := ro
  obtain rfl : iv = Value.ref b := ri
  refine wpAny_setItem_heap (hsz := h3) (tupleKind_room_in1 hu) h1 h2 fun h' dd hs => ?_
  obtain ⟨o', I', x', S'⟩ := h4 h' (s.toks + (tk X).draws k) dd hs
  exact ⟨_, I', ok _ _ x' S'⟩
theorem dictSet_dct (hu : X.A.units + 1 < cLine) {d : D} {z : V} {r : Value} {st' : Store} {Q : Unit → Shared → Prop} {E : Value → Shared → Prop} {a : Addr} (I : Inv X pins σ H s) (S : StR X.K as H st) (r1 : Rp X.K as H (.ref a) dx) (r2 : Rp X.K as H y dy) (ry : RelV y u) (r3 : Rp X.K as H z d) (rr : RelV z r) (e : putD st dx dy d = some st')
    (h : ∀ H' s', Inv X pins σ H' s' → Ext as H as H' → StR X.K as H' st' → Q () s') : wpAny (model X.prog X.w) X.A (dictSet a u r) Q E s := by
  obtain ⟨a', b, k, xs, ea, rfl, h1, h2, h3, h4⟩ := put_at I S r1 r2 r3 rr e
  cases ea
  obtain rfl : u = Value.ref b := ry
  refine wpAny_dictSet_heap (hsz := h3) (show X.A.units < cLine by omega) h1 h2 fun h' dd hs => ?_
  obtain ⟨o', I', x', S'⟩ := h4 h' (s.toks + (tk X).draws k) dd hs
  exact h _ _ I' x' S'
end

/-! ### expressions -/
section
variable {X : Cx} {W : WX} {pos : Pos}
def emptyO : Obj := { cls := .type "dict", data := .dict #[] }
theorem dx_new {pins : List (Addr × Obj)} {σ : St} {H : Hp} {s : Shared} {as : List Addr} {st : Store} {p : Addr} (I : Inv X pins σ H s) (S : StR X.K as H st) {t : Nat} (hp : s.heap.objs.size = p) : Inv X pins σ (upd H p (DX p emptyO)) { s with heap := s.heap.push emptyO, toks := t } ∧
    Ext as H (as ++ [p]) (upd H p (DX p emptyO)) ∧ StR X.K (as ++ [p]) (upd H p (DX p emptyO)) (st ++ [.dct false []]) ∧ (as ++ [p])[st.length]? = some p := by
  subst hp
  have hn : H s.heap.objs.size = none := I.hok.fresh (Nat.le_refl _)
  have hg : (s.heap.push emptyO).get? s.heap.objs.size = some emptyO := Heap.get?_push_size _ rfl
  have I' := I.laid (a := s.heap.objs.size) (o := DX s.heap.objs.size emptyO) (t' := t) (fun _ _ q => Heap.get?_push_of_some emptyO q) (Nat.le_refl _) (dx_ok hg)
  obtain ⟨x, S', g⟩ := S.newCell (o := DX s.heap.objs.size emptyO) (c := .dct false []) hn fun x =>
    ⟨beq_eq_false_iff_ne.mpr (Ne.symm (Nat.ne_of_lt I.big)), _, upd_same, Nat.zero_le _, ⟨rfl, rfl, rfl⟩, #[], 0, [], rfl, rfl, List.nodup_nil, .nil⟩
  exact ⟨I', x, S', g⟩
def dNew : Den := fun _ st => .ok (.cell st.length) (st ++ [.dct false []])
theorem pe_dnew' : PE X (.Dict [] [] pos) (RE X.K X.mg W dNew) := ⟨fun pins s σ H Q I h => by
  obtain ⟨as, env, st, E, S, h⟩ := h
  obtain ⟨I', x, S', g⟩ := dx_new (t := s.toks) I S rfl
  exact wpAny_Dict_empty ⟨.ref s.heap.objs.size, _, I', rfl, h _ _ _ x S' (.cell g)⟩⟩
/-- d.get(k, x) -/
def dGet (fo fk fx : Den) : Den := fun env st => (fo env st).bind fun o st1 => if (dctD st1 o).isSome then (fk env st1).bind fun k st2 => (fx env st2).bind fun z st3 => match gDict st3 o k with
    | some r => .ok (r.getD z) st3
    | none => .bad
  else .bad
theorem dct_types {pins : List (Addr × Obj)} {σ : St} {H : Hp} {s : Shared} {as : List Addr} {st : Store} {x : V} {dx : D} (I : Inv X pins σ H s) (S : StR X.K as H st) (r1 : Rp X.K as H x dx) (e : (dctD st dx).isSome = true) :
    ∃ a, x = .ref a ∧ s.TypeIs (.ref a) "dict" ∧ (∀ b, Value.ref a = .ref b → ∃ ob, s.heap.get? b = some ob ∧ ob.dict = none) := by
  obtain ⟨kvs, e⟩ := Option.isSome_iff_exists.mp e
  obtain ⟨a, rfl, z, xs, ⟨o, es, ep, ho, hx, r⟩, _⟩ := dict_now I S r1 e
  exact ⟨a, rfl, ⟨o, ho, hx.1⟩, fun b q => by cases q; exact ⟨o, ho, hx.2.1⟩⟩
theorem pe_dget' {o e f : Expr} {apos cpos : Pos} {fo fk fx : Den} (hu : X.A.units + 1 < cLine) (ho : PE X o (RE X.K X.mg W fo)) (he : PE X e (RE X.K X.mg W fk)) (hf : PE X f (RE X.K X.mg W fx)) (m : M2 X o "get" apos e f cpos) :
    PE X (.Call (.Attribute o "get" apos) [e, f] [] cpos) (RE X.K X.mg W (dGet fo fk fx)) := by
  refine ⟨fun pins s σ H Q I h => ?_⟩
  obtain ⟨as, env, st, E, S, h⟩ := h
  have h1 : RE X.K X.mg W fo σ H (fun x H1 => ∃ as1 st1 d, Ext as H as1 H1 ∧ EnvR X.K as1 H1 σ env ∧ StR X.K as1 H1 st1 ∧ Rp X.K as1 H1 x d ∧ (dctD st1 d).isSome = true ∧ (((fk env st1).bind fun k st2 => (fx env st2).bind fun z st3 => match gDict st3 d k with
      | some r => Out.ok (r.getD z) st3
      | none => .bad).wp (WV X.K as1 H1 Q) (WE X.K X.mg W as1 H1 σ))) := by
    refine re_then E S h fun r st1 as1 H1 v x1 E1 S1 r1 h1 => ?_
    by_cases c : (dctD st1 r).isSome = true
    · rw [if_pos c] at h1
      exact ⟨as1, st1, r, x1, E1, S1, r1, c, Out.wp_mono h1 (fun _ _ _ z => z.ext x1) fun _ _ _ z => z⟩
    · rw [if_neg c] at h1; exact h1.elim
  refine wpAny_Call_method m.base m.few m.line PySem.F.plainAttrs_dict PySem.F.slot_dict_get PySem.F.type_dict_get (thn (ho.run pins s σ H _ I h1) fun u s1 ⟨x, H1, I1, rx, as1, st1, d, x1, E1, S1, r1, c, q1⟩ => ?_)
  obtain ⟨a, rfl, t1, t2⟩ := dct_types I1 S1 r1 c
  obtain rfl : u = Value.ref a := rx
  refine ⟨t1, t2, ?_⟩
  rw [m.trees]
  have h2 : RE X.K X.mg W fk σ H1 (fun y H2 => RE X.K X.mg W fx σ H2 fun z H3 => ∃ as3 st3 k w, StR X.K as3 H3 st3 ∧ Rp X.K as3 H3 (.ref a) d ∧ Rp X.K as3 H3 y k ∧ Rp X.K as3 H3 z w ∧ ∃ r, gDict st3 d k = some r ∧ ∀ v, Rp X.K as3 H3 v (r.getD w) → Q v H3) := by
    refine re_then E1 S1 q1 fun k st2 as2 H2 y x2 E2 S2 r2 h2 => re_then E2 S2 h2 fun w st3 as3 H3 z x3 E3 S3 r3 h3 => ?_
    split at h3
    · rename_i r hr
      exact ⟨as3, st3, k, w, S3, Rp.ext x3 (Rp.ext x2 r1), Rp.ext x3 r2, r3, r, hr, fun v rv => h3 as3 H3 v (x2.trans x3) S3 rv⟩
    · exact h3.elim
  refine Calls.callWith_builtin rfl (Calls.evalArgs_plain (Calls.spliced_cons (thn (he.run pins s1 σ H1 _ I1 h2) fun iv s2 ⟨y, H2, I2, ry, q2⟩ =>
    Calls.spliced_cons (thn (hf.run pins s2 σ H2 _ I2 q2) fun fv s3 ⟨z, H3, I3, rz, as3, st3, k, w, S3, g1, g2, g3, r, gr, q3⟩ => Calls.spliced_nil ?_))))
  obtain ⟨a', b, ks, xs, ea, rfl, hz, hk, hd, hh⟩ := dict_at I3 S3 g1 g2 gr
  cases ea
  obtain rfl : iv = Value.ref b := ry
  refine call_meetsIn PySem.F.slot_dict_get hd.typeIs PySem.F.entry_dict_get (PySem.F.args_dict_get_3 _ _ _) (meetsH_dict_get_default (tk X) a b hz fv) ⟨tupleKind_room_in1 hu, ks, xs, hk, hd, ?_⟩
  show EP X pins σ Q _ _
  rcases hh with ⟨e1, e2⟩ | ⟨p, d', v', e1, e2, e3, e4⟩
  · subst e2
    rw [e1]
    exact ⟨z, H3, I3.tok _, rz, q3 z g3⟩
  · subst e2
    rw [e1]
    exact ⟨v', H3, I3.tok _, e3, q3 v' e4⟩
/-- d.pop(k), there -/
def popD (st : Store) (x y : D) : Option (D × Store) := match unlkD st x, keyI y with
  | some (i, kvs), some k => match kvGet kvs k with
    | some d => some (d, st.set i (.dct false (kvDrop kvs k)))
    | none => none
  | _, _ => none
def dPop (fo fk : Den) : Den := fun env st => (fo env st).bind fun o st1 => if (dctD st1 o).isSome then (fk env st1).bind fun k st2 => match popD st2 o k with
    | some r => .ok r.1 r.2
    | none => .bad
  else .bad
theorem popD_inv {st : Store} {dx dy : D} {r : D × Store} (e : popD st dx dy = some r) : ∃ i kvs k d, dx = .cell i ∧ st[i]? = some (.dct false kvs) ∧ keyI dy = some k ∧ kvGet kvs k = some d ∧ r = (d, st.set i (.dct false (kvDrop kvs k))) := by
  unfold popD at e
  split at e
  · rename_i i kvs k h1 h2
    obtain ⟨h4, h5⟩ := unlkD_inv h1
    split at e
    · rename_i d h3
      cases e
      exact ⟨i, kvs, k, d, h4, h5, h2, h3, rfl⟩
    · cases e
  · cases e
theorem pe_dpop' {o e : Expr} {apos cpos : Pos} {fo fk : Den} (hu : X.A.units + 1 < cLine) (ho : PE X o (RE X.K X.mg W fo)) (he : PE X e (RE X.K X.mg W fk)) (m : M1 X o "pop" apos e cpos) :
    PE X (.Call (.Attribute o "pop" apos) [e] [] cpos) (RE X.K X.mg W (dPop fo fk)) := by
  refine ⟨fun pins s σ H Q I h => ?_⟩
  obtain ⟨as, env, st, E, S, h⟩ := h
  have h1 : RE X.K X.mg W fo σ H (fun x H1 => ∃ as1 st1 d, Ext as H as1 H1 ∧ EnvR X.K as1 H1 σ env ∧ StR X.K as1 H1 st1 ∧ Rp X.K as1 H1 x d ∧ (dctD st1 d).isSome = true ∧ (((fk env st1).bind fun k st2 => match popD st2 d k with
      | some r => Out.ok r.1 r.2
      | none => .bad).wp (WV X.K as1 H1 Q) (WE X.K X.mg W as1 H1 σ))) := by
    refine re_then E S h fun r st1 as1 H1 v x1 E1 S1 r1 h1 => ?_
    by_cases c : (dctD st1 r).isSome = true
    · rw [if_pos c] at h1
      exact ⟨as1, st1, r, x1, E1, S1, r1, c, Out.wp_mono h1 (fun _ _ _ z => z.ext x1) fun _ _ _ z => z⟩
    · rw [if_neg c] at h1; exact h1.elim
  refine wpAny_Call_method m.base m.few m.line PySem.F.plainAttrs_dict PySem.F.slot_dict_pop PySem.F.type_dict_pop (thn (ho.run pins s σ H _ I h1) fun u s1 ⟨x, H1, I1, rx, as1, st1, d, x1, E1, S1, r1, c, q1⟩ => ?_)
  obtain ⟨a, rfl, t1, t2⟩ := dct_types I1 S1 r1 c
  obtain rfl : u = Value.ref a := rx
  refine ⟨t1, t2, ?_⟩
  rw [m.trees]
  have h2 : RE X.K X.mg W fk σ H1 (fun y H2 => ∃ as2 st2 k, StR X.K as2 H2 st2 ∧ Rp X.K as2 H2 (.ref a) d ∧ Rp X.K as2 H2 y k ∧ ∃ r, popD st2 d k = some r ∧ ∀ as' H' v, Ext as2 H2 as' H' → StR X.K as' H' r.2 → Rp X.K as' H' v r.1 → Q v H') := by
    refine re_then E1 S1 q1 fun k st2 as2 H2 y x2 E2 S2 r2 h2 => ?_
    split at h2
    · rename_i r hr
      exact ⟨as2, st2, k, S2, Rp.ext x2 r1, r2, r, hr, fun as' H' v x s rv => h2 as' H' v (x2.trans x) s rv⟩
    · exact h2.elim
  refine Calls.callWith_builtin rfl (Calls.evalArgs_plain (Calls.spliced_cons (thn (he.run pins s1 σ H1 _ I1 h2) fun iv s2 ⟨y, H2, I2, ry, as2, st2, k, S2, g1, g2, r, gr, q3⟩ => Calls.spliced_nil ?_)))
  obtain ⟨i, kvs, ks, d', rfl, e1, e2, e3, rfl⟩ := popD_inv gr
  cases g1 with
  | cell hc =>
    obtain ⟨c', ec, hR⟩ := S2.get' hc
    rw [e1] at ec
    cases ec
    obtain ⟨hz, ob, hob, hd⟩ := dct_obj I2 hR
    obtain ⟨xs, hD, hE, hl⟩ := dct_H I2 hob hd
    obtain ⟨b, rfl, hb⟩ := keyI_ok g2 e2
    obtain rfl : iv = Value.ref b := ry
    rcases hE.get (k := ks) with ⟨_, n⟩ | ⟨p, d2, v, f1, f2, f3, f4⟩
    · rw [e3] at n; cases n
    · rw [e3] at f2
      cases f2
      refine call_pop_heap (hsz := hl) (.inl rfl) (PySem.F.args_dict_pop_2 _ _) (tupleKind_room_in1 hu) (key_is I2 hb) hz hD f1 fun h' dd hs => ?_
      obtain ⟨o', I', x', S'⟩ := dct_write (t := s2.toks + (tk X).draws ks) I2 S2 hc hR dd hs (hE.drop ks) (Nat.le_trans (List.length_filter_le _ _) hd.1)
      exact ⟨v, _, I', f3, q3 _ _ v x' S' (Rp.ext x' f4)⟩
/-- len of a dict -/
theorem call_len_dct : CallR X (.builtin "len") (RC X.K fun st ds => match ds with
    | [d] => (dctD st d).map fun kvs => .val (.int kvs.length)
    | _ => none) := by
  intro pins s σ H xs us Q I r h
  obtain ⟨as, st, ds, rv, S, rl, e, ok⟩ := h
  simp only at e
  split at e
  · rename_i d
    obtain ⟨kvs, e1, rfl⟩ := Option.map_eq_some_iff.mp e
    match xs, rl, r with
    | [x], .cons r1 .nil, r =>
      obtain ⟨u, rfl, rx⟩ := vals1 r
      obtain ⟨a, rfl, z, ys, hd, he, hl⟩ := dict_now I S r1 e1
      obtain rfl : u = .ref a := rx
      refine call_len_dictH z hd (by rw [sizeLine_eq] at hl; omega) ?_
      rw [he.len]
      exact ⟨.int ((kvs.length : Nat) : Int), H, I.tok _, ⟨_, rfl⟩, ok H _ (.refl _ _) S (.int _)⟩
  · cases e
end
end
end L2.PyD
/-! Dct2: dicts that are walked; the lock; dict comprehensions. -/
namespace L2.PyD
open PySem PySem.Spec PyProof.Rows
noncomputable section

/-! ### the lock -/
section
variable {K : PySem.W.Frag} {as : List Addr} {H : Hp} {d : Addr} {od o : Obj}
theorem unl_at (hd : H d = some (.frz od (DX d o))) {p : Addr} {u w : HO} (e : H p = some u) (n : u ≠ .frz od (DX d o)) : upd H d w p = some u := by
  rw [upd_ne (fun z => by rw [z, hd] at e; exact n (Option.some.inj e).symm)]
  exact e
theorem Rd.unl (hd : H d = some (.frz od (DX d o))) {p : Addr} {u : HO} (h : Rd H p u) (n : u ≠ DX d o) (n' : u ≠ .frz od (DX d o)) : Rd (upd H d (DX d o)) p u := by
  rcases h with h | ⟨o', h⟩
  · exact .inl (unl_at hd h n')
  · exact .inr ⟨o', unl_at hd h fun z => n (HO.frz.inj z).2⟩
theorem SqT.unl (hd : H d = some (.frz od (DX d o))) {p : Addr} {xs : List V} (h : SqT K H p xs) : SqT K (upd H d (DX d o)) p xs := by
  rcases h with h | h
  · exact .inl (Rd.unl hd h (fun z => by unfold DX at z; cases z) (fun z => nomatch z))
  · exact .inr h
theorem FixL.unl (hd : H d = some (.frz od (DX d o))) {p : Addr} {xs : List V} (h : FixL K as H p xs) : FixL K as (upd H d (DX d o)) p xs := by
  rcases h with ⟨o', h⟩ | h | ⟨h, m⟩
  · exact .inl ⟨o', unl_at hd h fun z => by have := (HO.frz.inj z).2; unfold DX at this; cases this⟩
  · exact .inr (.inl h)
  · exact .inr (.inr ⟨unl_at hd h (fun z => nomatch z), m⟩)
mutual
theorem Rp.unl (hd : H d = some (.frz od (DX d o))) : ∀ {v : V} {x : D}, Rp K as H v x → Rp K as (upd H d (DX d o)) v x
  | _, _, .non => .non
  | _, _, .bl b => .bl b
  | _, _, .int i => .int i
  | _, _, .str s => .str s
  | _, _, .ty n => .ty n
  | _, _, .tup h z r => .tup (SqT.unl hd h) z (RpL.unl hd r)
  | _, _, .lst h c z r => .lst (unl_at hd h (fun z => nomatch z)) c z (RpL.unl hd r)
  | _, _, .frl h z r => .frl (FixL.unl hd h) z (RpL.unl hd r)
  | _, _, .cell h => .cell h
theorem RpL.unl (hd : H d = some (.frz od (DX d o))) : ∀ {vs : List V} {xs : List D}, RpL K as H vs xs → RpL K as (upd H d (DX d o)) vs xs
  | _, _, .nil => .nil
  | _, _, .cons h r => .cons (Rp.unl hd h) (RpL.unl hd r)
end
theorem EntR.unl (hd : H d = some (.frz od (DX d o))) : ∀ {xs : List Ent} {kvs : Kvs}, EntR K as H xs kvs → EntR K as (upd H d (DX d o)) xs kvs
  | _, _, .nil => .nil
  | _, _, .cons ⟨h1, h2, v, h3, h4⟩ r => .cons ⟨h1, ⟨SqT.unl hd h2.1, h2.2⟩, v, h3, Rp.unl hd h4⟩ (EntR.unl hd r)
theorem DatR.unl (hd : H d = some (.frz od (DX d o))) {u : Obj} {kvs : Kvs} (h : DatR K as H u kvs) : DatR K as (upd H d (DX d o)) u kvs := by
  obtain ⟨z, hx, es, ep, xs, h1, h2, h3, r⟩ := h
  exact ⟨z, hx, es, ep, xs, h1, h2, h3, r.unl hd⟩
theorem EnvR.unl (hd : H d = some (.frz od (DX d o))) {σ : St} {env : Env} (E : EnvR K as H σ env) : EnvR K as (upd H d (DX d o)) σ env :=
  ⟨E.len, fun i x e => by obtain ⟨v, h1, h2⟩ := E.at_ i x e; exact ⟨v, h1, Rp.unl hd h2⟩⟩
theorem StR.unl {st : Store} {c : Nat} {kvs : Kvs} (hd : H d = some (.frz od (DX d o))) (S : StR K as H st) (hc : as[c]? = some d) (e : st[c]? = some (.dct true kvs)) : StR K as (upd H d (DX d o)) (st.set c (.dct false kvs)) := by
  have me := S.at_ c d _ hc e
  refine ⟨by rw [S.len, List.length_set], S.nd, fun j p cc e1 e2 => ?_, tabs_cell S.tabs _ me⟩
  by_cases hj : c = j
  · subst hj
    rw [hc] at e1
    cases e1
    rw [List.getElem?_set_self (by rw [← S.len]; exact (List.getElem?_eq_some_iff.mp hc).1)] at e2
    cases e2
    obtain ⟨z, o', od', h, r⟩ := me
    rw [hd] at h
    have := (HO.frz.inj (Option.some.inj h)).2
    exact ⟨z, o', by rw [upd_same, this], r.unl hd⟩
  · rw [List.getElem?_set_ne hj] at e2
    have np : p ≠ d := fun z => by
      subst z
      obtain ⟨h1, g1⟩ := List.getElem?_eq_some_iff.mp hc
      obtain ⟨h2, g2⟩ := List.getElem?_eq_some_iff.mp e1
      exact hj ((List.getElem_inj S.nd).mp (g1.trans g2.symm))
    have me2 := S.at_ j p cc e1 e2
    match cc, me2 with
    | .lst ds, ⟨xs, h, z, r⟩ => exact ⟨xs, by rw [upd_ne np]; exact h, z, RpL.unl hd r⟩
    | .dct false _, ⟨z, u, h, r⟩ => exact ⟨z, u, by rw [upd_ne np]; exact h, r.unl hd⟩
    | .dct true _, ⟨z, u, uo, h, r⟩ => exact ⟨z, u, uo, by rw [upd_ne np]; exact h, r.unl hd⟩
end
def unS (c : Nat) (st : Store) : Option Store := match st[c]? with
  | some (.dct true kvs) => some (st.set c (.dct false kvs))
  | _ => none
def unlkF (c : Nat) : Fs → Fs
  | .nx e st => match unS c st with
    | some st' => .nx e st'
    | none => .bad
  | .brk e st => match unS c st with
    | some st' => .brk e st'
    | none => .bad
  | .ct e st => match unS c st with
    | some st' => .ct e st'
    | none => .bad
  | .ret d st => match unS c st with
    | some st' => .ret d st'
    | none => .bad
  | .exc e x fs st => .exc e x fs st
  | .bad => .bad
/-- while the statement runs, the dict that the i-th name names is not written -/
def sLock (i : Nat) (f : DenS) : DenS := fun env st => match env[i]? with
  | some (some (.cell c)) => match st[c]? with
    | some (.dct false kvs) => unlkF c (f env (st.set c (.dct true kvs)))
    | some (.dct true _) => f env st
    | _ => .bad
  | _ => .bad
theorem unS_inv {c : Nat} {st st' : Store} (e : unS c st = some st') : ∃ kvs, st[c]? = some (.dct true kvs) ∧ st' = st.set c (.dct false kvs) := by
  unfold unS at e
  split at e
  · rename_i kvs h
    cases e
    exact ⟨kvs, h, rfl⟩
  · cases e
theorem ps_lock' {X : Cx} {W : WX} {st : Stmt} {i : Nat} {f : DenS} (h : PS X st (RS X.K X.mg W f)) : PS X st (RS X.K X.mg W (sLock i f)) := by
  refine ⟨fun pins s σ H Z I hw => ?_⟩
  obtain ⟨as, env, sto, E, S, q⟩ := hw
  unfold sLock at q
  split at q
  · rename_i c ec
    split at q
    · rename_i kvs es
      obtain ⟨v, hv, rv⟩ := E.at_ _ _ ec
      cases rv with
      | cell hc =>
        rename_i p
        have me := S.at_ c p _ hc es
        obtain ⟨hsm, o, ho, hD⟩ := id me
        refine (ps_lock h).run pins s σ H Z I ⟨p, DX p o, ho, True.intro, fun od => ?_⟩
        obtain ⟨x1, S1⟩ := S.write (o := .frz od (DX p o)) (c := .dct true kvs) hc (CellR.mut rfl me) fun x => ⟨hsm, o, od, upd_same, hD.ext x⟩
        have at1 : upd H p (.frz od (DX p o)) p = some (.frz od (DX p o)) := upd_same
        refine ⟨as, env, _, E.ext x1, S1, ?_⟩
        have back : ∀ {as' : List Addr} {H' : Hp} {st' st'' : Store}, Ext as (upd H p (.frz od (DX p o))) as' H' → StR X.K as' H' st' → unS c st' = some st'' → H' p = some (.frz od (DX p o)) ∧ Ext as H as' (upd H' p (DX p o)) ∧ StR X.K as' (upd H' p (DX p o)) st'' := by
          intro as' H' st' st'' x S' e
          obtain ⟨kvs', e1, rfl⟩ := unS_inv e
          have hp : H' p = some (.frz od (DX p o)) := x.keep p _ at1 (.inr trivial) (fun _ z => nomatch z)
          refine ⟨hp, ⟨x.pre, fun q u eq k n => ?_, fun q u eq n k => ?_⟩, S'.unl hp (x.get hc) e1⟩
          · have nq : q ≠ p := fun z => by
              subst z
              rcases k with k | k
              · exact k (List.mem_of_getElem? hc)
              · exact CellR.mut rfl me u eq k
            rw [upd_ne nq]
            exact x.keep q u (by rw [upd_ne nq]; exact eq) k n
          · have nq : q ≠ p := fun z => k (by rw [z]; exact List.mem_of_getElem? hc)
            exact x.new q u (by rw [upd_ne nq]; exact eq) n k
        generalize f env (sto.set c (.dct true kvs)) = r at q ⊢
        cases r with
        | nx e st' =>
          simp only [unlkF] at q
          cases eu : unS c st' with
          | none => rw [eu] at q; exact q.elim
          | some st'' =>
            rw [eu] at q
            intro as' H' σ' x S' E'
            obtain ⟨hp, x', S2⟩ := back x S' eu
            exact ⟨hp, q as' _ σ' x' S2 (E'.unl hp)⟩
        | brk e st' =>
          simp only [unlkF] at q
          cases eu : unS c st' with
          | none => rw [eu] at q; exact q.elim
          | some st'' =>
            rw [eu] at q
            intro as' H' σ' x S' E'
            obtain ⟨hp, x', S2⟩ := back x S' eu
            exact ⟨hp, q as' _ σ' x' S2 (E'.unl hp)⟩
        | ct e st' =>
          simp only [unlkF] at q
          cases eu : unS c st' with
          | none => rw [eu] at q; exact q.elim
          | some st'' =>
            rw [eu] at q
            intro as' H' σ' x S' E'
            obtain ⟨hp, x', S2⟩ := back x S' eu
            exact ⟨hp, q as' _ σ' x' S2 (E'.unl hp)⟩
        | ret dd st' =>
          simp only [unlkF] at q
          cases eu : unS c st' with
          | none => rw [eu] at q; exact q.elim
          | some st'' =>
            rw [eu] at q
            intro as' H' w x S' rw'
            obtain ⟨hp, x', S2⟩ := back x S' eu
            exact ⟨hp, q as' _ w x' S2 (Rp.unl hp rw')⟩
        | exc e y fs st' => exact WX'.ext x1 q
        | bad => exact q.elim
    · exact h.run pins s σ H Z I ⟨as, env, sto, E, S, q⟩
    · exact q.elim
  · exact q.elim

/-! ### walks -/
/-- the entries, with their values -/
abbrev EntV := Ent × V
def EvR (K : PySem.W.Frag) (as : List Addr) (H : Hp) : List EntV → Kvs → Prop := Paired fun x kv => x.1.1 = kv.1 ∧ KeyR K H x.1.2.1 x.1.1 ∧ RelV x.2 x.1.2.2 ∧ Rp K as H x.2 kv.2
section
variable {K : PySem.W.Frag} {as : List Addr} {H : Hp}
theorem EntR.vals : ∀ {xs : List Ent} {kvs : Kvs}, EntR K as H xs kvs → ∃ ws : List EntV, ws.map (·.1) = xs ∧ EvR K as H ws kvs
  | _, _, .nil => ⟨[], rfl, .nil⟩
  | x :: _, _, .cons ⟨h1, h2, v, h3, h4⟩ r => by
    obtain ⟨ws, e, q⟩ := EntR.vals r
    exact ⟨(x, v) :: ws, by rw [List.map_cons, e], .cons ⟨h1, h2, h3, h4⟩ q⟩
theorem EvR.len : ∀ {xs : List EntV} {kvs : Kvs}, EvR K as H xs kvs → xs.length = kvs.length
  | _, _, .nil => rfl
  | _, _, .cons _ r => congrArg (· + 1) (EvR.len r)
theorem EvR.ext {as' : List Addr} {H' : Hp} (x : Ext as H as' H') : ∀ {xs : List EntV} {kvs : Kvs}, EvR K as H xs kvs → EvR K as' H' xs kvs
  | _, _, .nil => .nil
  | _, _, .cons ⟨h1, h2, h3, h4⟩ r => .cons ⟨h1, ⟨SqT.ext x h2.1, h2.2⟩, h3, Rp.ext x h4⟩ (EvR.ext x r)
theorem EvR.get : ∀ {xs : List EntV} {kvs : Kvs} {i : Nat} {kv : List Int × D}, EvR K as H xs kvs → kvs[i]? = some kv → ∃ x, xs[i]? = some x ∧ x.1.1 = kv.1 ∧ KeyR K H x.1.2.1 x.1.1 ∧ RelV x.2 x.1.2.2 ∧ Rp K as H x.2 kv.2
  | _, _, _, _, .nil, e => by simp at e
  | _, _, 0, _, .cons h _, e => by simp at e; subst e; exact ⟨_, rfl, h⟩
  | _, _, i + 1, _, .cons _ r, e => by
    obtain ⟨x, h1, h2⟩ := EvR.get (i := i) r (by simpa using e)
    exact ⟨x, by simpa using h1, h2⟩
theorem KeyR.rp {b : Addr} {ks : List Int} (h : KeyR K H b ks) : Rp K as H (.ref b) (.tup (ks.map D.int)) := .tup h.1 (by rw [List.length_map]; exact h.2) (RpL.ints ks)
end
/-- the object is that of the entries xs -/
def ObX (od : Obj) (xs : List EntV) : Prop := od.ExactDict ∧ ∃ (es : Array DictEntry) (ep : Nat), od.data = .dict es ep ∧ es.toList = (xs.map (·.1)).map entT
theorem obX_at {od : Obj} {xs : List EntV} {es : Array DictEntry} (he : es.toList = (xs.map (·.1)).map entT) (i : Nat) : es[i]? = (xs[i]?).map fun x => entT x.1 := by
  rw [← Array.getElem?_toList, he, List.getElem?_map, List.getElem?_map, Option.map_map]
  rfl
theorem obX_len {xs : List EntV} {es : Array DictEntry} (he : es.toList = (xs.map (·.1)).map entT) : es.size = xs.length := by
  rw [← Array.length_toList, he, List.length_map, List.length_map]
def Locked (d : Addr) (od : Obj) (H : Hp) : Prop := H d = some (.frz od (DX d od))
/-- the keys of the locked dict; its pairs, each a new tuple -/
def ItxK (d : Addr) (od : Obj) (xs : List EntV) : It :=
  ⟨fun i H => Locked d od H ∧ i < xs.length, fun i H x H' => H' = H ∧ ∃ e, xs[i]? = some e ∧ x = .ref e.1.2.1, fun i H => Locked d od H ∧ xs.length ≤ i⟩
def ItxI (d : Addr) (od : Obj) (xs : List EntV) : It :=
  ⟨fun i H => Locked d od H ∧ i < xs.length, fun i H x H' => ∃ T e, xs[i]? = some e ∧ x = .ref T ∧ H T = none ∧ H' = upd H T (.tup [.ref e.1.2.1, e.2]), fun i H => Locked d od H ∧ xs.length ≤ i⟩
section
variable {P : Program} {w : World} {K : PySem.W.Frag} {tg : Expr} {d : Addr} {od : Obj} {es : Array DictEntry} {ep : Nat} {xs : List EntV}
theorem locked_get {X : Cx} {pins : List (Addr × Obj)} {σ : St} {H : Hp} {s : Shared} (I : Inv X pins σ H s) (h : Locked d od H) : s.heap.get? d = some od := (I.hok d _ h).1
theorem turn_xk (it : Addr) (hx : od.data = .dict es ep) (he : es.toList = (xs.map (·.1)).map entT) : Turn P w K tg (ItxK d od xs) [it] it (fun i h => h.IsKeyIter it d i xs.length ep) where
  mem := List.mem_singleton.mpr rfl
  obj := fun i h st b hb => by
    cases List.mem_singleton.mp hb
    obtain ⟨oi, e, c, dd⟩ := st
    exact ⟨oi, e, fun v z => by rw [dd] at z; cases z⟩
  keep := fun i h h' st k => st.at fun oi e => k it (List.mem_singleton.mpr rfl) oi e
  item := by
    intro X hP hw hK hc i pins s σ H E I hf st hg
    subst hP hw hK
    obtain ⟨hd, hi⟩ := hg
    obtain ⟨f0, f1, f2, f3, f4, f5⟩ := hf it (List.mem_singleton.mpr rfl)
    have en : es[i]? = some (entT xs[i].1) := by rw [obX_at (od := od) he i, List.getElem?_eq_getElem hi]; rfl
    refine next_key_item st (locked_get I hd) hx (obX_len he) en fun h' st' sb => ?_
    have I1 : Inv X pins σ H { s with heap := h' } := I.turned (t' := s.toks) (fun b ob hb e => (sb.2 b hb).trans e) f0 f1 f3 f4 f5
    obtain ⟨oi, e, c, dd⟩ := id st'
    exact ⟨_, rfl, go_of (s := { s with heap := h' }) e c dd (by decide) ⟨.ref xs[i].1.2.1, H, I1, rfl, ⟨rfl, xs[i], List.getElem?_eq_getElem hi, rfl⟩, st', fun b hb => (hf b hb).1⟩⟩
  done := by
    intro X hP hw hK hc i pins s σ H E I hf st hg
    subst hP hw hK
    obtain ⟨hd, hi⟩ := hg
    obtain ⟨f0, f1, f2, f3, f4, f5⟩ := hf it (List.mem_singleton.mpr rfl)
    exact next_key_end (I.ok.hd hc) st (locked_get I hd) hx (obX_len he) hi fun h' eb => ⟨rfl, I.turned (t' := s.toks) (fun b ob hb e => eb b ob hb e) f0 f1 f3 f4 f5⟩
  self := fun A i s Q E st h => by
    refine wpAny_pyIter_slot st.typeIs F.slot_dict_keyiterator_iter (wpAny_call_entry F.slot_dict_keyiterator_iter st.typeIs F.entry_dict_keyiterator_iter ?_ (F.args_dict_keyiterator_iter_1 _))
    exact wpAny_pure ⟨_, rfl, "dict_keyiterator", _, st.typeIs, F.slot_dict_keyiterator_next.lookup, h⟩
theorem turn_xi {elts : List Expr} {kk : Nat} {tpos : Pos} (it : Addr) (hx : od.data = .dict es ep) (hex : od.ExactDict) (he : es.toList = (xs.map (·.1)).map entT) (hr : ∀ x ∈ xs, RelV x.2 x.1.2.2) :
    Turn P w K (.Tuple elts kk tpos) (ItxI d od xs) [it] it (fun i h => ∃ a b, IsItemIter h it d i es.size ep a b) where
  mem := List.mem_singleton.mpr rfl
  obj := fun i h st b hb => by
    cases List.mem_singleton.mp hb
    obtain ⟨_, _, e⟩ := st
    exact ⟨_, e, fun v z => nomatch z⟩
  keep := fun i h h' st k => let ⟨a, b, e⟩ := st; ⟨a, b, k it (List.mem_singleton.mpr rfl) _ e⟩
  item := by
    intro X hP hw hK hc i pins s σ H E I hf st hg
    subst hP hw hK
    obtain ⟨hd, hi⟩ := hg
    obtain ⟨a, b, st⟩ := st
    have hz : i < es.size := by rw [obX_len he]; exact hi
    have en : es[i] = entT xs[i].1 := by
      have h1 := obX_at (od := od) he i
      rw [Array.getElem?_eq_getElem hz, List.getElem?_eq_getElem hi] at h1
      exact Option.some.inj h1
    have hlt : it < s.heap.objs.size := Heap.lt_size st
    refine DT.nextI st ⟨od, locked_get I hd, hex, hx⟩ hz fun h' ho hT hs hk => ?_
    rw [en] at ho hT
    refine ⟨_, rfl, wpAny_letOwnedTupleGo_items (s := { s with heap := h' }) ho fun h2 he2 sb => ?_⟩
    have hT2 := (sb.2 _ (Nat.ne_of_gt hlt)).trans hT
    have new : ObjOk X.prog X.w (upd H s.heap.objs.size (.tup [.ref xs[i].1.2.1, xs[i].2])) h2 s.heap.objs.size (.tup [.ref xs[i].1.2.1, xs[i].2]) :=
      ⟨by show 2 ≤ sizeLine; decide, [.ref xs[i].1.2.1, xs[i].1.2.2], .cons rfl (.cons (hr _ (List.getElem_mem hi)) .nil), ⟨_, hT2, rfl, _, rfl⟩⟩
    have I1 : Inv X pins σ (upd H s.heap.objs.size (.tup [.ref xs[i].1.2.1, xs[i].2])) { s with heap := h2 } :=
      I.turnedNew (t' := s.toks) (ch := [it]) (fun c ob hb e => (sb.2 c (fun z => hb (List.mem_singleton.mpr z))).trans (hk c ob (fun z => hb (List.mem_singleton.mpr z)) e)) hf (Nat.le_refl _) new
    refine ⟨.ref s.heap.objs.size, _, I1, rfl, ⟨_, xs[i], List.getElem?_eq_getElem hi, rfl, I.hok.fresh (Nat.le_refl _), rfl⟩, ⟨_, _, he2⟩, fun c hcm => ?_⟩
    cases List.mem_singleton.mp hcm
    rw [upd_ne (Nat.ne_of_lt hlt)]
    exact (hf it (List.mem_singleton.mpr rfl)).1
  done := by
    intro X hP hw hK hc i pins s σ H E I hf st hg
    subst hP hw hK
    obtain ⟨hd, hi⟩ := hg
    obtain ⟨f0, f1, f2, f3, f4, f5⟩ := hf it (List.mem_singleton.mpr rfl)
    obtain ⟨a, b, st⟩ := st
    exact DT.endI (I.ok.hd hc) st ⟨od, locked_get I hd, hex, hx⟩ (by rw [obX_len he]; exact hi) fun h' eb => ⟨rfl, I.turned (t' := s.toks) (fun c ob hb e => eb c ob hb e) f0 f1 f3 f4 f5⟩
  self := fun A i s Q E st h => let ⟨_, _, e⟩ := st; PySem.W.kcp_self e h
end
section
variable {K : PySem.W.Frag} {as : List Addr} {H : Hp} {d : Addr} {od : Obj} {xs : List EntV} {kvs : Kvs}
theorem ItOk.xk (hl : Locked d od H) (z : kvs.length ≤ sizeLine) (r : EvR K as H xs kvs) : ItOk K (ItxK d od xs) as H (kvs.map fun kv => .tup (kv.1.map D.int), none) := by
  intro as2 H2 st2 x2 S2 g
  have hl2 : Locked d od H2 := x2.keep _ _ hl (.inr trivial) (fun _ z => nomatch z)
  have r := r.ext x2
  refine ⟨by show (kvs.map _).length ≤ sizeLine; rw [List.length_map]; exact z, fun i => ⟨fun x e => ?_, fun hi => ⟨hl2, by rw [r.len]; simpa using hi⟩⟩⟩
  rw [List.getElem?_map] at e
  obtain ⟨kv, e1, rfl⟩ := Option.map_eq_some_iff.mp e
  obtain ⟨en, h1, h2, h3, h4, h5⟩ := r.get e1
  refine ⟨⟨hl2, (List.getElem?_eq_some_iff.mp h1).1⟩, fun y H3 q => ?_⟩
  obtain ⟨e3, en', h1', e4⟩ := q
  subst e3 e4
  rw [h1] at h1'
  cases h1'
  exact ⟨.refl _ _, S2, by rw [← h2]; exact h3.rp⟩
theorem ItOk.xi (hl : Locked d od H) (z : kvs.length ≤ sizeLine) (r : EvR K as H xs kvs) : ItOk K (ItxI d od xs) as H (kvs.map fun kv => .tup [.tup (kv.1.map D.int), kv.2], none) := by
  intro as2 H2 st2 x2 S2 g
  have hl2 : Locked d od H2 := x2.keep _ _ hl (.inr trivial) (fun _ z => nomatch z)
  have r := r.ext x2
  refine ⟨by show (kvs.map _).length ≤ sizeLine; rw [List.length_map]; exact z, fun i => ⟨fun x e => ?_, fun hi => ⟨hl2, by rw [r.len]; simpa using hi⟩⟩⟩
  rw [List.getElem?_map] at e
  obtain ⟨kv, e1, rfl⟩ := Option.map_eq_some_iff.mp e
  obtain ⟨en, h1, h2, h3, h4, h5⟩ := r.get e1
  refine ⟨⟨hl2, (List.getElem?_eq_some_iff.mp h1).1⟩, fun y H3 q => ?_⟩
  obtain ⟨T, en', h1', e4, hn, e3⟩ := q
  subst e3 e4
  rw [h1] at h1'
  cases h1'
  obtain ⟨xx, SS⟩ := S2.alloc (.tup [.ref en.1.2.1, en.2]) hn
  refine ⟨xx, SS, .tup (.inl (.inl upd_same)) (by show 2 ≤ sizeLine; decide) (.cons ?_ (.cons (Rp.ext xx h5) .nil))⟩
  rw [← h2]
  exact Rp.ext xx h3.rp
end
/-- what a locked dict holds -/
def lockD (st : Store) : D → Option Kvs
  | .cell i => match st[i]? with
    | some (.dct true kvs) => some kvs
    | _ => none
  | _ => none
theorem lockD_inv {st : Store} {dx : D} {kvs : Kvs} (e : lockD st dx = some kvs) : ∃ i, dx = .cell i ∧ st[i]? = some (.dct true kvs) := by
  cases dx with
  | cell j =>
    cases h : st[j]? with
    | none => unfold lockD at e; simp only [h] at e; cases e
    | some c =>
      unfold lockD at e
      simp only [h] at e
      cases c with
      | lst ds => cases e
      | dct lk kvs' =>
        cases lk with
        | false => cases e
        | true => cases e; exact ⟨j, rfl, h⟩
  | _ => cases e
def iKy (f : Den) : DenI := fun env st => (f env st).bind fun d st1 => match lockD st1 d with
  | some kvs => .ok (kvs.map fun kv => .tup (kv.1.map D.int), none) st1
  | none => .bad
def iIt (f : Den) : DenI := fun env st => (f env st).bind fun d st1 => match lockD st1 d with
  | some kvs => .ok (kvs.map fun kv => .tup [.tup (kv.1.map D.int), kv.2], none) st1
  | none => .bad
section
variable {X : Cx} {W : WX} {pos : Pos} {tg : Expr}
/-- the dict that an expression names, for a walk -/
theorem locked_at {pins : List (Addr × Obj)} {σ : St} {H : Hp} {s : Shared} {as : List Addr} {st : Store} {v : V} {dx : D} {kvs : Kvs} (I : Inv X pins σ H s) (S : StR X.K as H st) (r : Rp X.K as H v dx) (e : lockD st dx = some kvs) :
    ∃ d od es ep xs, v = .ref d ∧ (d == sysModules) = false ∧ Locked d od H ∧ od.ExactDict ∧ od.data = .dict es ep ∧ es.toList = (xs.map (·.1)).map entT ∧ EvR X.K as H xs kvs ∧ kvs.length ≤ sizeLine := by
  obtain ⟨i, rfl, h⟩ := lockD_inv e
  cases r with
  | cell hc =>
    rename_i p
    obtain ⟨c, e1, hR⟩ := S.get' hc
    rw [h] at e1
    cases e1
    obtain ⟨z, o, od, ho, hz, hx, es, ep, xs, h1, h2, h3, r⟩ := hR
    obtain ⟨g1, g2, _⟩ := I.hok p _ ho
    have g2 : s.heap.get? p = some o := g2
    rw [g1] at g2
    cases g2
    obtain ⟨ws, e2, q⟩ := r.vals
    exact ⟨p, o, es, ep, ws, rfl, z, ho, hx, h1, by rw [e2]; exact h2, q, hz⟩
theorem pi_keys' {e : Expr} {f : Den} (he : PE X e (RE X.K X.mg W f)) : PI X tg e (RI X.K X.mg W (iKy f)) := by
  refine ⟨fun pins s σ H R I h => ?_⟩
  obtain ⟨as, env, st, E, S, h⟩ := h
  have h1 : RE X.K X.mg W f σ H (fun v H1 => ∃ as1 st1 dx kvs, StR X.K as1 H1 st1 ∧ Rp X.K as1 H1 v dx ∧ lockD st1 dx = some kvs ∧ ∀ J, ItOk X.K J as1 H1 (kvs.map fun kv => .tup (kv.1.map D.int), none) → R J H1) := by
    refine re_then E S h fun r st1 as1 H1 v x1 E1 S1 r1 h1 => ?_
    split at h1
    · rename_i kvs ek
      exact ⟨as1, st1, r, kvs, S1, r1, ek, fun J ok => h1 as1 H1 J x1 S1 trivial ok⟩
    · exact h1.elim
  refine thn (he.run pins s σ H _ I h1) fun u s1 ⟨x, H1, I1, rx, as1, st1, dx, kvs, S1, r1, ek, q⟩ => ?_
  obtain ⟨d, od, es, ep, xs, rfl, z, hl, hx, hd, hes, ev, hz⟩ := locked_at I1 S1 r1 ek
  obtain rfl : u = Value.ref d := rx
  refine iter_keys z (locked_get I1 hl) hx hd (pi_one (tk := s1.toks) I1 _ (turn_xk _ hd hes) ⟨_, Heap.get?_push_size _ rfl, rfl, ?_⟩ (q _ (ItOk.xk hl hz ev)))
  rw [obX_len hes]
  rfl
theorem EvR.rel {K : PySem.W.Frag} {as : List Addr} {H : Hp} : ∀ {xs : List EntV} {kvs : Kvs}, EvR K as H xs kvs → ∀ x ∈ xs, RelV x.2 x.1.2.2
  | _, _, .nil => fun _ h => by simp at h
  | _, _, .cons h r => fun x m => by
    rcases List.mem_cons.mp m with e | e
    · subst e; exact h.2.2.1
    · exact EvR.rel r x e
theorem pi_items' {e : Expr} {f : Den} {apos cpos tpos : Pos} {elts : List Expr} {kk : Nat} (he : PE X e (RE X.K X.mg W f)) (hb : attributeBase e "items" X.env (eval e X.env) = eval e X.env) (hline : (apos.endLine == cpos.line) = true) :
    PI X (.Tuple elts kk tpos) (.Call (.Attribute e "items" apos) [] [] cpos) (RI X.K X.mg W (iIt f)) := by
  refine ⟨fun pins s σ H R I h => ?_⟩
  obtain ⟨as, env, st, E, S, h⟩ := h
  have h1 : RE X.K X.mg W f σ H (fun v H1 => ∃ as1 st1 dx kvs, StR X.K as1 H1 st1 ∧ Rp X.K as1 H1 v dx ∧ lockD st1 dx = some kvs ∧ ∀ J, ItOk X.K J as1 H1 (kvs.map fun kv => .tup [.tup (kv.1.map D.int), kv.2], none) → R J H1) := by
    refine re_then E S h fun r st1 as1 H1 v x1 E1 S1 r1 h1 => ?_
    split at h1
    · rename_i kvs ek
      exact ⟨as1, st1, r, kvs, S1, r1, ek, fun J ok => h1 as1 H1 J x1 S1 trivial ok⟩
    · exact h1.elim
  refine wpAny_Call_method (T := "dict") (id := "dict.items") hb rfl hline F.plainAttrs_dict F.slot_dict_items F.type_dict_items (thn (he.run pins s σ H _ I h1) fun u s1 ⟨x, H1, I1, rx, as1, st1, dx, kvs, S1, r1, ek, q⟩ => ?_)
  obtain ⟨d, od, es, ep, xs, rfl, z, hl, hx, hd, hes, ev, hz⟩ := locked_at I1 S1 r1 ek
  obtain rfl : u = Value.ref d := rx
  have hod := locked_get I1 hl
  refine ⟨⟨od, hod, hx.1⟩, fun b q' => by cases q'; exact ⟨od, hod, hx.2.1⟩, ?_⟩
  refine Calls.callWith_builtin rfl (PySem.evalArgs_none ?_)
  refine DT.callItems (es := es) (ep := ep) z ⟨od, hod, hx, hd⟩ ?_
  have I2 : Inv X pins σ H1 { s1 with heap := s1.heap.push { cls := .type "dict_items", data := .fields #[.ref d] } } := I1.kept (t' := s1.toks) fun b ob q => Heap.get?_push_of_some _ q
  refine DT.iterI (d := d) (es := es) (ep := ep) ⟨_, Heap.get?_push_size _ rfl, rfl, rfl⟩ (DT.Raw.push ⟨od, hod, hx, hd⟩ _) ?_
  exact pi_one (tk := s1.toks) I2 _ (turn_xi _ hd hx hes ev.rel) ⟨.none, .none, Heap.get?_push_size _ rfl⟩ (q _ (ItOk.xi hl hz ev))
end

/-! ### dict comprehensions -/
/-- what a store of a pair asks, and gives -/
def SOk (K : PySem.W.Frag) (D : Addr) (y z : V) (H : Hp) (N : Hp → Prop) : Prop := ∃ as st dx dy dz st', StR K as H st ∧ Rp K as H (.ref D) dx ∧ Rp K as H y dy ∧ Rp K as H z dz ∧ putD st dx dy dz = some st' ∧ ∀ as' H', Ext as H as' H' → StR K as' H' st' → N H'
def tDx (K : PySem.W.Frag) (wi : TI) (g : TG) (tt : TT) (tk tv : TE) (vs : List Nat) : TE := fun σ H Q => wi σ H fun J H1 => ∀ D, H1 D = none → (D == sysModules) = false → ∃ W : Nat → Nat → Hp → Prop, (∃ m, W 0 m (upd H1 D (DX D emptyO))) ∧ ∀ i m H, W i m H →
  (J.stop i H ∧ Q (.ref D) H) ∨ (J.go i H ∧ ∃ N : Hp → Prop, (∀ H', N H' → ∃ m', m' < m ∧ W (i + 1) m' H') ∧ ∀ x H', J.yld i H x H' → g x (wipe σ vs) H' fun σ2 H2 => wipe σ2 vs = wipe σ vs ∧ tt σ2 H2 fun b H3 =>
    if b = true then tk σ2 H3 fun y H4 => tv σ2 H4 fun z H5 => SOk K D y z H5 N else N H3)
section
variable {X : Cx}
theorem dx_core {pins : List (Addr × Obj)} {s : Shared} {σ : St} {H : Hp} {Q : VK} {use : Option (Value → Sem Unit)} {Qf : Value → Shared → Prop} {kx vx tg iter : Expr} {ifs : List Expr} {scope : Scope} {own : List (Str × Nat)} {pos pos' : Pos} {wi : TI} {g : TG} {tt : TT} {fk fv : TE} (hu : X.A.units + 1 < cLine) (hc : X.calm = true) (hN : X.N.Nodup) (I : Inv X pins σ H s) (hi : PI X tg iter wi) (ok : BlkOk X.N X.env.scope scope own)
    (hg : ∀ (s : Shared) (H : Hp) (C : Addr) (cl : List (Str × Addr)) (fp : List Addr), PG (X.blk s H scope (compEnvC scope cl C X.env) fp) tg g)
    (ht : ∀ (s : Shared) (H : Hp) (C : Addr) (cl : List (Str × Addr)) (fp : List Addr), PTs (X.blk s H scope (compEnvC scope cl C X.env) fp) ifs tt)
    (hk : ∀ (s : Shared) (H : Hp) (C : Addr) (cl : List (Str × Addr)) (fp : List Addr), PE (X.blk s H scope (compEnvC scope cl C X.env) fp) kx fk)
    (hv : ∀ (s : Shared) (H : Hp) (C : Addr) (cl : List (Str × Addr)) (fp : List Addr), PE (X.blk s H scope (compEnvC scope cl C X.env) fp) vx fv)
    (hs : ∀ x, foldedSetIterable iter X.env x = pure x) (h : tDx X.K wi g tt fk fv (own.map (·.2)) σ H Q)
    (last : ∀ D C s' m H', Inv X pins σ H' s' → Q (.ref D) H' → s'.heap.Ns C m → FpOk X pins H' C → compPost (model X.prog X.w) X.A X.xe use Qf (.ref D) C (.ok .next) s') :
    wpAny (model X.prog X.w) X.A (comprehension (.DictComp kx vx [⟨tg, iter, ifs, 0⟩] scope pos) scope X.env pos' newDict false (eval iter X.env) use) Qf X.xe s := by
  have frees : ∀ y ∈ scope.names, y.2 = .free → ∃ c, X.env.cells.lookup y.1 = some c := fun y hy e => by
    rcases ok.free y hy e with k | k <;> first | exact I.ok.has _ (.inl k) | exact I.ok.has _ (.inr k)
  refine wpAny_comprehension_free rfl hs (closure_ok frees) ok.kind (fun y hy e => by rw [ok.uniq y hy, e]) (thn (hi.run pins s σ H _ I h) fun xv sa hx => thn hx fun itv sb hb => ?_)
  obtain ⟨it, fp, tn, J, Hb, e, Ib, T, stb, fb, q⟩ := hb
  subst e
  refine wpAny_newObj_type (newEnv_comp ?_)
  generalize hD : sb.heap.objs.size = D
  obtain ⟨W, ⟨m0, w0⟩, turn⟩ := q D (Ib.hok.fresh (Nat.le_of_eq hD)) (by rw [← hD]; exact beq_eq_false_iff_ne.mpr (Ne.symm (Nat.ne_of_lt Ib.big)))
  generalize hsc : ({ sb with heap := sb.heap.push { cls := .type "dict", data := .dict #[] } } : Shared) = sc
  have hgo : (sb.heap.push emptyO).get? D = some emptyO := by rw [← hD]; exact Heap.get?_push_size _ rfl
  have Ic : Inv X pins σ (upd Hb D (DX D emptyO)) sc := by
    rw [← hsc]
    exact Ib.laid (t' := sb.toks) (fun _ _ q => Heap.get?_push_of_some emptyO q) (Nat.le_of_eq hD) (dx_ok hgo)
  have hh : sc.heap = sb.heap.push { cls := .type "dict", data := .dict #[] } := by rw [← hsc]
  have low : ∀ b ∈ fp, b < sb.heap.objs.size := fun b hb => let ⟨o, e, _⟩ := T.obj _ _ stb b hb; Heap.lt_size e
  have fc : ∀ b ∈ fp, FpOk X pins (upd Hb D (DX D emptyO)) b ∧ b < sc.heap.objs.size := fun b hb => by
    refine ⟨⟨?_, (fb b hb).2⟩, by rw [hh, Heap.size_push]; exact Nat.lt_succ_of_lt (low b hb)⟩
    rw [upd_ne (by rw [← hD]; exact Nat.ne_of_lt (low b hb))]
    exact (fb b hb).1
  have stc : tn 0 sc.heap := T.keep _ _ _ stb fun b _ o e => by rw [hh]; exact Heap.get?_push_of_some _ e
  have Id := block_start Ic ok hN fc
  generalize hH : upd Hb D (DX D emptyO) = Hc at Ic Id w0 fc
  generalize hcl : cellsFrom (sc.heap.objs.size + 1) scope.names (cloFrom X.env.cells scope.names []) = cl at Id ⊢
  have pg := hg sc Hc sc.heap.objs.size cl fp
  have pt := ht sc Hc sc.heap.objs.size cl fp
  have pk := hk sc Hc sc.heap.objs.size cl fp
  have pv := hv sc Hc sc.heap.objs.size cl fp
  show codeAny _ _ (.compStart (.DictComp kx vx [⟨tg, iter, ifs, 0⟩] scope pos) 0 (.ref it) (.ref D) (compEnvC scope cl sc.heap.objs.size X.env)) (compPost (model X.prog X.w) X.A X.xe use Qf (.ref D) sc.heap.objs.size) { sc with heap := pushCells (sc.heap.push { cls := .type "dict", data := .dict #[] }) scope.names }
  have none0 : ∀ b ∈ fp, Hc b = none := fun b hb => (fc b hb).1.1
  generalize hce : compEnvC scope cl sc.heap.objs.size X.env = ce at Id pg pt pk pv ⊢
  have cL : ce.locals = sc.heap.objs.size := by subst hce; rfl
  generalize hsd : ({ sc with heap := pushCells (sc.heap.push { cls := .type "dict", data := .dict #[] }) scope.names } : Shared) = sd at Id ⊢
  have std : tn 0 sd.heap := T.keep _ _ _ stc fun b _ o e => by rw [← hsd]; exact pushCells_keeps _ _ _ _ (Heap.get?_push_of_some _ e)
  have stat : ∀ {σ' : St} {H' : Hp} {s' : Shared}, Inv (X.blk sc Hc scope ce fp) [] σ' H' s' → (∀ b ∈ fp, H' b = none) → ∀ b ∈ fp, FpOk (X.blk sc Hc scope ce fp) [] H' b := fun {σ' H' s'} J' hn b hb =>
    ⟨hn b hb, (J'.ok.exf b hb).1, J'.ok.exfs b hb, .inl hb, fun x c e => (J'.ok.exf b hb).2 x c e, fun p hp => absurd (show p ∈ ([] : List (Addr × Obj)) ++ [] from hp) (by simp)⟩
  have loop : codeAny (model X.prog X.w) X.A (.compLoop (.DictComp kx vx [⟨tg, iter, ifs, 0⟩] scope pos) 0 (.ref it) (.ref D) ce) (compPost (model X.prog X.w) X.A X.xe use Qf (.ref D) sc.heap.objs.size) sd := by
    refine compLoop_anyD (fun n s' => ∃ i H', Inv (X.blk sc Hc scope ce fp) [] (wipe σ (own.map (·.2))) H' s' ∧ tn i s'.heap ∧ (∀ b ∈ fp, H' b = none) ∧ W i n H') ?_ m0 ⟨0, Hc, Id, std, none0, w0⟩
    rintro n se ⟨i, He, Ie, ste, ne, we⟩
    rcases turn i n He we with ⟨stop, fin⟩ | ⟨go, N, hNx, step⟩
    · have td := T.done (X.blk sc Hc scope ce fp) rfl rfl rfl hc i [] se _ He (fun _ _ => False) Ie (stat Ie ne) ste stop
      refine thnF td fun r sf ⟨hr, If⟩ => ?_
      subst hr
      have Ig : Inv X pins σ He sf := Ic.call' (ch := fp) If.os If.base If.hok If.bare fun b hb => ⟨(fc b hb).1.2.2.2.1, (fc b hb).1.2.1, (fc b hb).1.2.2.2.2.1, (fc b hb).1.2.2.2.2.2⟩
      have nC : He sc.heap.objs.size = none := by
        have z : He ce.locals = none := If.free
        rwa [cL] at z
      obtain ⟨m, hn, _⟩ := If.loc
      have hn : sf.heap.Ns ce.locals m := hn
      rw [cL] at hn
      exact last D sc.heap.objs.size sf m He Ig fin hn (Ic.fpOk (Nat.le_refl _) nC)
    · have ti := T.item (X.blk sc Hc scope ce fp) rfl rfl rfl hc i [] se _ He (fun _ _ => False) Ie (stat Ie ne) ste go
      refine thnF ti fun r sf ⟨u, hr, hf⟩ => ?_
      subst hr
      refine thnF hf fun _ sg ⟨x, Hg, Ig, rg, yg, stg, ng⟩ => ?_
      have Ip := Ig.pinned (stat Ig ng) (T.obj _ _ stg)
      refine thnF (pg.run _ sg _ Hg x u _ Ip rg (step x Hg yg)) fun _ sh ⟨σh, Hh, Ih, wh, qh⟩ => ?_
      refine thnF (pt.run _ sh σh Hh _ Ih qh) fun b si ⟨Hi, Ii, qi⟩ => ?_
      have back : ∀ {s' : Shared} {H' : Hp}, Inv (X.blk sc Hc scope ce fp) ([] ++ pinsAt fp sg.heap) σh H' s' → N H' → ∃ m, m < n ∧ ∃ i H', Inv (X.blk sc Hc scope ce fp) [] (wipe σ (own.map (·.2))) H' s' ∧ tn i s'.heap ∧ (∀ b ∈ fp, H' b = none) ∧ W i m H' := fun {s' H'} J' nx => by
        obtain ⟨m', hm, w'⟩ := hNx H' nx
        have pin' : ∀ b ∈ fp, ∀ o, sg.heap.get? b = some o → s'.heap.get? b = some o ∧ H' b = none := fun b hb o e => by
          obtain ⟨z1, z2, _⟩ := J'.pin (b, o) (List.mem_append_right _ (List.mem_append_right _ (mem_pinsAt hb e)))
          exact ⟨z1, z2⟩
        refine ⟨m', hm, i + 1, H', (J'.unpinned (pins := [])).weak (by rw [← wh, wipe_length]) (fun j v e => ?_), T.keep _ _ _ stg fun b hb o e => (pin' b hb o e).1, fun b hb => ?_, w'⟩
        · rw [← wh] at e
          exact (wipe_some e).1
        · obtain ⟨o, e, _⟩ := T.obj _ _ stg b hb
          exact (pin' b hb o e).2
      cases b with
      | false =>
        simp only [Bool.false_eq_true, if_false] at qi ⊢
        exact back Ii qi
      | true =>
        simp only [if_true] at qi ⊢
        refine thnF (pk.run _ si σh Hi _ Ii qi) fun zk sj ⟨yk, Hj, Ij, rj, qj⟩ => ?_
        refine thnF (pv.run _ sj σh Hj _ Ij qj) fun zv sl ⟨yv, Hl, Il, rl, as, st, dx, dy, dz, st', Sl, o1, o2, o3, o4, o5⟩ => ?_
        exact dictSet_dct (X := X.blk sc Hc scope ce fp) hu Il Sl o1 o2 rj o3 rl o4 fun H' s' J' x' S' => back J' (o5 _ _ x' S')
  exact codeAny_compStart_dict loop (T.self X.A 0 _ _ _ std loop)
/-- as a value; name = {..} on one line -/
theorem pe_dx {kx vx tg iter : Expr} {ifs : List Expr} {scope : Scope} {own : List (Str × Nat)} {pos : Pos} {wi : TI} {g : TG} {tt : TT} {fk fv : TE} (hu : X.A.units + 1 < cLine) (hc : X.calm = true) (hN : X.N.Nodup) (hi : PI X tg iter wi) (ok : BlkOk X.N X.env.scope scope own)
    (hg : ∀ (s : Shared) (H : Hp) (C : Addr) (cl : List (Str × Addr)) (fp : List Addr), PG (X.blk s H scope (compEnvC scope cl C X.env) fp) tg g)
    (ht : ∀ (s : Shared) (H : Hp) (C : Addr) (cl : List (Str × Addr)) (fp : List Addr), PTs (X.blk s H scope (compEnvC scope cl C X.env) fp) ifs tt)
    (hk : ∀ (s : Shared) (H : Hp) (C : Addr) (cl : List (Str × Addr)) (fp : List Addr), PE (X.blk s H scope (compEnvC scope cl C X.env) fp) kx fk)
    (hv : ∀ (s : Shared) (H : Hp) (C : Addr) (cl : List (Str × Addr)) (fp : List Addr), PE (X.blk s H scope (compEnvC scope cl C X.env) fp) vx fv)
    (hs : ∀ x, foldedSetIterable iter X.env x = pure x) : PE X (.DictComp kx vx [⟨tg, iter, ifs, 0⟩] scope pos) (tDx X.K wi g tt fk fv (own.map (·.2))) := by
  refine ⟨fun pins s σ H Q I h => ?_⟩
  rw [arm_eval_DictComp]
  refine dx_core hu hc hN I hi ok hg ht hk hv hs h fun D C s' m H' Ig fin hn ff => ⟨m, hn, fun h2 sB => ?_⟩
  obtain ⟨g0, g1, g2, g3, g4, g5⟩ := ff
  exact ⟨.ref D, H', Ig.turned (t' := s'.toks) (fun b o hb e => (sB.2 b hb).trans e) g0 g1 g3 g4 g5, rfl, fin⟩
theorem ps_setDx {i : Nat} {y : Str} {py spos : Pos} {kx vx tg iter : Expr} {ifs : List Expr} {scope : Scope} {own : List (Str × Nat)} {pos : Pos} {wi : TI} {g : TG} {tt : TT} {fk fv : TE} (hu : X.A.units + 1 < cLine) (hc : X.calm = true) (hN : X.N.Nodup) (hy : X.N[i]? = some y) (hyl : X.env.scope.names.lookup y = some .local)
    (hsw : swapsWith (.DictComp kx vx [⟨tg, iter, ifs, 0⟩] scope pos) (some (.Name y py)) spos.line X.env = pure true) (hi : PI X tg iter wi) (ok : BlkOk X.N X.env.scope scope own)
    (hg : ∀ (s : Shared) (H : Hp) (C : Addr) (cl : List (Str × Addr)) (fp : List Addr), PG (X.blk s H scope (compEnvC scope cl C X.env) fp) tg g)
    (ht : ∀ (s : Shared) (H : Hp) (C : Addr) (cl : List (Str × Addr)) (fp : List Addr), PTs (X.blk s H scope (compEnvC scope cl C X.env) fp) ifs tt)
    (hk : ∀ (s : Shared) (H : Hp) (C : Addr) (cl : List (Str × Addr)) (fp : List Addr), PE (X.blk s H scope (compEnvC scope cl C X.env) fp) kx fk)
    (hv : ∀ (s : Shared) (H : Hp) (C : Addr) (cl : List (Str × Addr)) (fp : List Addr), PE (X.blk s H scope (compEnvC scope cl C X.env) fp) vx fv)
    (hs : ∀ x, foldedSetIterable iter X.env x = pure x) : PS X (.Assign [.Name y py] (.DictComp kx vx [⟨tg, iter, ifs, 0⟩] scope pos) spos) (tAsg (tDx X.K wi g tt fk fv (own.map (·.2))) (gName i)) := by
  refine ⟨fun pins s σ H Z I h => ?_⟩
  rw [exec_Assign_Name_used _ _ _ _ hsw]
  refine wpAny_bind (wpAny_standAt (wpAny_bind ?_))
  show wpAny _ X.A (do let _ ← comprehension (.DictComp kx vx [⟨tg, iter, ifs, 0⟩] scope pos) scope X.env (firstIterPos [⟨tg, iter, ifs, 0⟩] pos) newDict false (eval iter X.env) (some (assign (.Name y py) X.env))) _ _ s
  have h : tDx X.K wi g tt fk fv (own.map (·.2)) σ H (fun x H1 => gName i x σ H1 Z.nx) := h
  refine wpAny_bind (thn (dx_core (Qf := fun _ s' => SP X pins Z .next s') hu hc hN I hi ok hg ht hk hv hs h fun D C s' m H' Ig fin hn ff => ?_) fun _ s' hq => wpAny_pure (wpAny_pure hq))
  show wpAny _ _ (assign (.Name y py) X.env (.ref D)) _ _ _
  refine wpAny_assign_Name (store_ok2 (v := V.ref D) Ig hN hy (.inl hyl) rfl (fun s2 Ih ⟨a, sA, ha⟩ => ?_) (.inr hyl))
  obtain ⟨g0, g1, g2, g3, g4, g5⟩ := ff
  have apart : C ≠ a := by
    rcases ha with z | z
    · rw [z]; exact g1
    · exact fun e => g4 y a z e.symm
  exact ⟨m, hn.sameBut sA apart, fun h3 sB => ⟨_, H', Ih.turned (t' := s2.toks) (fun b o hb e => (sB.2 b hb).trans e) g0 g1 g3 g4 g5, fin⟩⟩
end
open Classical in
def compD (n : Nat) (src : Option (Nat × Cell)) (env0 : Env) (g : DenT) (c : DenB) (fk fv : Den) : List D → Store → Out Unit
  | [], s => .ok () s
  | x :: xs, s => match g x env0 with
    | none => .bad
    | some e1 => (c e1 s).nox.bind fun b s1 => if b then (fk e1 s1).nox.bind fun k s2 => (fv e1 s2).nox.bind fun d s3 => match putD s3 (.cell n) k d with
        | some s4 => gdo src (compD n src env0 g c fk fv xs) s4
        | none => .bad
      else gdo src (compD n src env0 g c fk fv xs) s1
def dDComp (fi : DenI) (vs : List Nat) (g : DenT) (c : DenB) (fk fv : Den) : Den := fun env st => (fi env st).bind fun it st1 => (compD st1.length it.2 (wipeE env vs) g c fk fv it.1 (st1 ++ [.dct false []])).bind fun _ s => .ok (.cell st1.length) s
theorem gdo_wp {src : Option (Nat × Cell)} {k : Store → Out Unit} {s : Store} {β : Type} {f : Unit → Store → Out β} {P : β → Store → Prop} {E : Str → List (Str × D) → Store → Prop} (h : ((gdo src k s).bind f).wp P E) : Gd src s ∧ ((k s).bind f).wp P E := by
  by_cases hG : Gd src s
  · rw [gdo_pos hG] at h; exact ⟨hG, h⟩
  · rw [gdo_neg hG] at h; exact h.elim
theorem rc_dcomp {K : PySem.W.Frag} {mg : Str → Option Value} {W : WX} {fi : DenI} {vs : List Nat} {g : DenT} {c : DenB} {fk fv : Den} {σ : St} {H : Hp} {Q : VK} (h : RE K mg W (dDComp fi vs g c fk fv) σ H Q) :
    tDx K (RI K mg W fi) (RG K (some vs) g) (RT K mg Wno c) (RE K mg Wno fk) (RE K mg Wno fv) vs σ H Q := by
  obtain ⟨as, env, st, E, S, h⟩ := h
  refine ⟨as, env, st, E, S, Out.wp_mono (Out.wp_bind h) (fun it st1 _ h1 as1 H1 J x1 S1 g1 ok => ?_) fun _ _ _ z => z⟩
  intro D hD hsm
  obtain ⟨xD, SD, gD⟩ := S1.newCell (o := DX D emptyO) (c := .dct false []) hD fun x => ⟨hsm, emptyO, upd_same, Nat.zero_le _, ⟨rfl, rfl, rfl⟩, #[], 0, [], rfl, rfl, List.nodup_nil, .nil⟩
  refine ⟨fun i m H2 => m = it.1.length - i ∧ i ≤ it.1.length ∧ ∃ as2 s2, Ext (as1 ++ [D]) (upd H1 D (DX D emptyO)) as2 H2 ∧ StR K as2 H2 s2 ∧ Gd it.2 s2 ∧
    ((compD st1.length it.2 (wipeE env vs) g c fk fv (it.1.drop i) s2).bind fun _ s => Out.ok (L2.PyD.D.cell st1.length) s).wp (WV K as H Q) (WE K mg W as H σ), ⟨_, rfl, Nat.zero_le _, _, _, .refl _ _, SD, g1.app, h1⟩, ?_⟩
  rintro i m H2 ⟨rfl, hi, as2, s2, x2, S2, g2, h2⟩
  have x12 : Ext as1 H1 as2 H2 := xD.trans x2
  have okk := (ok as2 H2 s2 x12 S2 g2).2 i
  by_cases hlt : i < it.1.length
  · right
    have ed : it.1.drop i = it.1[i] :: it.1.drop (i + 1) := List.drop_eq_getElem_cons hlt
    rw [ed] at h2
    obtain ⟨hgo, hy⟩ := okk.1 it.1[i] (List.getElem?_eq_getElem hlt)
    refine ⟨hgo, fun H' => i + 1 ≤ it.1.length ∧ ∃ as3 s3, Ext (as1 ++ [D]) (upd H1 D (DX D emptyO)) as3 H' ∧ StR K as3 H' s3 ∧ Gd it.2 s3 ∧
      ((compD st1.length it.2 (wipeE env vs) g c fk fv (it.1.drop (i + 1)) s3).bind fun _ s => Out.ok (L2.PyD.D.cell st1.length) s).wp (WV K as H Q) (WE K mg W as H σ), fun H' w => ⟨it.1.length - (i + 1), by omega, rfl, w.1, w.2⟩, fun x H3 y => ?_⟩
    obtain ⟨x3, S3, r3⟩ := hy x H3 y
    unfold compD at h2
    cases eg : g it.1[i] (wipeE env vs) with
    | none => rw [eg] at h2; exact h2.elim
    | some e1 =>
      rw [eg] at h2
      simp only at h2
      rw [Out.assoc] at h2
      refine ⟨as2, wipeE env vs, it.1[i], e1, wipeE_ok (E.ext (x1.trans (x12.trans x3))) vs, r3, eg, fun σ4 E4 m4 => ⟨?_, ?_⟩⟩
      · exact Eq.trans (show wipe σ4 vs = wipe (wipe σ vs) vs from m4) (wipe_idem σ vs vs fun _ z => z)
      refine rt_nox E4 S3 h2 fun b s4 as4 H4 x4 E5 S4 h4 => ?_
      cases b with
      | false =>
        refine iteF ?_
        rw [if_neg Bool.false_ne_true] at h4
        obtain ⟨hG, h4⟩ := gdo_wp h4
        exact ⟨hlt, as4, s4, (x2.trans x3).trans x4, S4, hG, h4⟩
      | true =>
        refine iteT ?_
        rw [if_pos rfl, Out.assoc] at h4
        refine re_nox E5 S4 h4 fun k s5 as5 H5 u x5 E6 S5 r5 h5 => ?_
        rw [Out.assoc] at h5
        refine re_nox E6 S5 h5 fun d s6 as6 H6 v x6 E7 S6 r6 h6 => ?_
        have x26 := (((x2.trans x3).trans x4).trans x5).trans x6
        cases ep : putD s6 (.cell st1.length) k d with
        | none => rw [ep] at h6; exact h6.elim
        | some s7 =>
          rw [ep] at h6
          simp only at h6
          obtain ⟨hG, h6⟩ := gdo_wp h6
          exact ⟨as6, s6, .cell st1.length, k, d, s7, S6, .cell (x26.get gD), Rp.ext x6 r5, r6, ep, fun as' H' x' S' => ⟨hlt, as', s7, x26.trans x', S', hG, h6⟩⟩
  · left
    have : i = it.1.length := by omega
    subst this
    rw [List.drop_length] at h2
    refine ⟨okk.2 (Nat.le_refl _), ?_⟩
    unfold compD at h2
    have h3 : (Out.ok (L2.PyD.D.cell st1.length) s2).wp (WV K as H Q) (WE K mg W as H σ) := h2
    exact h3 as2 H2 _ (x1.trans x12) S2 (.cell (x2.get gD))
section
variable {X : Cx} {W : WX} {pos : Pos}
theorem pe_dcomp' {kx vx tg iter : Expr} {ifs : List Expr} {scope : Scope} {own : List (Str × Nat)} {fi : DenI} {g : DenT} {c : DenB} {fk fv : Den} (hu : X.A.units + 1 < cLine) (hc : X.calm = true) (hN : X.N.Nodup) (hi : PI X tg iter (RI X.K X.mg W fi)) (ok : BlkOk X.N X.env.scope scope own)
    (hg : ∀ (s : Shared) (H : Hp) (C : Addr) (cl : List (Str × Addr)) (fp : List Addr), PG (X.blk s H scope (compEnvC scope cl C X.env) fp) tg (RG X.K (some (own.map (·.2))) g))
    (ht : ∀ (s : Shared) (H : Hp) (C : Addr) (cl : List (Str × Addr)) (fp : List Addr), PTs (X.blk s H scope (compEnvC scope cl C X.env) fp) ifs (RT X.K X.mg Wno c))
    (hk : ∀ (s : Shared) (H : Hp) (C : Addr) (cl : List (Str × Addr)) (fp : List Addr), PE (X.blk s H scope (compEnvC scope cl C X.env) fp) kx (RE X.K X.mg Wno fk))
    (hv : ∀ (s : Shared) (H : Hp) (C : Addr) (cl : List (Str × Addr)) (fp : List Addr), PE (X.blk s H scope (compEnvC scope cl C X.env) fp) vx (RE X.K X.mg Wno fv)) (hs : ∀ x, foldedSetIterable iter X.env x = pure x) :
    PE X (.DictComp kx vx [⟨tg, iter, ifs, 0⟩] scope pos) (RE X.K X.mg W (dDComp fi (own.map (·.2)) g c fk fv)) := PE.re (pe_dx hu hc hN hi ok hg ht hk hv hs) fun _ _ _ h => rc_dcomp h
theorem ps_setdcomp' {i : Nat} {y : Str} {py spos : Pos} {kx vx tg iter : Expr} {ifs : List Expr} {scope : Scope} {own : List (Str × Nat)} {fi : DenI} {g : DenT} {c : DenB} {fk fv : Den} (hu : X.A.units + 1 < cLine) (hc : X.calm = true) (hN : X.N.Nodup) (hy : X.N[i]? = some y) (hyl : X.env.scope.names.lookup y = some .local)
    (hsw : swapsWith (.DictComp kx vx [⟨tg, iter, ifs, 0⟩] scope pos) (some (.Name y py)) spos.line X.env = pure true) (hi : PI X tg iter (RI X.K X.mg W fi)) (ok : BlkOk X.N X.env.scope scope own)
    (hg : ∀ (s : Shared) (H : Hp) (C : Addr) (cl : List (Str × Addr)) (fp : List Addr), PG (X.blk s H scope (compEnvC scope cl C X.env) fp) tg (RG X.K (some (own.map (·.2))) g))
    (ht : ∀ (s : Shared) (H : Hp) (C : Addr) (cl : List (Str × Addr)) (fp : List Addr), PTs (X.blk s H scope (compEnvC scope cl C X.env) fp) ifs (RT X.K X.mg Wno c))
    (hk : ∀ (s : Shared) (H : Hp) (C : Addr) (cl : List (Str × Addr)) (fp : List Addr), PE (X.blk s H scope (compEnvC scope cl C X.env) fp) kx (RE X.K X.mg Wno fk))
    (hv : ∀ (s : Shared) (H : Hp) (C : Addr) (cl : List (Str × Addr)) (fp : List Addr), PE (X.blk s H scope (compEnvC scope cl C X.env) fp) vx (RE X.K X.mg Wno fv)) (hs : ∀ x, foldedSetIterable iter X.env x = pure x) :
    PS X (.Assign [.Name y py] (.DictComp kx vx [⟨tg, iter, ifs, 0⟩] scope pos) spos) (RS X.K X.mg W (sAsg (dDComp fi (own.map (·.2)) g c fk fv) (tgName i))) :=
  PS.re (ps_setDx hu hc hN hy hyl hsw hi ok hg ht hk hv hs) fun Z σ H h => by
    obtain ⟨as, env, st, E, S, q⟩ := rs_asg h
    refine rc_dcomp ⟨as, env, st, E, S, Out.wp_mono q (fun r st1 _ h1 as1 H1 v x s rp => ?_) fun _ _ _ z => z⟩
    obtain ⟨as2, env2, d, env3, E2, r2, e2, q2⟩ := h1 as1 H1 v x s rp
    cases e2
    exact q2 _ (E2.set r2 i) trivial
end
end
end L2.PyD
/-! PyD, part 6: operators, comparisons, subscripts, methods and built-ins on data. -/
namespace L2.PyD
open PySem PySem.Spec PyProof.Rows
noncomputable section

abbrev G2 := Store → D → D → Option Rv
abbrev C2 := Store → D → D → Option Bool
def gOr (g g' : G2) : G2 := fun st x y => match g st x y with
  | some r => some r
  | none => g' st x y
theorem opOr {X : Cx} {f : Value → Value → Sem Value} {g g' : G2} (h : OpR X f (RB X.K g)) (h' : OpR X f (RB X.K g')) : OpR X f (RB X.K (gOr g g')) := by
  intro pins s σ H x y v u Q I rx ry q
  obtain ⟨as, st, dx, dy, rv, S, r1, r2, e, ok⟩ := q
  unfold gOr at e
  cases e1 : g st dx dy with
  | some r => rw [e1] at e; cases e; exact h pins s σ H x y v u Q I rx ry ⟨as, st, dx, dy, _, S, r1, r2, e1, ok⟩
  | none => rw [e1] at e; exact h' pins s σ H x y v u Q I rx ry ⟨as, st, dx, dy, _, S, r1, r2, e, ok⟩
theorem rv_val {K : PySem.W.Frag} {as : List Addr} {H : Hp} {st : Store} {d : D} {v : V} {Q : VK} (S : StR K as H st) (h : RvOk K as H st (.val d) Q) (r : Rp K as H v d) : Q v H := h H v (.refl _ _) S r

/-! ### ints -/
def gI (C : Int → Int → Prop) [∀ i j, Decidable (C i j)] (f : Int → Int → Int) : G2 := fun _ x y => match x, y with
  | .int i, .int j => if C i j then some (.val (.int (f i j))) else none
  | _, _ => none
theorem opI' {X : Cx} {F : Value → Value → Sem Value} {C : Int → Int → Prop} [∀ i j, Decidable (C i j)] {f : Int → Int → Int} (h : OpR X F (rI C fun i j => .int (f i j))) : OpR X F (RB X.K (gI C f)) := by
  intro pins s σ H x y v u Q I rx ry q
  obtain ⟨as, st, dx, dy, rv, S, r1, r2, e, ok⟩ := q
  cases dx with
  | int i =>
    cases dy with
    | int j =>
      cases r1
      cases r2
      by_cases c : C i j
      · have e' : gI C f st (.int i) (.int j) = some (.val (.int (f i j))) := if_pos c
        rw [e'] at e
        cases e
        exact h pins s σ H _ _ v u Q I rx ry ⟨i, j, rfl, rfl, c, rv_val S ok (.int _)⟩
      · have e' : gI C f st (.int i) (.int j) = none := if_neg c
        rw [e'] at e
        cases e
    | _ => cases e
  | _ => cases e
def yes (_ _ : Int) : Prop := True
instance : ∀ i j, Decidable (yes i j) := fun _ _ => .isTrue trivial
/-- which products, quotients, powers fit -/
def mulOk (i j : Int) : Prop := (i.natAbs < 2 ^ 64 ∨ j.natAbs < 2 ^ 64) ∨ i.natAbs.log2 + j.natAbs.log2 < 1000000
instance : ∀ i j, Decidable (mulOk i j) := fun _ _ => Classical.propDecidable _
def divOk (_ j : Int) : Prop := j ≠ 0 ∧ j.natAbs.log2 < 9000
instance : ∀ i j, Decidable (divOk i j) := fun _ _ => Classical.propDecidable _
def modOk (_ j : Int) : Prop := j ≠ 0
instance : ∀ i j, Decidable (modOk i j) := fun _ _ => Classical.propDecidable _
def powOk (i j : Int) : Prop := 0 ≤ j ∧ (i.natAbs.log2 + 1) * j.toNat ≤ 2 ^ 27
instance : ∀ i j, Decidable (powOk i j) := fun _ _ => Classical.propDecidable _
section
variable {X : Cx}
theorem op_addI : OpR X (binaryOp .Add) (rI yes fun i j => .int (i + j)) := opI fun _ _ _ _ _ _ _ _ q => add_int q
theorem op_subI : OpR X (binaryOp .Sub) (rI yes fun i j => .int (i - j)) := opI fun _ _ _ _ _ _ _ _ q => sub_int q
theorem op_mulI : OpR X (binaryOp .Mult) (rI mulOk fun i j => .int (i * j)) := opI fun i j _ _ _ _ _ hc q => by
  rcases hc with (hc | hc) | hc
  · exact mul_int q (CMul.ok (.inl (by constructor <;> omega)))
  · exact mul_int q (CMul.ok (.inr (by constructor <;> omega)))
  · exact mul_int q (CMulW.ok hc)
theorem op_divI : OpR X (binaryOp .FloorDiv) (rI divOk fun i j => .int (i.fdiv j)) := opI fun _ _ _ _ _ _ _ hc q => floordiv_int hc.1 q (.inl (PyProof.noPylong_of_log2 hc.2))
theorem op_modI : OpR X (binaryOp .Mod) (rI modOk fun i j => .int (i.fmod j)) := opI fun _ _ _ _ _ _ _ hc q => mod_int' hc q
theorem op_powI : OpR X (binaryOp .Pow) (rI powOk fun i j => .int (i ^ j.toNat)) := opI fun i j _ _ _ _ _ hc q => by
  refine pow_int hc.1 ?_ q
  have h1 : Builtin.Int.intBits i ≤ i.natAbs.log2 + 1 := by
    unfold Builtin.Int.intBits
    split <;> omega
  have h2 := hc.2
  have h3 : Builtin.Int.intBits i * j.toNat ≤ (i.natAbs.log2 + 1) * j.toNat := Nat.mul_le_mul_right _ h1
  have h4 : ((j.toNat : Nat) : Int) = j := Int.toNat_of_nonneg hc.1
  have h5 : ((Builtin.Int.intBits i * j.toNat : Nat) : Int) ≤ 2 ^ 27 := by
    have : Builtin.Int.intBits i * j.toNat ≤ 2 ^ 27 := Nat.le_trans h3 h2
    omega
  rw [Int.natCast_mul, h4] at h5
  exact h5
end
/-! ### texts, tuples, lists by + -/
def gAddS : G2 := fun _ x y => match x, y with
  | .str i, .str j => if dec (i.length + j.length ≤ sizeLine) then some (.val (.str (i ++ j))) else none
  | _, _ => none
theorem op_addS {X : Cx} : OpR X (binaryOp .Add) (RB X.K gAddS) := by
  intro pins s σ H x y v u Q I rx ry q
  obtain ⟨as, st, dx, dy, rv, S, r1, r2, e, ok⟩ := q
  cases dx with
  | str i =>
    cases dy with
    | str j =>
      cases r1
      cases r2
      by_cases c : dec (i.length + j.length ≤ sizeLine) = true
      · have e' : gAddS st (.str i) (.str j) = some (.val (.str (i ++ j))) := if_pos c
        rw [e'] at e
        cases e
        exact op_add_str pins s σ H _ _ v u Q I rx ry ⟨i, j, rfl, rfl, of_dec c, rv_val S ok (.str _)⟩
      · have e' : gAddS st (.str i) (.str j) = none := if_neg c
        rw [e'] at e
        cases e
    | _ => cases e
  | _ => cases e
def gAddT : G2 := fun _ x y => match x, y with
  | .tup i, .tup j => if small (i ++ j) then some (.val (.tup (i ++ j))) else none
  | _, _ => none
theorem op_addT {X : Cx} : OpR X (binaryOp .Add) (RB X.K gAddT) := by
  intro pins s σ H x y v u Q I rx ry q
  obtain ⟨as, st, dx, dy, rv, S, r1, r2, e, ok⟩ := q
  cases dx with
  | tup i =>
    cases dy with
    | tup j =>
      cases r1 with
      | tup h1 z1 l1 =>
      rename_i a xs
      cases r2 with
      | tup h2 z2 l2 =>
      rename_i b ys
      by_cases c : small (i ++ j) = true
      · have e' : gAddT st (.tup i) (.tup j) = some (.val (.tup (i ++ j))) := if_pos c
        rw [e'] at e
        cases e
        have zl : xs.length + ys.length ≤ sizeLine := by
          have := of_dec c
          rw [List.length_append, ← l1.length, ← l2.length] at this
          exact this
        refine op_catA pins s σ H _ _ v u Q I rx ry ⟨a, b, xs, ys, rfl, rfl, h1, h2, zl, fun z => ?_, fun _ z => ?_, fun _ _ p hp => ?_⟩
        · subst z
          cases l1
          exact rv_val S ok (.tup h2 z2 l2)
        · subst z
          cases l2
          rw [List.append_nil] at ok
          exact rv_val S ok (.tup h1 z1 l1)
        · obtain ⟨x1, s1⟩ := S.alloc (.tup (xs ++ ys)) hp
          exact ok _ _ x1 s1 (.tup (SqT.of upd_same) (by rw [List.length_append]; exact zl) ((RpL.ext x1 l1).append (RpL.ext x1 l2)))
      · have e' : gAddT st (.tup i) (.tup j) = none := if_neg c
        rw [e'] at e
        cases e
    | _ => cases e
  | _ => cases e
/-- the list at a value that may be read by its address: it stands still, or a cell's -/
def viewL (st : Store) : D → Option (List D)
  | .lst ds => some ds
  | .cell i => match st[i]? with
    | some (.lst ds) => some ds
    | _ => none
  | _ => none
theorem viewL_ok {K : PySem.W.Frag} {as : List Addr} {H : Hp} {st : Store} {v : V} {d : D} {ds : List D} (S : StR K as H st) (r : Rp K as H v d) (e : viewL st d = some ds) : ∃ p xs, v = .ref p ∧ H p = some (.lst xs) ∧ xs.length ≤ sizeLine ∧ RpL K as H xs ds := by
  cases r with
  | lst h c z r => cases e; exact ⟨_, _, rfl, h, z, r⟩
  | cell h =>
    obtain ⟨c, e1, hR⟩ := S.get' h
    simp only [viewL, e1] at e
    cases c with
    | dct kvs => cases e
    | lst es => cases e; obtain ⟨xs, hx, z, r⟩ := hR; exact ⟨_, xs, rfl, hx, z, r⟩
  | _ => cases e
def gAddL : G2 := fun st x y => match viewL st x, viewL st y with
  | some i, some j => if small (i ++ j) then some (.newL (i ++ j)) else none
  | _, _ => none
theorem op_addL {X : Cx} : OpR X (binaryOp .Add) (RB X.K gAddL) := by
  intro pins s σ H x y v u Q I rx ry q
  obtain ⟨as, st, dx, dy, rv, S, r1, r2, e, ok⟩ := q
  unfold gAddL at e
  cases e1 : viewL st dx with
  | none => rw [e1] at e; cases e
  | some i =>
    cases e2 : viewL st dy with
    | none => rw [e1, e2] at e; cases e
    | some j =>
      rw [e1, e2] at e
      obtain ⟨a, xs, rfl, h1, z1, l1⟩ := viewL_ok S r1 e1
      obtain ⟨b, ys, rfl, h2, z2, l2⟩ := viewL_ok S r2 e2
      by_cases c : small (i ++ j) = true
      · simp only at e
        rw [if_pos c] at e
        cases e
        have zl : xs.length + ys.length ≤ sizeLine := by
          have := of_dec c
          rw [List.length_append, ← l1.length, ← l2.length] at this
          exact this
        exact op_cat pins s σ H _ _ v u Q I rx ry ⟨a, b, xs, ys, rfl, rfl, h1, h2, zl, fun p hp => ok p _ hp (by rw [List.length_append]; exact zl) (l1.append l2)⟩
      · simp only at e
        rw [if_neg c] at e
        cases e
def gAdd : G2 := gOr (gI yes fun i j => i + j) (gOr gAddT (gOr gAddS gAddL))
def gSub : G2 := gI yes fun i j => i - j
def gMulI : G2 := gI mulOk fun i j => i * j
def gDiv : G2 := gI divOk fun i j => i.fdiv j
def gMod : G2 := gI modOk fun i j => i.fmod j
def gPow : G2 := gI powOk fun i j => i ^ j.toNat
/-! ### comparisons -/
def cOr (g g' : C2) : C2 := fun st x y => match g st x y with
  | some r => some r
  | none => g' st x y
theorem cmpOr {X : Cx} {f : Value → Value → Sem Value} {g g' : C2} (h : OpR X f (RCm X.K g)) (h' : OpR X f (RCm X.K g')) : OpR X f (RCm X.K (cOr g g')) := by
  intro pins s σ H x y v u Q I rx ry q
  obtain ⟨as, st, dx, dy, b, S, r1, r2, e, ok⟩ := q
  unfold cOr at e
  cases e1 : g st dx dy with
  | some r => rw [e1] at e; cases e; exact h pins s σ H x y v u Q I rx ry ⟨as, st, dx, dy, _, S, r1, r2, e1, ok⟩
  | none => rw [e1] at e; exact h' pins s σ H x y v u Q I rx ry ⟨as, st, dx, dy, _, S, r1, r2, e, ok⟩
def cI (p : Int → Int → Bool) : C2 := fun _ x y => match x, y with
  | .int i, .int j => some (p i j)
  | _, _ => none
theorem cmpI {X : Cx} {F : Value → Value → Sem Value} {p : Int → Int → Bool} (h : OpR X F (rI0 fun i j => .bl (p i j))) : OpR X F (RCm X.K (cI p)) := by
  intro pins s σ H x y v u Q I rx ry q
  obtain ⟨as, st, dx, dy, b, S, r1, r2, e, ok⟩ := q
  cases dx with
  | int i =>
    cases dy with
    | int j =>
      cases e
      cases r1
      cases r2
      exact h pins s σ H _ _ v u Q I rx ry ⟨i, j, rfl, rfl, ok⟩
    | _ => cases e
  | _ => cases e
/-- a value as nested data -/
def pyN (st : Store) : Nat → D → Option PyData
  | 0, d => match d with
    | .non => some .none
    | .bl b => some (.bool b)
    | .int i => some (.int i)
    | .str s => if PyData.strOk s then some (.str s) else none
    | _ => none
  | k + 1, d => match d with
    | .non => some .none
    | .bl b => some (.bool b)
    | .int i => some (.int i)
    | .str s => if PyData.strOk s then some (.str s) else none
    | .ty _ => none
    | .tup ds => (mapO (pyN st k) ds).map PyData.tuple
    | .lst ds => (mapO (pyN st k) ds).map PyData.list
    | .frl ds => (mapO (pyN st k) ds).map PyData.list
    | .cell i => match st[i]? with
      | some (.lst ds) => (mapO (pyN st k) ds).map PyData.list
      | _ => none
theorem pyL_ok {K : PySem.W.Frag} {as : List Addr} {H : Hp} {k : Nat} {f : D → Option PyData} (hf : ∀ {v : V} {d : D} {p : PyData}, Rp K as H v d → f d = some p → Dp K H v p ∧ p.canLay0 = true ∧ p.depth ≤ k) :
    ∀ {vs : List V} {ds : List D} {ps : List PyData}, RpL K as H vs ds → mapO f ds = some ps → DpAll K H vs ps ∧ PyData.canLayAll0 ps = true ∧ PyData.depthAll ps ≤ k
  | _, _, _, .nil, h => by cases h; exact ⟨.nil, by simp [PyData.canLayAll0], by simp [PyData.depthAll]⟩
  | _, _, _, .cons r rl, h => by
    obtain ⟨y, ys, e1, e2, rfl⟩ := mapO_cons h
    obtain ⟨a1, a2, a3⟩ := hf r e1
    obtain ⟨b1, b2, b3⟩ := pyL_ok hf rl e2
    exact ⟨.cons a1 b1, by unfold PyData.canLayAll0; rw [a2, b2]; rfl, by unfold PyData.depthAll; omega⟩
theorem py_str {K : PySem.W.Frag} {H : Hp} {s : Str} {p : PyData} {k : Nat} (h : (if PyData.strOk s then some (PyData.str s) else none) = some p) : Dp K H (.str s) p ∧ p.canLay0 = true ∧ p.depth ≤ k := by
  by_cases c : PyData.strOk s = true
  · rw [if_pos c] at h
    cases h
    exact ⟨.str s, by unfold PyData.canLay0; exact c, by simp [PyData.depth]⟩
  · rw [if_neg c] at h; cases h
theorem pyN_ok {K : PySem.W.Frag} {as : List Addr} {H : Hp} {st : Store} (S : StR K as H st) : ∀ (k : Nat) {v : V} {d : D} {p : PyData}, Rp K as H v d → pyN st k d = some p → Dp K H v p ∧ p.canLay0 = true ∧ p.depth ≤ k
  | 0, v, d, p, r, h => by
    cases r with
    | non => cases h; exact ⟨.non, by simp [PyData.canLay0], by simp [PyData.depth]⟩
    | bl b => cases h; exact ⟨.bl b, by simp [PyData.canLay0], by simp [PyData.depth]⟩
    | int i => cases h; exact ⟨.int i, by simp [PyData.canLay0], by simp [PyData.depth]⟩
    | str s => exact py_str h
    | _ => cases h
  | k + 1, v, d, p, r, h => by
    have go := fun {vs : List V} {ds : List D} {ps : List PyData} => pyL_ok (k := k) (f := pyN st k) (fun {v d p} r h => pyN_ok S k r h) (vs := vs) (ds := ds) (ps := ps)
    cases r with
    | non => cases h; exact ⟨.non, by simp [PyData.canLay0], by simp [PyData.depth]⟩
    | bl b => cases h; exact ⟨.bl b, by simp [PyData.canLay0], by simp [PyData.depth]⟩
    | int i => cases h; exact ⟨.int i, by simp [PyData.canLay0], by simp [PyData.depth]⟩
    | str s => exact py_str h
    | ty n => cases h
    | tup hT z rl =>
      obtain ⟨es, e2, e3⟩ := Option.map_eq_some_iff.mp h
      subst e3
      obtain ⟨h1, h2, h3⟩ := go rl e2
      exact ⟨.tup hT h1, by unfold PyData.canLay0; exact h2, by unfold PyData.depth; omega⟩
    | lst hT c z rl =>
      obtain ⟨es, e2, e3⟩ := Option.map_eq_some_iff.mp h
      subst e3
      obtain ⟨h1, h2, h3⟩ := go rl e2
      exact ⟨.lst (SqL.of hT) h1, by unfold PyData.canLay0; exact h2, by unfold PyData.depth; omega⟩
    | frl hT z rl =>
      obtain ⟨es, e2, e3⟩ := Option.map_eq_some_iff.mp h
      subst e3
      obtain ⟨h1, h2, h3⟩ := go rl e2
      exact ⟨.lst hT.seq h1, by unfold PyData.canLay0; exact h2, by unfold PyData.depth; omega⟩
    | cell hc =>
      obtain ⟨c, e1, hR⟩ := S.get' hc
      unfold pyN at h
      simp only [e1] at h
      cases c with
      | dct kvs => cases h
      | lst ds =>
        obtain ⟨es, e2, e3⟩ := Option.map_eq_some_iff.mp h
        subst e3
        obtain ⟨xs, hx, z, rl⟩ := hR
        obtain ⟨h1, h2, h3⟩ := go rl e2
        exact ⟨.lst (SqL.of hx) h1, by unfold PyData.canLay0; exact h2, by unfold PyData.depth; omega⟩
def pyD (st : Store) (d : D) : Option PyData := pyN st 60 d
theorem pyD_ok {K : PySem.W.Frag} {as : List Addr} {H : Hp} {st : Store} {v : V} {d : D} {p : PyData} (S : StR K as H st) (r : Rp K as H v d) (e : pyD st d = some p) : Dp K H v p ∧ SeqAt.shaped p = true := by
  obtain ⟨h1, h2, h3⟩ := pyN_ok S 60 r e
  refine ⟨h1, ?_⟩
  unfold SeqAt.shaped
  rw [h2, decide_eq_true (show p.depth ≤ 64 by omega)]
  rfl
def cEq : C2 := fun st x y => match pyD st x, pyD st y with
  | some p, some q => some (PyData.eqv p q)
  | _, _ => none
def cNe : C2 := fun st x y => match pyD st x, pyD st y with
  | some p, some q => some (!PyData.eqv p q)
  | _, _ => none
section
variable {X : Cx}
theorem cmp_eq (hu : X.A.units + 64 < cLine) : OpR X (compareOp .Eq) (RCm X.K cEq) := by
  intro pins s σ H x y v u Q I rx ry q
  obtain ⟨as, st, dx, dy, b, S, r1, r2, e, ok⟩ := q
  unfold cEq at e
  cases e1 : pyD st dx with
  | none => rw [e1] at e; cases e
  | some p =>
    cases e2 : pyD st dy with
    | none => rw [e1, e2] at e; cases e
    | some p' =>
      rw [e1, e2] at e
      cases e
      obtain ⟨a1, a2⟩ := pyD_ok S r1 e1
      obtain ⟨b1, b2⟩ := pyD_ok S r2 e2
      exact op_eqD hu pins s σ H x y v u Q I rx ry ⟨p, p', a1, b1, a2, b2, ok⟩
theorem cmp_ne (hu : X.A.units + 64 < cLine) : OpR X (compareOp .NotEq) (RCm X.K cNe) := by
  intro pins s σ H x y v u Q I rx ry q
  obtain ⟨as, st, dx, dy, b, S, r1, r2, e, ok⟩ := q
  unfold cNe at e
  cases e1 : pyD st dx with
  | none => rw [e1] at e; cases e
  | some p =>
    cases e2 : pyD st dy with
    | none => rw [e1, e2] at e; cases e
    | some p' =>
      rw [e1, e2] at e
      cases e
      obtain ⟨a1, a2⟩ := pyD_ok S r1 e1
      obtain ⟨b1, b2⟩ := pyD_ok S r2 e2
      exact op_neD hu pins s σ H x y v u Q I rx ry ⟨p, p', a1, b1, a2, b2, ok⟩
def isNonD : D → Bool
  | .non => true
  | _ => false
theorem isNonD_ok {K : PySem.W.Frag} {as : List Addr} {H : Hp} {v : V} {d : D} (r : Rp K as H v d) : decide (v = .non) = isNonD d := by
  cases r <;> simp [isNonD]
def cIsN : C2 := fun _ x y => match y with
  | .non => some (isNonD x)
  | _ => none
def cNotN : C2 := fun _ x y => match y with
  | .non => some (!isNonD x)
  | _ => none
theorem cmp_isN : OpR X (compareOp .Is) (RCm X.K cIsN) := by
  intro pins s σ H x y v u Q I rx ry q
  obtain ⟨as, st, dx, dy, b, S, r1, r2, e, ok⟩ := q
  cases dy with
  | non =>
    cases r2
    cases e
    refine op_isN pins s σ H _ _ v u Q I rx ry ⟨rfl, ?_⟩
    rw [isNonD_ok r1]
    exact ok
  | _ => cases e
theorem cmp_notN : OpR X (compareOp .IsNot) (RCm X.K cNotN) := by
  intro pins s σ H x y v u Q I rx ry q
  obtain ⟨as, st, dx, dy, b, S, r1, r2, e, ok⟩ := q
  cases dy with
  | non =>
    cases r2
    cases e
    refine op_notN pins s σ H _ _ v u Q I rx ry ⟨rfl, ?_⟩
    rw [isNonD_ok r1]
    exact ok
  | _ => cases e
end
/-- how a sequence lies now -/
theorem seq_now {K : PySem.W.Frag} {as : List Addr} {H : Hp} {st : Store} {v : V} {d : D} {it : Items} (S : StR K as H st) (r : Rp K as H v d) (e : seqD st d = some it) : ∃ a xs, v = .ref a ∧ (SqL K H a xs ∨ SqT K H a xs) ∧ xs.length ≤ sizeLine ∧ RpL K as H xs it.1 := by
  obtain ⟨g, a, ev, h⟩ := seq_lies S r e
  rcases h with h | ⟨_, xs, hq, z, rl⟩
  · obtain ⟨xs, hq, z, rl⟩ := h as H st (.refl _ _) S g
    exact ⟨a, xs, ev, .inl hq, z, rl⟩
  · exact ⟨a, xs, ev, .inr hq, z, rl⟩
/-- flat values, and how they are equal -/
def flatD : D → Bool
  | .non => true
  | .bl _ => true
  | .int _ => true
  | .str _ => true
  | _ => false
def eqF : D → D → Bool
  | .non, .non => true
  | .bl a, .bl b => a == b
  | .bl a, .int b => (if a then 1 else 0) == b
  | .int a, .bl b => a == (if b then 1 else 0)
  | .int a, .int b => a == b
  | .str a, .str b => a == b
  | _, _ => false
theorem flat_ok {K : PySem.W.Frag} {as : List Addr} {H : Hp} {v : V} {d : D} (r : Rp K as H v d) (f : flatD d = true) : flatV v = true := by
  cases r <;> first | rfl | cases f
theorem flats_ok {K : PySem.W.Frag} {as : List Addr} {H : Hp} : ∀ {vs : List V} {ds : List D}, RpL K as H vs ds → ds.all flatD = true → vs.all flatV = true
  | _, _, .nil, _ => rfl
  | _, _, .cons r rl, f => by
    rw [List.all_cons, Bool.and_eq_true] at f
    rw [List.all_cons, flat_ok r f.1, flats_ok rl f.2]
    rfl
theorem eqF_ok {K : PySem.W.Frag} {as : List Addr} {H : Hp} {v w : V} {d e : D} (r : Rp K as H v d) (q : Rp K as H w e) (f : flatD d = true) (f' : flatD e = true) : eqV v w = eqF d e := by
  cases r <;> first | (cases f; done) | (cases q <;> first | rfl | cases f')
theorem inF_ok {K : PySem.W.Frag} {as : List Addr} {H : Hp} {w : V} {e : D} (q : Rp K as H w e) (f' : flatD e = true) : ∀ {vs : List V} {ds : List D}, RpL K as H vs ds → ds.all flatD = true → inV w vs = ds.any fun z => eqF z e
  | _, _, .nil, _ => rfl
  | _, _, .cons r rl, f => by
    rw [List.all_cons, Bool.and_eq_true] at f
    unfold inV
    rw [List.any_cons, List.any_cons, eqF_ok r q f.1 f']
    have := inF_ok q f' rl f.2
    unfold inV at this
    rw [this]
def cInF (neg : Bool) : C2 := fun st x y => match seqD st y with
  | some it => if flatD x && it.1.all flatD then some (if neg then !it.1.any (fun z => eqF z x) else it.1.any fun z => eqF z x) else none
  | none => none
theorem cmp_inF {X : Cx} {op : CmpOp} {neg : Bool} (h : OpR X (compareOp op) (rIn X.K neg)) : OpR X (compareOp op) (RCm X.K (cInF neg)) := by
  intro pins s σ H x y v u Q I rx ry q
  obtain ⟨as, st, dx, dy, b, S, r1, r2, e, ok⟩ := q
  unfold cInF at e
  cases e1 : seqD st dy with
  | none => rw [e1] at e; cases e
  | some it =>
    rw [e1] at e
    simp only at e
    by_cases c : (flatD dx && it.1.all flatD) = true
    · rw [if_pos c] at e
      cases e
      rw [Bool.and_eq_true] at c
      obtain ⟨a, xs, ev, hq, z, rl⟩ := seq_now S r2 e1
      subst ev
      refine h pins s σ H _ _ v u Q I rx ry ⟨a, xs, rfl, hq, flat_ok r1 c.1, flats_ok rl c.2, ?_⟩
      rw [inF_ok r1 c.1 rl c.2]
      exact ok
    · rw [if_neg c] at e; cases e
end
end L2.PyD
/-! PyD, part 6b: <, >, <=, >= of ints and of nested tuples of ints. -/
namespace L2.PyD
open PySem PySem.Spec PyProof.Rows
noncomputable section
def ordI : CmpOp → Int → Int → Bool
  | .Lt => fun a b => decide (a < b)
  | .Gt => fun a b => decide (b < a)
  | .LtE => fun a b => decide (a ≤ b)
  | .GtE => fun a b => decide (b ≤ a)
  | _ => fun _ _ => false
/-- every pair that differs can be compared; the first such pair tells, or the lengths -/
def ordL (op : CmpOp) (f : PyData → PyData → Option Bool) : List PyData → List PyData → Option Bool
  | x :: xs, y :: ys => match ordL op f xs ys with
    | none => none
    | some r => if PyData.eqv x y then some r else f x y
  | [], [] => some (ordI op 0 0)
  | [], _ :: _ => some (ordI op 0 1)
  | _ :: _, [] => some (ordI op 1 0)
def ordP (op : CmpOp) : Nat → PyData → PyData → Option Bool
  | 0, .int a, .int b => some (ordI op a b)
  | _ + 1, .int a, .int b => some (ordI op a b)
  | k + 1, .tuple xs, .tuple ys => ordL op (ordP op k) xs ys
  | _, _, _ => none
theorem lex_shift (e r : Nat → Bool) (z : Bool) : ∀ k i, Ob.lexAt e r z (i + 1) k = Ob.lexAt (fun j => e (j + 1)) (fun j => r (j + 1)) z i k
  | 0, i => rfl
  | k + 1, i => by
    unfold Ob.lexAt
    rw [lex_shift e r z k (i + 1)]
def isOrd (op : CmpOp) : Prop := op = .Lt ∨ op = .Gt ∨ op = .LtE ∨ op = .GtE
theorem ordI_succ {op : CmpOp} (a b : Nat) : ordI op ((a + 1 : Nat) : Int) ((b + 1 : Nat) : Int) = ordI op (a : Int) (b : Int) := by
  cases op <;> first | rfl | (unfold ordI; exact decide_eq_decide.mpr (by omega))
theorem ordI_zero {op : CmpOp} (b : Nat) : ordI op ((0 : Nat) : Int) ((b + 1 : Nat) : Int) = ordI op 0 1 := by
  cases op <;> first | rfl | (unfold ordI; exact decide_eq_decide.mpr (by omega))
theorem ordI_one {op : CmpOp} (a : Nat) : ordI op ((a + 1 : Nat) : Int) ((0 : Nat) : Int) = ordI op 1 0 := by
  cases op <;> first | rfl | (unfold ordI; exact decide_eq_decide.mpr (by omega))
abbrev eAt (xs ys : List PyData) (j : Nat) : Bool := PyData.eqv (xs.getD j .none) (ys.getD j .none)
abbrev rAt (f : PyData → PyData → Option Bool) (xs ys : List PyData) (j : Nat) : Bool := (f (xs.getD j .none) (ys.getD j .none)).getD false
theorem ordL_lex {op : CmpOp} {f : PyData → PyData → Option Bool} : ∀ {xs ys : List PyData} {r : Bool}, ordL op f xs ys = some r →
    Ob.lexAt (eAt xs ys) (rAt f xs ys) (ordI op (xs.length : Nat) (ys.length : Nat)) 0 (min xs.length ys.length) = r ∧
      ∀ j, j < xs.length → j < ys.length → eAt xs ys j = false → ∃ b, f (xs.getD j .none) (ys.getD j .none) = some b
  | [], [], r, h => by cases h; exact ⟨rfl, fun j h => absurd h (by simp)⟩
  | [], y :: ys, r, h => by
    cases h
    exact ⟨ordI_zero ys.length, fun j h => absurd h (by simp)⟩
  | x :: xs, [], r, h => by
    cases h
    exact ⟨ordI_one xs.length, fun j _ h => absurd h (by simp)⟩
  | x :: xs, y :: ys, r, h => by
    unfold ordL at h
    cases e : ordL op f xs ys with
    | none => rw [e] at h; cases h
    | some r' =>
      rw [e] at h
      simp only at h
      obtain ⟨i1, i2⟩ := ordL_lex e
      have em : min (x :: xs).length (y :: ys).length = min xs.length ys.length + 1 := by simp only [List.length_cons]; omega
      have el : ordI op ((x :: xs).length : Nat) ((y :: ys).length : Nat) = ordI op (xs.length : Nat) (ys.length : Nat) := ordI_succ xs.length ys.length
      refine ⟨?_, fun j hx hy he => ?_⟩
      · rw [em, el]
        unfold Ob.lexAt
        rw [lex_shift]
        show (if PyData.eqv x y = true then Ob.lexAt (eAt xs ys) (rAt f xs ys) _ 0 _ else (f x y).getD false) = r
        rw [i1]
        by_cases c : PyData.eqv x y = true
        · rw [if_pos c] at h ⊢; cases h; rfl
        · rw [if_neg c] at h ⊢; rw [h]; rfl
      · cases j with
        | zero =>
          have he : PyData.eqv x y = false := he
          rw [he] at h
          exact ⟨r, h⟩
        | succ j => exact i2 j (by simpa using hx) (by simpa using hy) he
theorem all_at {h : Heap} : ∀ {vs : List Value} {ds : List PyData} {as : List Addr}, ReadsAll h vs ds as → ∀ j (hj : j < vs.length), ∃ bs, Reads h vs[j] (ds.getD j .none) bs
  | _, _, _, .cons r rl, 0, _ => ⟨_, r⟩
  | _, _, _, .cons r rl, j + 1, hj => by
    obtain ⟨bs, h⟩ := all_at rl j (by simpa using hj)
    exact ⟨bs, by simpa using h⟩
theorem lay_at : ∀ {ds : List PyData}, PyData.canLayAll0 ds = true → ∀ j, j < ds.length → (ds.getD j .none).canLay0 = true ∧ (ds.getD j .none).depth ≤ PyData.depthAll ds
  | d :: r, h, 0, _ => by
    unfold PyData.canLayAll0 at h
    rw [Bool.and_eq_true] at h
    exact ⟨h.1, by show d.depth ≤ _; unfold PyData.depthAll; omega⟩
  | d :: r, h, j + 1, hj => by
    unfold PyData.canLayAll0 at h
    rw [Bool.and_eq_true] at h
    obtain ⟨a, b⟩ := lay_at h.2 j (by simpa using hj)
    exact ⟨a, by show (r.getD j .none).depth ≤ _; unfold PyData.depthAll; omega⟩
theorem rc_tup {op : CmpOp} (ho : isOrd op) {A : Around} {s : Shared} {l b : Addr} {items items2 : Array Value} {e r : Nat → Bool} (hl : s.heap.IsTuple l items) (hb : s.heap.IsTuple b items2) (hu : A.units < cLine)
    (he : ∀ j (h1 : j < items.size) (h2 : j < items2.size), SeqAt.EqAt A.in1 s items[j] items2[j] (e j))
    (hr : ∀ j (h1 : j < items.size) (h2 : j < items2.size), e j = false → Ob.RcOp op A.in1 s items[j] items2[j] (r j)) :
    Ob.RcOp op A s (.ref l) (.ref b) (Ob.lexAt e r (ordI op (items.size : Nat) (items2.size : Nat)) 0 (min items.size items2.size)) := by
  rcases ho with ho | ho | ho | ho
  · subst ho
    have := Ob.RcOp.tuples_lt hl hb hu he hr
    have e1 : ordI .Lt (items.size : Nat) (items2.size : Nat) = decide (items.size < items2.size) := decide_eq_decide.mpr (by omega)
    rw [e1]; exact this
  · subst ho
    have := Ob.RcOp.tuples_gt hl hb hu he hr
    have e1 : ordI .Gt (items.size : Nat) (items2.size : Nat) = decide (items.size > items2.size) := decide_eq_decide.mpr (by omega)
    rw [e1]; exact this
  · subst ho
    have := Ob.RcOp.tuples_le hl hb hu he hr
    have e1 : ordI .LtE (items.size : Nat) (items2.size : Nat) = decide (items.size ≤ items2.size) := decide_eq_decide.mpr (by omega)
    rw [e1]; exact this
  · subst ho
    have := Ob.RcOp.tuples_ge hl hb hu he hr
    have e1 : ordI .GtE (items.size : Nat) (items2.size : Nat) = decide (items.size ≥ items2.size) := decide_eq_decide.mpr (by omega)
    rw [e1]; exact this
theorem rc_int {op : CmpOp} (ho : isOrd op) {A : Around} {s : Shared} (a b : Int) (t u : Tok) : Ob.RcOp op A s (.int a t) (.int b u) (ordI op a b) := by
  rcases ho with ho | ho | ho | ho
  · subst ho; exact Ob.RcOp.lt_int a b t u
  · subst ho; exact Ob.RcOp.gt_int a b t u
  · subst ho; exact Ob.RcOp.le_int a b t u
  · subst ho; exact Ob.RcOp.ge_int a b t u
theorem ordP_inv {op : CmpOp} {k : Nat} {d d' : PyData} {r : Bool} (h : ordP op k d d' = some r) : (∃ a b, d = .int a ∧ d' = .int b ∧ r = ordI op a b) ∨ ∃ k' xs ys, k = k' + 1 ∧ d = .tuple xs ∧ d' = .tuple ys ∧ ordL op (ordP op k') xs ys = some r := by
  unfold ordP at h
  split at h
  · cases h; exact .inl ⟨_, _, rfl, rfl, rfl⟩
  · cases h; exact .inl ⟨_, _, rfl, rfl, rfl⟩
  · exact .inr ⟨_, _, _, rfl, rfl, rfl, h⟩
  · cases h
theorem ordP_ok {op : CmpOp} (ho : isOrd op) : ∀ (k : Nat) {d d' : PyData} {A : Around} {s : Shared} {u v : Value} {as bs : List Addr} {r : Bool}, Reads s.heap u d as → Reads s.heap v d' bs → d.canLay0 = true → d'.canLay0 = true →
    A.units + k + d.depth < cLine → ordP op k d d' = some r → Ob.RcOp op A s u v r := by
  intro k
  induction k with
  | zero =>
    intro d d' A s u v as bs r ra rb la lb hu h
    rcases ordP_inv h with ⟨a, b, e1, e2, e3⟩ | ⟨k', _, _, e, _⟩
    · subst e1 e2 e3
      cases ra
      cases rb
      exact rc_int ho a b _ _
    · cases e
  | succ k ih =>
    intro d d' A s u v as bs r ra rb la lb hu h
    rcases ordP_inv h with ⟨a, b, e1, e2, e3⟩ | ⟨k', xs, ys, e, e1, e2, h⟩
    · subst e1 e2 e3
      cases ra
      cases rb
      exact rc_int ho a b _ _
    · cases e
      subst e1 e2
      obtain ⟨h1, h2⟩ := ordL_lex h
      have la : PyData.canLayAll0 xs = true := by unfold PyData.canLay0 at la; exact la
      have lb : PyData.canLayAll0 ys = true := by unfold PyData.canLay0 at lb; exact lb
      have hd : (PyData.tuple xs).depth = PyData.depthAll xs + 1 := by unfold PyData.depth; omega
      cases ra with
      | tuple k1 k2 k3 k4 =>
        rename_i o vs n
        cases rb with
        | tuple j1 j2 j3 j4 =>
          rename_i o' vs' n'
          have n1 : vs.size = xs.length := by simpa using SeqAt.ReadsAll.length _ _ _ k4
          have n2 : vs'.size = ys.length := by simpa using SeqAt.ReadsAll.length _ _ _ j4
          have hI : A.in1.units = A.units + 1 := rfl
          have key := rc_tup (A := A) (s := s) (e := eAt xs ys) (r := rAt (ordP op k) xs ys) ho ⟨_, k1, k2, _, k3⟩ ⟨_, j1, j2, _, j3⟩ (by omega) (fun j g1 g2 => by
              obtain ⟨l1, l2⟩ := lay_at la j (by omega)
              obtain ⟨l3, l4⟩ := lay_at lb j (by omega)
              have := (all_at k4 j (by simpa using g1)).elim fun c1 q1 => (all_at j4 j (by simpa using g2)).elim fun c2 q2 => SeqAt.eqAt_reads _ _ A.in1 s _ _ _ _ q1 q2 l1 l3 (by rw [hI]; omega)
              show SeqAt.EqAt A.in1 s _ _ (PyData.eqv (xs.getD j .none) (ys.getD j .none))
              simpa using this) (fun j g1 g2 he => by
              obtain ⟨l1, l2⟩ := lay_at la j (by omega)
              obtain ⟨l3, l4⟩ := lay_at lb j (by omega)
              obtain ⟨b, hb⟩ := h2 j (by omega) (by omega) he
              have := (all_at k4 j (by simpa using g1)).elim fun c1 q1 => (all_at j4 j (by simpa using g2)).elim fun c2 q2 => ih (A := A.in1) q1 q2 l1 l3 (by rw [hI]; omega) hb
              have eb : rAt (ordP op k) xs ys j = b := by show (ordP op k _ _).getD false = b; rw [hb]; rfl
              rw [eb]
              simpa using this)
          rw [n1, n2, h1] at key
          exact key
def cOrd (op : CmpOp) : C2 := fun st x y => match pyN st 20 x, pyN st 20 y with
  | some p, some q => ordP op 20 p q
  | _, _ => none
theorem cmp_ord {X : Cx} {op : CmpOp} (ho : isOrd op) (hc : ∀ x y, compareOp op x y = richCompare op x y) (hu : X.A.units + 64 < cLine) : OpR X (compareOp op) (RCm X.K (cOrd op)) := by
  intro pins s σ H x y v u Q I rx ry q
  obtain ⟨as, st, dx, dy, b, S, r1, r2, e, ok⟩ := q
  unfold cOrd at e
  cases e1 : pyN st 20 dx with
  | none => rw [e1] at e; cases e
  | some p =>
    cases e2 : pyN st 20 dy with
    | none => rw [e1, e2] at e; cases e
    | some p' =>
      rw [e1, e2] at e
      obtain ⟨a1, a2, a3⟩ := pyN_ok S 20 r1 e1
      obtain ⟨b1, b2, b3⟩ := pyN_ok S 20 r2 e2
      obtain ⟨cs, c1⟩ := Dp.reads I p x v a1 rx
      obtain ⟨ds, d1⟩ := Dp.reads I p' y u b1 ry
      rw [hc]
      exact ordP_ok ho 20 c1 d1 a2 b2 (by omega) e _ _ _ _ ⟨.bl b, H, I, rfl, ok⟩
theorem cmp_lt {X : Cx} (hu : X.A.units + 64 < cLine) : OpR X (compareOp .Lt) (RCm X.K (cOrd .Lt)) := cmp_ord (.inl rfl) (fun _ _ => rfl) hu
theorem cmp_gt {X : Cx} (hu : X.A.units + 64 < cLine) : OpR X (compareOp .Gt) (RCm X.K (cOrd .Gt)) := cmp_ord (.inr (.inl rfl)) (fun _ _ => rfl) hu
theorem cmp_le {X : Cx} (hu : X.A.units + 64 < cLine) : OpR X (compareOp .LtE) (RCm X.K (cOrd .LtE)) := cmp_ord (.inr (.inr (.inl rfl))) (fun _ _ => rfl) hu
theorem cmp_ge {X : Cx} (hu : X.A.units + 64 < cLine) : OpR X (compareOp .GtE) (RCm X.K (cOrd .GtE)) := cmp_ord (.inr (.inr (.inr rfl))) (fun _ _ => rfl) hu
/-- in, over data of any shape -/
def cInG (neg : Bool) : C2 := fun st x y => match pyN st 20 x, pyN st 20 y with
  | some d, some (.list xs) => some (if neg then !(xs.any fun z => PyData.eqv z d) else xs.any fun z => PyData.eqv z d)
  | some d, some (.tuple xs) => some (if neg then !(xs.any fun z => PyData.eqv z d) else xs.any fun z => PyData.eqv z d)
  | _, _ => none
theorem cmp_inG {X : Cx} (hu : X.A.units + 64 < cLine) : OpR X (compareOp .In) (RCm X.K (cInG false)) := by
  intro pins s σ H x y v u Q I rx ry q
  obtain ⟨as, st, dx, dy, b, S, r1, r2, e, ok⟩ := q
  unfold cInG at e
  cases e1 : pyN st 20 dx with
  | none => rw [e1] at e; cases e
  | some d =>
    cases e2 : pyN st 20 dy with
    | none => rw [e1, e2] at e; cases e
    | some c =>
      rw [e1, e2] at e
      obtain ⟨a1, a2, a3⟩ := pyN_ok S 20 r1 e1
      obtain ⟨b1, b2, b3⟩ := pyN_ok S 20 r2 e2
      obtain ⟨as1, R1⟩ := Dp.reads I d _ _ a1 rx
      obtain ⟨as2, R2⟩ := Dp.reads I c _ _ b1 ry
      have pd := PySem.PyData.plain_of_canLay0 d a2
      have pc := PySem.PyData.plain_of_canLay0 c b2
      cases c with
      | list xs =>
        cases e
        exact SeqAt.in_list_data R2 R1 (by simpa [PyData.plain] using pc) pd (by omega) ⟨.bl _, H, I, rfl, ok⟩
      | tuple xs =>
        cases e
        exact SeqAt.in_tuple_data R2 R1 (by simpa [PyData.plain] using pc) pd (by omega) ⟨.bl _, H, I, rfl, ok⟩
      | _ => cases e
theorem cmp_ninG {X : Cx} (hu : X.A.units + 64 < cLine) : OpR X (compareOp .NotIn) (RCm X.K (cInG true)) := by
  intro pins s σ H x y v u Q I rx ry q
  obtain ⟨as, st, dx, dy, b, S, r1, r2, e, ok⟩ := q
  unfold cInG at e
  cases e1 : pyN st 20 dx with
  | none => rw [e1] at e; cases e
  | some d =>
    cases e2 : pyN st 20 dy with
    | none => rw [e1, e2] at e; cases e
    | some c =>
      rw [e1, e2] at e
      obtain ⟨a1, a2, a3⟩ := pyN_ok S 20 r1 e1
      obtain ⟨b1, b2, b3⟩ := pyN_ok S 20 r2 e2
      obtain ⟨as1, R1⟩ := Dp.reads I d _ _ a1 rx
      obtain ⟨as2, R2⟩ := Dp.reads I c _ _ b1 ry
      have pd := PySem.PyData.plain_of_canLay0 d a2
      have pc := PySem.PyData.plain_of_canLay0 c b2
      cases c with
      | list xs =>
        cases e
        exact SeqAt.notIn_list_data R2 R1 (by simpa [PyData.plain] using pc) pd (by omega) ⟨.bl _, H, I, rfl, ok⟩
      | tuple xs =>
        cases e
        exact SeqAt.notIn_tuple_data R2 R1 (by simpa [PyData.plain] using pc) pd (by omega) ⟨.bl _, H, I, rfl, ok⟩
      | _ => cases e
def cIn : C2 := fun st x y => match gDict st y x with
  | some o => some o.isSome
  | none => cOr (cInF false) (cInG false) st x y
def cNotIn : C2 := fun st x y => match gDict st y x with
  | some o => some (!o.isSome)
  | none => cOr (cInF true) (cInG true) st x y
/-- the comparisons that are served -/
def cmpG : CmpOp → Option C2
  | .Lt => some (cOr (cI fun i j => decide (i < j)) (cOrd .Lt))
  | .LtE => some (cOr (cI fun i j => decide (i ≤ j)) (cOrd .LtE))
  | .Gt => some (cOr (cI fun i j => decide (j < i)) (cOrd .Gt))
  | .GtE => some (cOr (cI fun i j => decide (j ≤ i)) (cOrd .GtE))
  | .Eq => some cEq
  | .NotEq => some cNe
  | .Is => some cIsN
  | .IsNot => some cNotN
  | .In => some cIn
  | .NotIn => some cNotIn
theorem cmpG_ok {X : Cx} (hu : X.A.units + 64 < cLine) : ∀ {op : CmpOp} {g : C2}, cmpG op = some g → OpR X (compareOp op) (RCm X.K g)
  | .Lt, _, h => by cases h; exact cmpOr (cmpI op_lt) (cmp_lt hu)
  | .LtE, _, h => by cases h; exact cmpOr (cmpI op_le) (cmp_le hu)
  | .Gt, _, h => by cases h; exact cmpOr (cmpI op_gt) (cmp_gt hu)
  | .GtE, _, h => by cases h; exact cmpOr (cmpI op_ge) (cmp_ge hu)
  | .Eq, _, h => by cases h; exact cmp_eq hu
  | .NotEq, _, h => by cases h; exact cmp_ne hu
  | .Is, _, h => by cases h; exact cmp_isN
  | .IsNot, _, h => by cases h; exact cmp_notN
  | .In, _, h => by
    cases h
    intro pins s σ H x y v u Q I rx ry q
    obtain ⟨as, st, dx, dy, b, S, r1, r2, e, ok⟩ := q
    unfold cIn at e
    cases e1 : gDict st dy dx with
    | none => rw [e1] at e; exact cmpOr (cmp_inF op_in_seq) (cmp_inG hu) pins s σ H x y v u Q I rx ry ⟨as, st, dx, dy, b, S, r1, r2, e, ok⟩
    | some o => rw [e1] at e; exact op_in_dct (by omega) pins s σ H x y v u Q I rx ry ⟨as, st, dx, dy, b, S, r1, r2, by simp only [e1, Option.map_some]; exact e, ok⟩
  | .NotIn, _, h => by
    cases h
    intro pins s σ H x y v u Q I rx ry q
    obtain ⟨as, st, dx, dy, b, S, r1, r2, e, ok⟩ := q
    unfold cNotIn at e
    cases e1 : gDict st dy dx with
    | none => rw [e1] at e; exact cmpOr (cmp_inF op_notIn_seq) (cmp_ninG hu) pins s σ H x y v u Q I rx ry ⟨as, st, dx, dy, b, S, r1, r2, e, ok⟩
    | some o => rw [e1] at e; exact op_notin_dct (by omega) pins s σ H x y v u Q I rx ry ⟨as, st, dx, dy, b, S, r1, r2, by simp only [e1, Option.map_some]; exact e, ok⟩
end
end L2.PyD
/-! PyD, part 6c: tuples and lists times an int. -/
namespace L2.PyD
open PySem PySem.Spec PyProof.Rows
noncomputable section
theorem tuple_mulS (l : Addr) (items : Array Value) (n : Nat) (dd : Option Addr) (sl : Array (Option Value)) (x : Int) (u : Tok) (c0 : (decide (x < -(2 ^ 63)) || decide (x ≥ 2 ^ 63)) = false) (c1 : (items.isEmpty || x == 1) = true) :
    Meets (Builtin.«tuple.__mul__» ⟨[.ref l, .int x u], []⟩) (fun _ R s => s.heap.get? l = some { cls := .type "tuple", dict := dd, data := .seq items n, slots := sl } ∧ R (.ok (.ret (Value.ref l))) s) :=
  .of_wp fun prog w A R s h => by
    obtain ⟨hp, g, d, tk, os⟩ := s
    obtain ⟨hl, h⟩ := h
    have f1 := AutoSeq1.idx_int
    wp_walk using wpAny_loadPart' hl
    repeat (first
      | (refine wpAny_ite_false (decide_eq_false (by rw [c0]; exact Bool.false_ne_true)) ?_; wp_walk using wpAny_loadPart' hl)
      | (refine wpAny_ite_true (decide_eq_true c1) ?_; wp_walk using wpAny_loadPart' hl))
    exact ⟨_, rfl, h⟩
theorem tuple_mulZ (l : Addr) (items : Array Value) (n : Nat) (dd : Option Addr) (sl : Array (Option Value)) (x : Int) (u : Tok) (c0 : (decide (x < -(2 ^ 63)) || decide (x ≥ 2 ^ 63)) = false) (c1 : (items.isEmpty || x == 1) = false) (c2 : (decide (x ≤ 0) || items.isEmpty) = true) :
    Meets (Builtin.«tuple.__mul__» ⟨[.ref l, .int x u], []⟩) (fun _ R s => s.heap.get? l = some { cls := .type "tuple", dict := dd, data := .seq items n, slots := sl } ∧
      R (.ok (.ret (Value.ref s.heap.objs.size))) { s with heap := s.heap.push { cls := Value.type "tuple", data := Data.seq #[] }, toks := s.toks }) :=
  .of_wp fun prog w A R s h => by
    obtain ⟨hp, g, d, tk, os⟩ := s
    obtain ⟨hl, h⟩ := h
    have f1 := AutoSeq1.idx_int
    wp_walk using wpAny_loadPart' hl
    repeat (first
      | (refine wpAny_ite_false (decide_eq_false (by rw [c0]; exact Bool.false_ne_true)) ?_; wp_walk using wpAny_loadPart' hl)
      | (refine wpAny_ite_false (decide_eq_false (by rw [c1]; exact Bool.false_ne_true)) ?_; wp_walk using wpAny_loadPart' hl)
      | (refine wpAny_ite_true (decide_eq_true c2) ?_; wp_walk using wpAny_loadPart' hl)
      | (refine wpAny_ite_false (decide_eq_false (Nat.not_lt.mpr (by decide))) ?_; wp_walk using wpAny_loadPart' hl))
    exact ⟨_, rfl, h⟩
def repOk (n : Nat) (k : Int) : Prop := n ≤ 1000 ∧ -1000 ≤ k ∧ k ≤ 1000
def gRepT : G2 := fun _ x y => match x, y with
  | .tup ds, .int k => if dec (repOk ds.length k) then some (.val (.tup (List.replicate k.toNat ds).flatten)) else none
  | _, _ => none
theorem RpL.rep {K : PySem.W.Frag} {as : List Addr} {H : Hp} {vs : List V} {ds : List D} (r : RpL K as H vs ds) : ∀ n : Nat, RpL K as H (List.replicate n vs).flatten (List.replicate n ds).flatten
  | 0 => .nil
  | n + 1 => by
    rw [List.replicate_succ, List.replicate_succ, List.flatten_cons, List.flatten_cons]
    exact r.append (RpL.rep r n)
theorem op_mulT {X : Cx} : OpR X (binaryOp .Mult) (RB X.K gRepT) := by
  intro pins s σ H x y v u Q I rx ry q
  obtain ⟨as, st, dx, dy, rv, S, r1, r2, e, ok⟩ := q
  cases dx with
  | tup ds =>
    cases dy with
    | int k =>
      cases r1 with
      | tup h1 z1 l1 =>
      rename_i l xs
      by_cases c : dec (repOk ds.length k) = true
      · have e' : gRepT st (.tup ds) (.int k) = some (.val (.tup (List.replicate k.toNat ds).flatten)) := if_pos c
        rw [e'] at e
        cases e
        obtain ⟨c1, c2, c3⟩ := of_dec c
        have hlen := l1.length
        cases r2
        by_cases hne : xs = []
        · subst hne
          cases l1
          obtain ⟨t, rfl⟩ := ry
          cases rx
          obtain ⟨its, r, ⟨⟨cls, dd, data, sl⟩, ho, hc, n, hd⟩, hs⟩ := I.tuple h1
          simp only at hc hd
          subst hc hd
          have hits : its = [] := by cases r; rfl
          subst hits
          have cc0 : (decide (k < -(2 ^ 63)) || decide (k ≥ 2 ^ 63)) = false := by
            rw [decide_eq_false (by omega), decide_eq_false (by omega)] <;> rfl
          refine wpAny_binaryOp_repeat_ref (T := "tuple") (U := "int") (by decide) ⟨_, ho, rfl⟩ (fun s' => typeIs_int s' k t) noFill_tuple_mul F.fills_int_mul F.slot_int_rmul repeat_tuple F.slot_int_index.lookup
            (call_meets F.slot_int_rmul (typeIs_int s k t) F.entry_int_rmul (F.args_int_rmul_2 _ _) (int_rmul_tuple k t l _ n dd sl)
              ⟨ho, rfl, ⟨_, ho, rfl⟩, call_meets F.slot_tuple_mul ⟨_, ho, rfl⟩ F.entry_tuple_mul (F.args_tuple_mul_2 _ _) (tuple_mulS l _ n dd sl k t cc0 rfl) ⟨ho, ?_⟩⟩)
          refine ⟨.ref l, H, I, rfl, rv_val S ok ?_⟩
          have : (List.replicate k.toNat ([] : List D)).flatten = [] := by simp
          rw [this]
          exact .tup h1 z1 .nil
        · by_cases h2 : 2 ≤ k
          · refine op_repT pins s σ H _ _ v u Q I rx ry ⟨l, k, xs, rfl, rfl, h1, hne, h2, c3, by omega, fun p hp => ?_⟩
            obtain ⟨x1, s1⟩ := S.alloc (.tup (List.replicate k.toNat xs).flatten) hp
            refine ok _ _ x1 s1 (.tup (SqT.of upd_same) ?_ ((RpL.ext x1 l1).rep _))
            rw [PyProof.Rows.lm_len_rep_flat, sizeLine_eq]
            have a1 : k.toNat * xs.length ≤ 1000 * 1000 := Nat.mul_le_mul (by omega) (by omega)
            omega
          · obtain ⟨t, rfl⟩ := ry
            cases rx
            obtain ⟨its, r, ⟨⟨cls, dd, data, sl⟩, ho, hc, n, hd⟩, hs⟩ := I.tuple h1
            simp only at hc hd
            subst hc hd
            have cc0 : (decide (k < -(2 ^ 63)) || decide (k ≥ 2 ^ 63)) = false := by
              rw [decide_eq_false (by omega), decide_eq_false (by omega)] <;> rfl
            have hi : its.toArray.isEmpty = false := by
              cases r with
              | nil => exact absurd rfl hne
              | cons _ _ => rfl
            by_cases h3 : k = 1
            · subst h3
              refine wpAny_binaryOp_repeat_ref (T := "tuple") (U := "int") (by decide) ⟨_, ho, rfl⟩ (fun s' => typeIs_int s' 1 t) noFill_tuple_mul F.fills_int_mul F.slot_int_rmul repeat_tuple F.slot_int_index.lookup
                (call_meets F.slot_int_rmul (typeIs_int s 1 t) F.entry_int_rmul (F.args_int_rmul_2 _ _) (int_rmul_tuple 1 t l _ n dd sl)
                  ⟨ho, rfl, ⟨_, ho, rfl⟩, call_meets F.slot_tuple_mul ⟨_, ho, rfl⟩ F.entry_tuple_mul (F.args_tuple_mul_2 _ _) (tuple_mulS l _ n dd sl 1 t cc0 (by rw [hi]; rfl)) ⟨ho, ?_⟩⟩)
              refine ⟨.ref l, H, I, rfl, rv_val S ok ?_⟩
              have : (List.replicate (1 : Int).toNat ds).flatten = ds := by simp
              rw [this]
              exact .tup h1 z1 l1
            · have c4 : (its.toArray.isEmpty || k == 1) = false := by
                rw [hi, Bool.false_or]
                exact beq_eq_false_iff_ne.mpr h3
              have c5 : (decide (k ≤ 0) || its.toArray.isEmpty) = true := by
                rw [decide_eq_true (by omega)]
                rfl
              refine wpAny_binaryOp_repeat_ref (T := "tuple") (U := "int") (by decide) ⟨_, ho, rfl⟩ (fun s' => typeIs_int s' k t) noFill_tuple_mul F.fills_int_mul F.slot_int_rmul repeat_tuple F.slot_int_index.lookup
                (call_meets F.slot_int_rmul (typeIs_int s k t) F.entry_int_rmul (F.args_int_rmul_2 _ _) (int_rmul_tuple k t l _ n dd sl)
                  ⟨ho, rfl, ⟨_, ho, rfl⟩, call_meets F.slot_tuple_mul ⟨_, ho, rfl⟩ F.entry_tuple_mul (F.args_tuple_mul_2 _ _) (tuple_mulZ l _ n dd sl k t cc0 c4 c5) ⟨ho, ?_⟩⟩)
              have hp := I.hok.fresh (Nat.le_refl s.heap.objs.size)
              obtain ⟨x1, s1⟩ := S.alloc (.tup []) hp
              refine ⟨.ref s.heap.objs.size, _, I.laid (t' := s.toks) (o := .tup []) (fun b ob q => Heap.get?_push_of_some _ q) (Nat.le_refl _) ⟨Nat.zero_le _, [], .nil, IsTup.new _ _⟩, rfl, ?_⟩
              have : (List.replicate k.toNat ds).flatten = [] := by
                rw [show k.toNat = 0 by omega]
                rfl
              rw [this] at ok
              exact ok _ _ x1 s1 (.tup (SqT.of upd_same) (Nat.zero_le _) .nil)
      · have e' : gRepT st (.tup ds) (.int k) = none := if_neg c
        rw [e'] at e
        cases e
    | _ => cases e
  | _ => cases e
def gRepL : G2 := fun st x y => match viewL st x, y with
  | some ds, .int k => if dec (repOk ds.length k) then some (.newL (List.replicate k.toNat ds).flatten) else none
  | _, _ => none
theorem op_mulL {X : Cx} : OpR X (binaryOp .Mult) (RB X.K gRepL) := by
  intro pins s σ H x y v u Q I rx ry q
  obtain ⟨as, st, dx, dy, rv, S, r1, r2, e, ok⟩ := q
  unfold gRepL at e
  cases e1 : viewL st dx with
  | none => rw [e1] at e; cases dy <;> cases e
  | some ds =>
    rw [e1] at e
    cases dy with
    | int k =>
      simp only at e
      by_cases c : dec (repOk ds.length k) = true
      · rw [if_pos c] at e
        cases e
        obtain ⟨c1, c2, c3⟩ := of_dec c
        obtain ⟨p, xs, ev, hp, z, rl⟩ := viewL_ok S r1 e1
        subst ev
        have hlen := rl.length
        have hz : xs.length * k.toNat ≤ sizeLine := by
          rw [sizeLine_eq]
          have a1 : xs.length * k.toNat ≤ 1000 * 1000 := Nat.mul_le_mul (by omega) (by omega)
          omega
        cases r2
        refine op_rep pins s σ H _ _ v u Q I rx ry ⟨p, k, xs, rfl, rfl, hp, by omega, by omega, hz, fun q hq => ?_⟩
        exact ok q _ hq (by rw [PyProof.Rows.lm_len_rep_flat, Nat.mul_comm]; exact hz) (rl.rep _)
      · rw [if_neg c] at e; cases e
    | _ => cases e
def gMul : G2 := gOr gMulI (gOr gRepT gRepL)
/-- the operators that are served -/
def binG : Operator → Option G2
  | .Add => some gAdd
  | .Sub => some gSub
  | .Mult => some gMul
  | .FloorDiv => some gDiv
  | .Mod => some gMod
  | .Pow => some gPow
  | _ => none
theorem binG_ok {X : Cx} : ∀ {op : Operator} {g : G2}, binG op = some g → OpR X (binaryOp op) (RB X.K g)
  | .Add, _, h => by cases h; exact opOr (opI' op_addI) (opOr op_addT (opOr op_addS op_addL))
  | .Sub, _, h => by cases h; exact opI' op_subI
  | .Mult, _, h => by cases h; exact opOr (opI' op_mulI) (opOr op_mulT op_mulL)
  | .FloorDiv, _, h => by cases h; exact opI' op_divI
  | .Mod, _, h => by cases h; exact opI' op_modI
  | .Pow, _, h => by cases h; exact opI' op_powI
def gNeg : Store → D → Option Rv := fun _ x => match x with
  | .int i => some (.val (.int (-i)))
  | _ => none
theorem op_neg' {X : Cx} : UnR X (unaryOp .USub) (RU X.K gNeg) := by
  intro pins s σ H x v Q I rx q
  obtain ⟨as, st, dx, rv, S, r1, e, ok⟩ := q
  cases dx with
  | int i =>
    cases e
    cases r1
    exact un_neg pins s σ H _ v Q I rx ⟨i, rfl, rv_val S ok (.int _)⟩
  | _ => cases e

end
end L2.PyD
/-! PyD, part 7a: slices. -/
namespace L2.PyD
open PySem PySem.Spec PyProof.Rows
noncomputable section
theorem adjust_dn (n : Nat) : Builtin.Slice.sliceAdjust none none (-1) (n : Int) = ((n : Int) - 1, -1) := by
  unfold Builtin.Slice.sliceAdjust
  have h1 : ((-1 : Int) < 0) := by decide
  simp only [h1, if_true]
theorem places_dn (n : Nat) : Builtin.Slice.slicePlaces ((n : Int) - 1) (-1) (-1) = n := by
  unfold Builtin.Slice.slicePlaces
  have h1 : ¬ ((-1 : Int) > 0) := by decide
  simp only [h1, if_false]
  simp only [Int.neg_neg, Int.ediv_one]
  split <;> omega
theorem pick_dn (xs : Array Value) : ((List.range xs.size).filterMap fun (m : Nat) => xs[(((xs.size : Int) - 1) + (m : Int) * (-1)).toNat]?).toArray = xs.toList.reverse.toArray := by
  rw [← PySem.W.krv_pick]
  unfold slicePick
  rw [PySem.W.krv_bounds]
  simp only
  rw [PySem.W.krv_sliceRange, List.filterMap_map]
  have hf : (fun (m : Nat) => xs[(((xs.size : Int) - 1) + (m : Int) * (-1)).toNat]?) = ((fun x => xs[x]?) ∘ fun k => xs.size - 1 - k) := by
    funext m
    have e : (((xs.size : Int) - 1) + (m : Int) * (-1)).toNat = xs.size - 1 - m := by omega
    rw [e]
    rfl
  rw [hf]
section
variable {prog : Program} {w : World} {A : Around} {E : Value → Shared → Prop} {s : Shared}
theorem applied_dn {sl : Addr} {vl vu vs : Value} {n : Nat} {Q : Int × Int × Nat → Shared → Prop} (hs : s.heap.IsSliceOf sl vl vu vs) (pl : IsPart vl none) (pu : IsPart vu none) (ps : IsPart vs (some (-1)))
    (h : Q ((n : Int) - 1, -1, n) s) : wpAny (model prog w) A (Builtin.Slice.sliceApplied (.ref sl) (pure (n : Int))) Q E s := by
  obtain ⟨os, hos, _, hds⟩ := id hs
  unfold Builtin.Slice.sliceApplied
  unfold Builtin.Slice.sliceFields
  refine wpAny_bind (wpAny_bind (wpAny_field hos hds (x := vl) rfl (wpAny_bind (wpAny_field hos hds (x := vu) rfl (wpAny_bind (wpAny_field hos hds (x := vs) rfl (wpAny_pure ?_)))))))
  refine wpAny_bind (HT.slicePart_ ps ?_)
  show wpAny _ _ (if ((-1 : Int) == 0) = true then _ else _) _ _ s
  rw [if_neg (by decide)]
  refine wpAny_bind (HT.slicePart_ pl (wpAny_bind (HT.slicePart_ pu (wpAny_bind (wpAny_pure ?_)))))
  show wpAny _ _ (match Builtin.Slice.sliceAdjust none none (-1) (n : Int) with | (lo, hi) => pure (lo, (-1 : Int), Builtin.Slice.slicePlaces lo hi (-1))) _ _ s
  rw [adjust_dn]
  show wpAny _ _ (pure ((n : Int) - 1, (-1 : Int), Builtin.Slice.slicePlaces ((n : Int) - 1) (-1) (-1))) _ _ s
  rw [places_dn]
  exact wpAny_pure h
theorem getItem_tupRev {t sl : Addr} {items : Array Value} {vl vu vs : Value} {Q : Value → Shared → Prop} (ht : IsTup s.heap t items) (hs : s.heap.IsSliceOf sl vl vu vs) (pl : IsPart vl none) (pu : IsPart vu none) (ps : IsPart vs (some (-1)))
    (h : Q (.ref s.heap.objs.size) { s with heap := s.heap.push { cls := .type "tuple", data := .seq items.toList.reverse.toArray } }) (hsz : items.size ≤ sizeLine) : wpAny (model prog w) A (getItem (.ref t) (.ref sl)) Q E s := by
  have hok : sizeOk (.seq items.toList.reverse.toArray) := by
    show items.toList.reverse.toArray.size ≤ sizeLine
    rw [List.size_toArray, List.length_reverse, Array.length_toList]
    exact hsz
  obtain ⟨os, hos, hcs, hds⟩ := id hs
  have hT : s.TypeIs (.ref sl) "slice" := ⟨os, hos, hcs⟩
  unfold getItem
  try with_reducible refine wpAny_holding ?_
  first | refine wpAny_bind (wpAny_pure ?_) | skip
  refine wpAny_bind (wpAny_sequenceKey ht.typeIs (by decide) ?_)
  refine wpAny_bind (wpAny_callSpecial?_slot (name := Str.ofString "__getitem__") ht.typeIs PyProof.Rows.slot_tuple_getitem (wpAny_call_entry PyProof.Rows.slot_tuple_getitem ht.typeIs entry_tuple_getitem ?_ (args_tuple_getitem _ _)))
  show wpAny _ _ (Builtin.Tuple.tupleItemsOf (.ref t) >>= _) _ _ s
  refine wpAny_bind (tupleItemsOf_ ht ?_)
  refine wpAny_bind (wpAny_typeOf hT ?_)
  rw [if_pos (by decide)]
  refine wpAny_bind (applied_dn hs pl pu ps ?_)
  have hno : ¬ (((items.size : Int) - 1 == 0 && (-1 : Int) == 1 && items.size == items.size) = true) := by
    intro q
    rw [Bool.and_eq_true, Bool.and_eq_true] at q
    exact absurd q.1.2 (by decide)
  show wpAny _ _ (if ((items.size : Int) - 1 == 0 && (-1 : Int) == 1 && items.size == items.size) = true then _ else _) _ _ s
  rw [if_neg hno, pick_dn]
  first
    | exact wpAny_bind (m := Builtin.Tuple.tupleExact _) (wpAny_newObj_type (wpAny_pure ⟨_, rfl, wpAny_pure h⟩) hok)
    | exact wpAny_bind (m := Builtin.Tuple.tupleExact _) (wpAny_newObj_type (wpAny_bind (wpAny_pure (wpAny_pure ⟨_, rfl, wpAny_pure h⟩))) hok)
    | exact wpAny_bind (wpAny_bind (m := Builtin.Tuple.tupleExact _) (wpAny_newObj_type (wpAny_pure (wpAny_pure ⟨_, rfl, wpAny_pure h⟩)) hok))
    | exact wpAny_bind (wpAny_bind (m := Builtin.Tuple.tupleExact _) (wpAny_newObj_type (wpAny_pure ⟨_, rfl, wpAny_pure h⟩) hok))
end
/-! ### o[lo:hi], o[::-1] -/
abbrev DenO := Env → Store → Out (Option Int)
def oNo : DenO := fun _ st => .ok none st
def intO : D → Option Int
  | .int i => some i
  | _ => none
def oYes (f : Den) : DenO := fun env st => (f env st).bind fun d st1 => match intO d with
  | some i => .ok (some i) st1
  | none => .bad
def cutD (ds : List D) (lo hi : Option Int) : List D := (ds.drop (HT.sIx ds.length 0 lo)).take (HT.sIx ds.length ds.length hi - HT.sIx ds.length 0 lo)
theorem RpL.cutV {K : PySem.W.Frag} {as : List Addr} {H : Hp} {vs : List V} {ds : List D} (r : RpL K as H vs ds) (lo hi : Option Int) : RpL K as H (L2.cutV vs lo hi) (cutD ds lo hi) := by
  unfold L2.cutV cutD
  rw [r.length]
  exact RpL.take _ (RpL.drop _ r)
theorem RpL.rev {K : PySem.W.Frag} {as : List Addr} {H : Hp} : ∀ {vs : List V} {ds : List D}, RpL K as H vs ds → RpL K as H vs.reverse ds.reverse
  | _, _, .nil => .nil
  | _, _, .cons h r => by
    rw [List.reverse_cons, List.reverse_cons]
    exact (RpL.rev r).append (.one h)
def gSl (st : Store) (x : D) (lo hi : Option Int) : Option Rv := match x with
  | .tup ds => some (.val (.tup (cutD ds lo hi)))
  | _ => match seqD st x with
    | some it => some (.newL (cutD it.1 lo hi))
    | none => none
def gRv : Store → D → Option Rv := fun st x => match x with
  | .tup ds => some (.val (.tup ds.reverse))
  | _ => match seqD st x with
    | some it => some (.newL it.1.reverse)
    | none => none
theorem gSl_L {st : Store} {x : D} {lo hi : Option Int} (h : lstO x = true) : gSl st x lo hi = match seqD st x with
    | some it => some (.newL (cutD it.1 lo hi))
    | none => none := by
  cases x <;> first | rfl | cases h
theorem gRv_L {st : Store} {x : D} (h : lstO x = true) : gRv st x = match seqD st x with
    | some it => some (.newL it.1.reverse)
    | none => none := by
  cases x <;> first | rfl | cases h
theorem lstO_not {x : D} (h : ¬ lstO x = true) : ∃ ds, x = .tup ds := by
  cases x <;> first | exact ⟨_, rfl⟩ | exact absurd rfl h
def dSlc (mu : Bool) (fa : Den) (fl fh : DenO) : Den := fun env st => (fa env st).bind fun x st1 => (fl env st1).bind fun l st2 => (fh env st2).bind fun h st3 => fin mu (gSl st3 x l h) st3
section
variable {X : Cx} {W : WX} {pos : Pos}
/-- a part's reading -/
def RO (K : PySem.W.Frag) (mg : Str → Option Value) (W : WX) (f : DenO) : TO := fun σ H Q => ∃ as env st, EnvR K as H σ env ∧ StR K as H st ∧ (f env st).wp (fun r st' => ∀ as' H', Ext as H as' H' → StR K as' H' st' → Q r H') (WE K mg W as H σ)
theorem ro_then {α : Type} {K : PySem.W.Frag} {mg : Str → Option Value} {W : WX} {as : List Addr} {env : Env} {H : Hp} {σ : St} {st : Store} {fa : DenO} {k : Option Int → Store → Out α} {P : α → Store → Prop} {Q : Option Int → Hp → Prop} (E : EnvR K as H σ env) (S : StR K as H st)
    (h : ((fa env st).bind k).wp P (WE K mg W as H σ))
    (hk : ∀ r st1 as1 H1, Ext as H as1 H1 → EnvR K as1 H1 σ env → StR K as1 H1 st1 → (k r st1).wp P (WE K mg W as1 H1 σ) → Q r H1) : RO K mg W fa σ H Q :=
  ⟨as, env, st, E, S, Out.wp_mono (Out.wp_bind h) (fun r st1 _ h1 as1 H1 x s => hk r st1 as1 H1 x (E.ext x) s (Out.wp_mono h1 (fun _ _ _ z => z) fun _ _ _ z => z.ext x)) fun _ _ _ z => z⟩
theorem PO.re {e : Option Expr} {t t' : TO} (h : PO X e t) (i : ∀ σ H Q, t' σ H Q → t σ H Q) : PO X e t' := ⟨fun pins s σ H Q I q => h.run pins s σ H Q I (i σ H Q q)⟩
theorem po_no' : PO X none (RO X.K X.mg W oNo) := PO.re po_none fun σ H Q h => by
  obtain ⟨as, env, st, E, S, h⟩ := h
  exact h as H (.refl _ _) S
theorem po_yes' {e : Expr} {f : Den} (he : PE X e (RE X.K X.mg W f)) : PO X (some e) (RO X.K X.mg W (oYes f)) := PO.re (po_some he) fun σ H Q h => by
  obtain ⟨as, env, st, E, S, h⟩ := h
  refine re_then E S h fun r st1 as1 H1 v x1 E1 S1 r1 h1 => ?_
  cases r1 with
  | int i => exact ⟨i, rfl, h1 as1 H1 x1 S1⟩
  | _ => exact h1.elim
def RSl (K : PySem.W.Frag) : V → Option Int → Option Int → Hp → VK → Prop := fun x lo hi H Q => ∃ as st dx rv, StR K as H st ∧ Rp K as H x dx ∧ gSl st dx lo hi = some rv ∧ RvOk K as H st rv Q
theorem sl_ok : SlR X (RSl X.K) := by
  intro pins s σ H x v vl vu lo hi sl Q I rx hs pl pu h
  obtain ⟨as, st, dx, rv, S, r, e, ok⟩ := h
  by_cases hl : lstO dx = true
  · rw [gSl_L hl] at e
    cases e1 : seqD st dx with
    | none => rw [e1] at e; cases e
    | some it =>
      rw [e1] at e
      cases e
      obtain ⟨g, a, ev, hh⟩ := seq_liesL hl S r e1
      subst ev
      obtain ⟨xs, hq, z, rl⟩ := hh as H st (.refl _ _) S g
      exact sl_list pins s σ H _ v vl vu lo hi sl Q I rx hs pl pu ⟨a, xs, rfl, hq, fun p hp => ok p _ hp (Nat.le_trans (cutV_length xs lo hi) z) (rl.cutV lo hi)⟩
  · obtain ⟨ds, ed⟩ := lstO_not hl
    subst ed
    cases e
    cases r with
    | tup h z rl =>
      refine sl_tupA pins s σ H _ v vl vu lo hi sl Q I rx hs pl pu ⟨_, _, rfl, h, fun hw => ?_, fun hw p hp => ?_⟩
      · have ec := rl.cutV lo hi
        have e2 : ∀ xs : List V, (HT.sIx xs.length 0 lo = 0 ∧ HT.sIx xs.length xs.length hi = xs.length) → L2.cutV xs lo hi = xs := fun xs hw => by
          unfold L2.cutV
          rw [hw.1, hw.2, List.drop_zero, Nat.sub_zero, List.take_length]
        rw [e2 _ hw] at ec
        exact ok H _ (.refl _ _) S (.tup h z ec)
      · obtain ⟨x, SS⟩ := S.alloc (.tup (L2.cutV _ lo hi)) hp
        exact ok _ _ x SS (.tup (SqT.of upd_same) (Nat.le_trans (cutV_length _ lo hi) z) (RpL.ext x (rl.cutV lo hi)))
theorem pe_slc' {e : Expr} {lo hi : Option Expr} {p2 : Pos} {mu : Bool} {fa : Den} {fl fh : DenO} (he : PE X e (RE X.K X.mg W fa)) (hl : PO X lo (RO X.K X.mg W fl)) (hu : PO X hi (RO X.K X.mg W fh)) : PE X (.Subscript e (.Slice lo hi none p2) pos) (RE X.K X.mg W (dSlc mu fa fl fh)) :=
  PE.re (pe_slice sl_ok he hl hu) fun σ H Q h => by
    obtain ⟨as, env, st, E, S, h⟩ := h
    refine re_then E S h fun r st1 as1 H1 v x1 E1 S1 r1 h1 => ro_then E1 S1 h1 fun l st2 as2 H2 x2 E2 S2 h2 => ro_then E2 S2 h2 fun u st3 as3 H3 x3 E3 S3 h3 => ?_
    obtain ⟨rv, e, q⟩ := fin_ok S3 (Out.wp_mono h3 (fun _ _ _ z => z.ext ((x1.trans x2).trans x3)) fun _ _ _ z => z)
    exact ⟨as3, st3, r, rv, S3, Rp.ext (x2.trans x3) r1, e, q⟩
/-- the tuple's part of o[::-1] -/
theorem pe_rev' {e : Expr} {f : Den} {mu : Bool} {k : Nat} {p1 p2 p3 : Pos} (he : PE X e (RE X.K X.mg W f)) : PE X (.Subscript e (.Slice none none (some (.UnaryOp .USub (.Constant (.int 1) k p1) p2)) p3) pos) (RE X.K X.mg W (dUn mu gRv f)) := by
  constructor
  intro pins s σ H Q I h
  obtain ⟨as, env, st, E, S, h⟩ := h
  have hr : RE X.K X.mg W f σ H (fun v H1 => RU X.K gRv v H1 Q) := by
    refine re_then E S h fun r st1 as1 H1 v x1 E1 S1 r1 h1 => ?_
    obtain ⟨rv, e, q⟩ := fin_ok S1 (Out.wp_mono h1 (fun _ _ _ z => z.ext x1) fun _ _ _ z => z)
    exact ⟨as1, st1, r, rv, S1, r1, e, q⟩
  refine Subscript_ (thn (he.run pins s σ H _ I hr) fun v s1 z => ?_)
  obtain ⟨x, H1, I1, rx, as1, st1, dx, rv, S1, r1, ev, ok⟩ := z
  have hst : PO X (some (.UnaryOp .USub (.Constant (.int 1) k p1) p2)) (tPart (tUn (rU fun i => .int (-i)) (tC (.int 1)))) := po_some (pe_un un_neg pe_int)
  refine wpAny_Slice (thn (po_none.run pins s1 σ H1 (fun o H2 => o = none ∧ H2 = H1) I1 ⟨rfl, rfl⟩) fun vl s2 z => ?_)
  obtain ⟨l, H2, I2, pl, el, e2⟩ := z
  subst el e2
  refine thn (po_none.run pins s2 σ H2 (fun o H3 => o = none ∧ H3 = H2) I2 ⟨rfl, rfl⟩) fun vu s3 z => ?_
  obtain ⟨u, H3, I3, pu, eu, e3⟩ := z
  subst eu e3
  refine thn (hst.run pins s3 σ H3 (fun o H4 => o = some (-1) ∧ H4 = H3) I3 ⟨1, rfl, -1, rfl, rfl, rfl⟩) fun vs s4 z => ?_
  obtain ⟨o, H4, I4, ps, eo, e4⟩ := z
  subst eo e4
  have I5 : Inv X pins σ H4 { s4 with heap := s4.heap.push { cls := .type "slice", data := .fields #[vl, vu, vs] } } := I4.kept (t' := s4.toks) fun b ob q => Heap.get?_push_of_some _ q
  have key : ∀ a : Addr, v = .ref a → ∀ (T id : String), typeLookup (.type T) "__getitem__" = pure (some (.builtin id)) → ({ s4 with heap := s4.heap.push { cls := .type "slice", data := .fields #[vl, vu, vs] } } : Shared).TypeIs (.ref a) T →
      wpAny (model X.prog X.w) X.A (getItem (.ref a) (.ref s4.heap.objs.size)) (EP X pins σ Q) X.xe { s4 with heap := s4.heap.push { cls := .type "slice", data := .fields #[vl, vu, vs] } } →
      wpAny (model X.prog X.w) X.A (subscriptTail e (.Slice none none (some (.UnaryOp .USub (.Constant (.int 1) k p1) p2)) p3) v (.ref s4.heap.objs.size)) (EP X pins σ Q) X.xe { s4 with heap := s4.heap.push { cls := .type "slice", data := .fields #[vl, vu, vs] } } := fun a ea T id hT ht hg => by
    subst ea
    exact tail_any (ops := [.ref a, .ref s4.heap.objs.size]) ht hT hg (by with_unfolding_all rfl)
  by_cases hl : lstO dx = true
  · rw [gRv_L hl] at ev
    cases e1 : seqD st1 dx with
    | none => rw [e1] at ev; cases ev
    | some it =>
      rw [e1] at ev
      cases ev
      obtain ⟨g, a, ea, hh⟩ := seq_liesL hl S1 r1 e1
      subst ea
      obtain ⟨xs, hq, z, rl⟩ := hh as1 H4 st1 (.refl _ _) S1 g
      obtain ⟨its, r, ht, hz⟩ := I5.list hq
      have hlen := r.length
      refine key a rx "list" _ PySem.slot_list_getitem.lookup ht.isList.typeIs ?_
      refine wpAny_getItem_list_slice ht.isList (Heap.IsSliceOf.new _ vl vu vs) pl pu ps (by decide) ?_ (by rw [List.size_toArray]; omega)
      rw [PySem.W.krv_pick]
      have hz' : xs.reverse.length ≤ sizeLine := by rw [List.length_reverse]; exact z
      exact ⟨.ref _, _, I5.laid (t' := s4.toks) (o := .lst xs.reverse) (fun b ob q => Heap.get?_push_of_some _ q) (Nat.le_refl _) ⟨hz', _, 0, r.reverse, Heap.get?_push_size _ rfl⟩, rfl, ok _ _ (I5.hok.fresh (Nat.le_refl _)) hz' rl.rev⟩
  · obtain ⟨ds, ed⟩ := lstO_not hl
    subst ed
    cases ev
    cases r1 with
    | tup h z rl =>
      rename_i p xs
      obtain ⟨its, r, ht, hz⟩ := I5.tuple h
      have hlen := r.length
      refine key p rx "tuple" _ PyProof.Rows.slot_tuple_getitem.lookup ht.typeIs ?_
      refine getItem_tupRev ht (Heap.IsSliceOf.new _ vl vu vs) pl pu ps ?_ (by rw [List.size_toArray]; omega)
      have hn := I5.hok.fresh (Nat.le_refl _)
      obtain ⟨x, SS⟩ := S1.alloc (.tup xs.reverse) hn
      have hz' : xs.reverse.length ≤ sizeLine := by rw [List.length_reverse]; exact z
      exact ⟨.ref _, _, I5.laid (t' := s4.toks) (o := .tup xs.reverse) (fun b ob q => Heap.get?_push_of_some _ q) (Nat.le_refl _) ⟨hz', _, r.reverse, ⟨_, Heap.get?_push_size _ rfl, rfl, _, rfl⟩⟩, rfl, ok _ _ x SS (.tup (SqT.of upd_same) hz' (RpL.ext x rl.rev))⟩
end
end
end L2.PyD
/-! PyD, part 7: subscripts, stores, methods, built-in functions; calls of the text's own defs; bodies. -/
namespace L2.PyD
open PySem PySem.Spec PyProof.Rows
noncomputable section

/-! ### o[i] -/
def gIx : G2 := fun st x y => match y with
  | .int i => match seqD st x with
    | some it => match atI it.1 i with
      | some d => some (.val d)
      | none => none
    | none => none
  | .tup ks => match gDict st x (.tup ks) with
    | some (some d) => some (.val d)
    | _ => none
  | _ => none
theorem RpL.at {K : PySem.W.Frag} {as : List Addr} {H : Hp} {vs : List V} {ds : List D} {i : Int} {d : D} (r : RpL K as H vs ds) (e : atI ds i = some d) : ∃ v, atI vs i = some v ∧ Rp K as H v d := by
  unfold atI at e ⊢
  rw [r.length]
  cases e1 : ixN ds.length i with
  | none => rw [e1] at e; cases e
  | some j => rw [e1] at e; exact r.get e
section
variable {X : Cx} {W : WX} {pos : Pos}
theorem ix_ok (hu : X.A.units + 1 < cLine) : IxR X (RB X.K gIx) := by
  intro value slice pins s σ H x y v u Q I rx ry q hs
  obtain ⟨as, st, dx, dy, rv, S, r1, r2, e, ok⟩ := q
  cases dy with
  | int i =>
    cases r2
    unfold gIx at e
    simp only at e
    cases e1 : seqD st dx with
    | none => rw [e1] at e; cases e
    | some it =>
      rw [e1] at e
      simp only at e
      cases e2 : atI it.1 i with
      | none => rw [e2] at e; cases e
      | some d =>
        rw [e2] at e
        cases e
        obtain ⟨a, xs, ev, hq, z, rl⟩ := seq_now S r1 e1
        subst ev
        obtain ⟨w, hw, rw'⟩ := rl.at e2
        rcases hq with hq | hq
        · exact ix_list value slice pins s σ H _ _ v u Q I rx ry ⟨a, xs, i, w, rfl, rfl, hq, hw, rv_val S ok rw'⟩ hs
        · exact ix_tup value slice pins s σ H _ _ v u Q I rx ry ⟨a, xs, i, w, rfl, rfl, hq, hw, rv_val S ok rw'⟩ hs
  | tup ks => exact ix_dct hu value slice pins s σ H _ _ v u Q I rx ry ⟨as, st, dx, .tup ks, rv, S, r1, r2, e, ok⟩ hs
  | _ => cases e

/-! ### o[i] = v -/
abbrev GSet := Store → D → D → D → Option Store
def RSet (K : PySem.W.Frag) (g : GSet) : TSet := fun o i v H Q => ∃ as st d1 d2 d3 st', StR K as H st ∧ Rp K as H o d1 ∧ Rp K as H i d2 ∧ Rp K as H v d3 ∧ g st d1 d2 d3 = some st' ∧ ∀ as' H', Ext as H as' H' → StR K as' H' st' → Q H'
def gSetL : GSet := fun st o i v => match o, i with
  | .cell c, .int k => match st[c]? with
    | some (.lst ds) => match ixN ds.length k with
      | some j => some (st.set c (.lst (ds.set j v)))
      | none => none
    | _ => none
  | _, _ => none
theorem set_ok : PSet X (RSet X.K gSetL) := by
  intro pins s σ H o i v ov iv u Q I ro ri rv h
  obtain ⟨as, st, d1, d2, d3, st', S, r1, r2, r3, e, ok⟩ := h
  cases d1 with
  | cell c =>
    cases d2 with
    | int k =>
      cases r1 with
      | cell hc =>
      rename_i p
      cases r2
      obtain ⟨cc, e1, hR⟩ := S.get' hc
      unfold gSetL at e
      simp only [e1] at e
      cases cc with
      | dct lk kvs => cases e
      | lst ds =>
        simp only at e
        obtain ⟨xs, hx, z, rl⟩ := hR
        cases e2 : ixN ds.length k with
        | none => rw [e2] at e; cases e
        | some j =>
          rw [e2] at e
          cases e
          obtain ⟨x1, s1⟩ := S.write (o := .lst (xs.set j v)) (c := .lst (ds.set j d3)) hc (CellR.mut (c := .lst ds) rfl ⟨xs, hx, z, rl⟩) fun x1 => ⟨_, upd_same, by rw [List.length_set]; exact z, RpL.ext x1 (RpL.set r3 j rl)⟩
          exact set_list pins s σ H _ _ v ov iv u Q I ro ri rv ⟨p, xs, k, j, rfl, rfl, hx, by rw [rl.length]; exact e2, ok _ _ x1 s1⟩
    | _ => cases e
  | _ => cases e
/-- by the kind of the index -/
def gSet : GSet := fun st o i v => match i with
  | .tup ks => putD st o (.tup ks) v
  | _ => gSetL st o i v
theorem set_ok2 (hu : X.A.units + 1 < cLine) : PSet X (RSet X.K gSet) := by
  intro pins s σ H o i v ov iv u Q I ro ri rv h
  obtain ⟨as, st, d1, d2, d3, st', S, r1, r2, r3, e, ok⟩ := h
  cases d2 with
  | tup ks => exact set_dct hu pins s σ H o i v ov iv u Q I ro ri rv ⟨as, st, d1, _, d3, st', S, r1, r2, r3, e, ok⟩
  | _ => exact set_ok pins s σ H o i v ov iv u Q I ro ri rv ⟨as, st, d1, _, d3, st', S, r1, r2, r3, e, ok⟩
/-- o[i] = e: the value first -/
def sSet (g : GSet) (fo fi fe : Den) : DenS := fun env st => (fe env st).then env fun v st1 => (fo env st1).then env fun o st2 => (fi env st2).then env fun i st3 => match g st3 o i v with
  | some st4 => .nx env st4
  | none => .bad
theorem ps_setix' {o i e : Expr} {spos : Pos} {g : GSet} {fo fi fe : Den} (ho : PE X o (RE X.K X.mg W fo)) (hi : PE X i (RE X.K X.mg W fi)) (he : PE X e (RE X.K X.mg W fe)) (hset : PSet X (RSet X.K g))
    (ha : ∀ v, assign (.Subscript o i pos) X.env v = (do
      let ov ← holding [v] (eval o X.env)
      let iv ← holding [v, ov] (eval i X.env)
      standAt pos
      holding [v, ov, iv] (setItem ov iv v)
      release [v, ov, iv] []))
    (hs : swapsWithSole [.Subscript o i pos] e spos.line X.env = pure false) (hw : swappedStores [.Subscript o i pos] e X.env = pure none)
    (h1 : (assignEach [.Subscript o i pos] X.env).map (·.2) = [assign (.Subscript o i pos) X.env]) : PS X (.Assign [.Subscript o i pos] e spos) (RS X.K X.mg W (sSet g fo fi fe)) := by
  refine PS.re (ps_asg he (pg_sub ho hi hset ha) hs hw h1) fun Z σ H h => ?_
  obtain ⟨as, env, st, E, S, h⟩ := h
  refine re_thenS E S h fun r st1 as1 H1 v x1 E1 S1 r1 h1 => re_thenS E1 S1 h1 fun r' st2 as2 H2 v2 x2 E2 S2 r2 h2 => re_thenS E2 S2 h2 fun r'' st3 as3 H3 v3 x3 E3 S3 r3 h3 => ?_
  cases e : g st3 r' r'' r with
  | none => rw [e] at h3; exact h3.elim
  | some st4 =>
    rw [e] at h3
    exact ⟨as3, st3, r', r'', r, st4, S3, Rp.ext x3 r2, r3, Rp.ext x3 (Rp.ext x2 r1), e, fun as' H' x s => h3 as' H' σ x s (E3.ext x)⟩
/-- name op= e, the old value an int -/
def sAug (i : Nat) (g : G2) (f : Den) : DenS := fun env st => match env[i]? with
  | some (some x) => (f env st).then env fun y st1 => match g st1 x y with
    | some (.val d) => .nx (env.set i (some d)) st1
    | _ => .bad
  | _ => .bad
theorem ps_aug' {i : Nat} {x : Str} {e : Expr} {f : Den} {op : Operator} {h2 : Int → Int → Int} {pos' : Pos} (hN : X.N.Nodup) (hi : X.N[i]? = some x) (hx : Loc X.env.scope x) (he : PE X e (RE X.K X.mg W f)) (ho : PIp X op (ipI h2)) (hf : X.fn x = true ∨ X.env.scope.names.lookup x = some .local) :
    PS X (.AugAssign (.Name x pos') op e pos) (RS X.K X.mg W (sAug i (gI yes h2) f)) := by
  refine PS.re (ps_aug hN hi hx he ho hf) fun Z σ H h => ?_
  obtain ⟨as, env, st, E, S, h⟩ := h
  unfold sAug at h
  cases e1 : env[i]? with
  | none => rw [e1] at h; exact h.elim
  | some o =>
    cases o with
    | none => rw [e1] at h; exact h.elim
    | some d =>
      rw [e1] at h
      simp only at h
      obtain ⟨v, hv, rv⟩ := E.at_ i d e1
      refine ⟨v, hv, re_thenS E S h fun r st1 as1 H1 w x1 E1 S1 r1 h1 => ?_⟩
      have rv1 := Rp.ext x1 rv
      cases d with
      | int a =>
        cases r with
        | int b =>
          cases rv1
          cases r1
          exact ⟨a, b, rfl, rfl, h1 as1 H1 _ (.refl _ _) S1 (E1.set (.int (h2 a b)) i)⟩
        | _ => exact h1.elim
      | _ => cases r <;> exact h1.elim

/-! ### methods of built-in types -/
/-- the type of a value by which a method is found -/
def hasT (T : String) (st : Store) : D → Bool
  | .str _ => T == "str"
  | .lst _ => T == "list"
  | .frl _ => T == "list"
  | .cell i => match st[i]? with
    | some (.lst _) => T == "list"
    | some (.dct _ _) => false
    | none => false
  | _ => false
theorem hasT_ok {K : PySem.W.Frag} {as : List Addr} {H : Hp} {st : Store} {T : String} {v : V} {d : D} (S : StR K as H st) (r : Rp K as H v d) (e : hasT T st d = true) : tyV K T v H := by
  cases r with
  | str s => exact eq_of_beq e
  | lst h c z r => exact .inl ⟨eq_of_beq e, _, SqL.of h⟩
  | frl h z r => exact .inl ⟨eq_of_beq e, _, h.seq⟩
  | cell hc =>
    obtain ⟨c, e1, hR⟩ := S.get' hc
    unfold hasT at e
    simp only [e1] at e
    cases c with
    | lst ds => obtain ⟨xs, hx, z, r⟩ := hR; exact .inl ⟨eq_of_beq e, xs, SqL.of hx⟩
    | dct lk kvs => cases e
  | _ => cases e
abbrev GMet := Store → D → List D → Out D
def RM (K : PySem.W.Frag) (g : GMet) : V → List V → Hp → VK → Prop := fun x vs H Q => ∃ as st dx ds, StR K as H st ∧ Rp K as H x dx ∧ RpL K as H vs ds ∧ (g st dx ds).nox.wp (WV K as H Q) (fun _ _ _ => False)
def dMet (T : String) (g : GMet) (fo : Den) (fa : DenA) : Den := fun env st => (fo env st).bind fun x st1 => if hasT T st1 x then (fa env st1).bind fun ds st2 => (g st2 x ds).nox else .bad
theorem rm_met {K : PySem.W.Frag} {mg : Str → Option Value} {T : String} {g : GMet} {fo : Den} {fa : DenA} {σ : St} {H : Hp} {Q : VK} (h : RE K mg W (dMet T g fo fa) σ H Q) : tBM K T (RM K g) (RE K mg W fo) (RA K mg W fa) σ H Q := by
  obtain ⟨as, env, st, E, S, h⟩ := h
  refine re_then E S h fun r st1 as1 H1 v x1 E1 S1 r1 h1 => ?_
  by_cases c : hasT T st1 r = true
  · rw [if_pos c] at h1
    refine ⟨hasT_ok S1 r1 c, ra_then E1 S1 h1 fun rs st2 as2 H2 vs x2 E2 S2 r2 h2 => ⟨as2, st2, r, rs, S2, Rp.ext x2 r1, r2, ?_⟩⟩
    generalize g st2 r rs = o at h2 ⊢
    cases o with
    | ok d st3 => exact WV.ext (x1.trans x2) h2
    | exc _ _ _ => exact h2.elim
    | bad => exact h2.elim
  · rw [if_neg c] at h1; exact h1.elim
theorem pe_met' {o e : Expr} {es : List Expr} {fo : Den} {fa : DenA} {g : GMet} {name : Str} {apos cpos : Pos} {T id : String} (pa : PlainAttrs T) (slot : Slot T name id) (hty : typeOf (.builtin id) = pure (.type "method_descriptor")) (hm : MtR X id (RM X.K g)) (ho : PE X o (RE X.K X.mg W fo)) (ha : PA X (e :: es) (RA X.K X.mg W fa))
    (hbase : attributeBase o name X.env (eval o X.env) = eval o X.env)
    (hfew : ((backTo cpos (starEach (e :: es) X.env)).all (fun x => !x.1) && (backToKw cpos (keywordEach [] X.env)).all (fun x => x.1.isSome)
      && decide ((e :: es).length + ([] : List Keyword).length + (if ([] : List Keyword).isEmpty then 0 else 1) < 30)) = true)
    (hline : (apos.endLine == cpos.line) = true) (hs : starEach (e :: es) X.env = (false, eval e X.env) :: starEach es X.env) (hplain : (backTo cpos (starEach es X.env)).any (·.1) = false) :
    PE X (.Call (.Attribute o name apos) (e :: es) [] cpos) (RE X.K X.mg W (dMet T g fo fa)) := PE.re (pe_bm pa slot hty hm ho ha hbase hfew hline hs hplain) fun _ _ _ h => rm_met h
def mAppend : GMet := fun st x ds => match x, ds with
  | .cell c, [y] => match push c y st with
    | some st' => .ok .non st'
    | none => .bad
  | _, _ => .bad
theorem mt_append' : MtM X "list.append" (RM X.K mAppend) := by
  intro pins s σ H x vs v us Q I rx rs h
  obtain ⟨as, st, dx, ds, S, r1, r2, h⟩ := h
  match dx, ds, r1, r2, h with
  | .cell c, [y], .cell hc, .cons ry .nil, h =>
    unfold mAppend at h
    simp only at h
    cases e : push c y st with
    | none => rw [e] at h; exact h.elim
    | some st' =>
      rw [e] at h
      obtain ⟨acc, ha, hl, x1, s1⟩ := push_ok S hc ry e
      exact mt_append pins s σ H _ _ v us Q I rx rs ⟨_, acc, _, rfl, rfl, ha, hl, h as _ _ x1 s1 .non⟩
  | .cell _, [], _, _, h => exact h.elim
  | .cell _, _ :: _ :: _, _, _, h => exact h.elim
  | .non, _, _, _, h => exact h.elim
  | .bl _, _, _, _, h => exact h.elim
  | .int _, _, _, _, h => exact h.elim
  | .str _, _, _, _, h => exact h.elim
  | .ty _, _, _, _, h => exact h.elim
  | .tup _, _, _, _, h => exact h.elim
  | .lst _, _, _, _, h => exact h.elim
  | .frl _, _, _, _, h => exact h.elim
end
end
end L2.PyD
/-! PyD, part 8: built-in functions; calls of the text's own defs; bodies. -/
namespace L2.PyD
open PySem PySem.Spec PyProof.Rows
noncomputable section

abbrev GC := Store → List D → Option Rv
/-- one argument -/
def g1 (g : Store → D → Option Rv) : GC := fun st ds => match ds with
  | [x] => g st x
  | _ => none
def g2 (g : G2) : GC := fun st ds => match ds with
  | [x, y] => g st x y
  | _ => none
theorem rl1 {K : PySem.W.Frag} {as : List Addr} {H : Hp} {vs : List V} {d : D} (r : RpL K as H vs [d]) : ∃ v, vs = [v] ∧ Rp K as H v d := by
  cases r with
  | cons a b => cases b; exact ⟨_, rfl, a⟩
theorem rl2 {K : PySem.W.Frag} {as : List Addr} {H : Hp} {vs : List V} {d e : D} (r : RpL K as H vs [d, e]) : ∃ v w, vs = [v, w] ∧ Rp K as H v d ∧ Rp K as H w e := by
  cases r with
  | cons a b => cases b with | cons c b => cases b; exact ⟨_, _, rfl, a, c⟩
theorem callR1 {X : Cx} {f : Value} {g : Store → D → Option Rv} (h : ∀ (as : List Addr) (st : Store) (d : D) (rv : Rv) (v : V) (H : Hp) (Q : VK) (pins : List (Addr × Obj)) (s : Shared) (σ : St) (us : List Value), StR X.K as H st → Rp X.K as H v d → g st d = some rv → RvOk X.K as H st rv Q →
    Inv X pins σ H s → Vals [v] us → wpAny (model X.prog X.w) X.A (call f us) (EP X pins σ Q) X.xe s) : CallR X f (RC X.K (g1 g)) := by
  intro pins s σ H vs us Q I r q
  obtain ⟨as, st, ds, rv, S, rl, e, ok⟩ := q
  match ds, rl, e with
  | [d], rl, e =>
    obtain ⟨v, ev, rd⟩ := rl1 rl
    subst ev
    exact h as st d rv v H Q pins s σ us S rd e ok I r
  | [], _, e => cases e
  | _ :: _ :: _, _, e => cases e
theorem callR2 {X : Cx} {f : Value} {g : G2} (h : ∀ (as : List Addr) (st : Store) (d d' : D) (rv : Rv) (v v' : V) (H : Hp) (Q : VK) (pins : List (Addr × Obj)) (s : Shared) (σ : St) (us : List Value), StR X.K as H st → Rp X.K as H v d → Rp X.K as H v' d' → g st d d' = some rv → RvOk X.K as H st rv Q →
    Inv X pins σ H s → Vals [v, v'] us → wpAny (model X.prog X.w) X.A (call f us) (EP X pins σ Q) X.xe s) : CallR X f (RC X.K (g2 g)) := by
  intro pins s σ H vs us Q I r q
  obtain ⟨as, st, ds, rv, S, rl, e, ok⟩ := q
  match ds, rl, e with
  | [d, d'], rl, e =>
    obtain ⟨v, v', ev, rd, rd'⟩ := rl2 rl
    subst ev
    exact h as st d d' rv v v' H Q pins s σ us S rd rd' e ok I r
  | [], _, e => cases e
  | [_], _, e => cases e
  | _ :: _ :: _ :: _, _, e => cases e

/-- len -/
def gLen : Store → D → Option Rv := fun st x => match x with
  | .str s => if dec (s.length ≤ sizeLine) then some (.val (.int s.length)) else none
  | .cell i => match st[i]? with
    | some (.lst ds) => some (.val (.int ds.length))
    | some (.dct _ kvs) => some (.val (.int kvs.length))
    | none => none
  | .tup ds => some (.val (.int ds.length))
  | .lst ds => some (.val (.int ds.length))
  | .frl ds => some (.val (.int ds.length))
  | _ => none
theorem call_len' {X : Cx} : CallR X (.builtin "len") (RC X.K (g1 gLen)) := callR1 fun as st d rv v H Q pins s σ us S r e ok I rs => by
  cases r with
  | str z =>
    by_cases c : dec (z.length ≤ sizeLine) = true
    · have e' : gLen st (.str z) = some (.val (.int z.length)) := if_pos c
      rw [e'] at e; cases e
      exact call_len_str pins s σ H _ us Q I rs ⟨z, rfl, of_dec c, rv_val S ok (.int _)⟩
    · have e' : gLen st (.str z) = none := if_neg c
      rw [e'] at e; cases e
  | cell hc =>
    obtain ⟨c, e1, hR⟩ := S.get' hc
    unfold gLen at e
    simp only [e1] at e
    cases c with
    | lst ds =>
      cases e
      obtain ⟨xs, hx, z, rl⟩ := hR
      exact call_len_seq pins s σ H _ us Q I rs ⟨_, xs, rfl, .inl (SqL.of hx), by rw [rl.length]; exact rv_val S ok (.int _)⟩
    | dct lk kvs =>
      cases e
      rename_i i p
      have ed : dctD st (.cell i) = some kvs := by unfold dctD; simp only [e1]
      exact call_len_dct pins s σ H _ us Q I rs ⟨as, st, [.cell i], _, S, .cons (.cell hc) .nil, by simp only [ed, Option.map_some], ok⟩
  | tup h z rl => cases e; exact call_len_seq pins s σ H _ us Q I rs ⟨_, _, rfl, .inr h, by rw [rl.length]; exact rv_val S ok (.int _)⟩
  | lst h c z rl => cases e; exact call_len_seq pins s σ H _ us Q I rs ⟨_, _, rfl, .inl (SqL.of h), by rw [rl.length]; exact rv_val S ok (.int _)⟩
  | frl h z rl => cases e; exact call_len_seq pins s σ H _ us Q I rs ⟨_, _, rfl, .inl h.seq, by rw [rl.length]; exact rv_val S ok (.int _)⟩
  | _ => cases e
/-- int, abs -/
def gInt : Store → D → Option Rv := fun _ x => match x with
  | .int i => some (.val (.int i))
  | .bl b => some (.val (.int (if b then 1 else 0)))
  | _ => none
theorem call_int' {X : Cx} : CallR X (.type "int") (RC X.K (g1 gInt)) := callR1 fun as st d rv v H Q pins s σ us S r e ok I rs => by
  cases r with
  | int i => cases e; exact call_int1 pins s σ H _ us Q I rs (.inl ⟨i, rfl, rv_val S ok (.int _)⟩)
  | bl b => cases e; exact call_int1 pins s σ H _ us Q I rs (.inr ⟨b, rfl, rv_val S ok (.int _)⟩)
  | _ => cases e
def gAbs : Store → D → Option Rv := fun _ x => match x with
  | .int i => some (.val (.int (if i < 0 then -i else i)))
  | _ => none
theorem call_abs' {X : Cx} : CallR X (.builtin "abs") (RC X.K (g1 gAbs)) := callR1 fun as st d rv v H Q pins s σ us S r e ok I rs => by
  cases r with
  | int i => cases e; exact call_abs pins s σ H _ us Q I rs ⟨i, rfl, rv_val S ok (.int _)⟩
  | _ => cases e
/-- max, min of two ints; gcd; comb -/
def g2I (C : Int → Int → Prop) [∀ i j, Decidable (C i j)] (f : Int → Int → Int) : G2 := gI C f
theorem call2I {X : Cx} {F : Value} {C : Int → Int → Prop} [∀ i j, Decidable (C i j)] {f : Int → Int → Int} (h : CallR X F fun xs H Q => ∃ i j, xs = [.int i, .int j] ∧ C i j ∧ Q (.int (f i j)) H) : CallR X F (RC X.K (g2 (gI C f))) :=
  callR2 fun as st d d' rv v v' H Q pins s σ us S r r' e ok I rs => by
  cases d with
  | int i =>
    cases d' with
    | int j =>
      by_cases c : C i j
      · have e' : gI C f st (.int i) (.int j) = some (.val (.int (f i j))) := if_pos c
        rw [e'] at e; cases e
        cases r
        cases r'
        exact h pins s σ H _ us Q I rs ⟨i, j, rfl, c, rv_val S ok (.int _)⟩
      · have e' : gI C f st (.int i) (.int j) = none := if_neg c
        rw [e'] at e; cases e
    | _ => cases e
  | _ => cases e
def gcdI (i j : Int) : Int := ((Nat.gcd i.natAbs j.natAbs : Nat) : Int)
def combOk (a b : Int) : Prop := 0 ≤ a ∧ 0 ≤ b ∧ a < 2 ^ 64 ∧ b ≤ 9000
instance : ∀ i j, Decidable (combOk i j) := fun _ _ => Classical.propDecidable _
section
variable {X : Cx}
theorem call_max2' (hc : X.calm = true) : CallR X (.builtin "max") (RC X.K (g2 (gI yes fun i j => if j > i then j else i))) := call2I fun pins s σ H xs us Q I rs h => by
  obtain ⟨i, j, e, _, q⟩ := h
  exact call_max2 hc pins s σ H xs us Q I rs ⟨i, j, e, q⟩
theorem call_min2' (hc : X.calm = true) : CallR X (.builtin "min") (RC X.K (g2 (gI yes fun i j => if j < i then j else i))) := call2I fun pins s σ H xs us Q I rs h => by
  obtain ⟨i, j, e, _, q⟩ := h
  exact call_min2 hc pins s σ H xs us Q I rs ⟨i, j, e, q⟩
theorem call_gcd' : CallR X (.builtin "math.gcd") (RC X.K (g2 (gI yes gcdI))) := call2I fun pins s σ H xs us Q I rs h => by
  obtain ⟨i, j, e, _, q⟩ := h
  exact cr_gcd pins s σ H xs us Q I rs ⟨i, j, e, q⟩
theorem call_comb' : CallR X (.builtin "math.comb") (RC X.K (g2 (gI combOk PySem.W.mcComb))) := call2I fun pins s σ H xs us Q I rs h => by
  obtain ⟨i, j, e, c, q⟩ := h
  subst e
  obtain ⟨t, u, rfl⟩ := Vals.int2 rs
  exact PySem.W.mc_comb c.1 c.2.1 c.2.2.1 (.inl c.2.2.2) fun _ => ⟨.int _, H, I.tok _, ⟨_, rfl⟩, q⟩
end
/-- lists of ints, of bools -/
def intsOf : List D → Option (List Int)
  | [] => some []
  | .int i :: ds => match intsOf ds with
    | some is => some (i :: is)
    | none => none
  | _ :: _ => none
def blsOf : List D → Option (List Bool)
  | [] => some []
  | .bl i :: ds => match blsOf ds with
    | some is => some (i :: is)
    | none => none
  | _ :: _ => none
theorem ints_ok {K : PySem.W.Frag} {as : List Addr} {H : Hp} : ∀ {vs : List V} {ds : List D} {is : List Int}, RpL K as H vs ds → intsOf ds = some is → vs = is.map V.int
  | _, _, _, .nil, e => by cases e; rfl
  | _, _, _, .cons (d := d) (ds := ds) r rl, e => by
    cases d with
    | int i =>
      unfold intsOf at e
      cases e1 : intsOf ds with
      | none => rw [e1] at e; cases e
      | some js => rw [e1] at e; cases e; cases r; rw [ints_ok rl e1]; rfl
    | _ => cases e
theorem bls_ok {K : PySem.W.Frag} {as : List Addr} {H : Hp} : ∀ {vs : List V} {ds : List D} {is : List Bool}, RpL K as H vs ds → blsOf ds = some is → vs = is.map V.bl
  | _, _, _, .nil, e => by cases e; rfl
  | _, _, _, .cons (d := d) (ds := ds) r rl, e => by
    cases d with
    | bl i =>
      unfold blsOf at e
      cases e1 : blsOf ds with
      | none => rw [e1] at e; cases e
      | some js => rw [e1] at e; cases e; cases r; rw [bls_ok rl e1]; rfl
    | _ => cases e
/-- a list's items, however it is kept (not a tuple's) -/
def lstD (st : Store) : D → Option (List D)
  | .lst ds => some ds
  | .frl ds => some ds
  | .cell i => match st[i]? with
    | some (.lst ds) => some ds
    | _ => none
  | _ => none
theorem lst_now {K : PySem.W.Frag} {as : List Addr} {H : Hp} {st : Store} {v : V} {d : D} {ds : List D} (S : StR K as H st) (r : Rp K as H v d) (e : lstD st d = some ds) : ∃ a xs, v = .ref a ∧ SqL K H a xs ∧ xs.length ≤ sizeLine ∧ RpL K as H xs ds := by
  cases r with
  | lst h c z r => cases e; exact ⟨_, _, rfl, SqL.of h, z, r⟩
  | frl h z r => cases e; exact ⟨_, _, rfl, h.seq, z, r⟩
  | cell h =>
    obtain ⟨c, e1, hR⟩ := S.get' h
    simp only [lstD, e1] at e
    cases c with
    | dct lk kvs => cases e
    | lst es => cases e; obtain ⟨xs, hx, z, r⟩ := hR; exact ⟨_, xs, rfl, SqL.of hx, z, r⟩
  | _ => cases e
def gSum : Store → D → Option Rv := fun st x => match lstD st x with
  | some ds => match intsOf ds with
    | some is => some (.val (.int is.sum))
    | none => none
  | none => none
def gAny : Store → D → Option Rv := fun st x => match lstD st x with
  | some ds => match blsOf ds with
    | some is => some (.val (.bl (is.any id)))
    | none => none
  | none => none
def gAll : Store → D → Option Rv := fun st x => match lstD st x with
  | some ds => match blsOf ds with
    | some is => some (.val (.bl (is.all id)))
    | none => none
  | none => none
theorem call_sum' {X : Cx} (hc : X.calm = true) : CallR X (.builtin "sum") (RC X.K (g1 gSum)) := callR1 fun as st d rv v H Q pins s σ us S r e ok I rs => by
  unfold gSum at e
  cases e1 : lstD st d with
  | none => rw [e1] at e; cases e
  | some ds =>
    rw [e1] at e
    simp only at e
    cases e2 : intsOf ds with
    | none => rw [e2] at e; cases e
    | some is =>
      rw [e2] at e; cases e
      obtain ⟨a, xs, ev, hq, z, rl⟩ := lst_now S r e1
      subst ev
      have := ints_ok rl e2
      subst this
      exact cr_sum hc pins s σ H _ us Q I rs ⟨a, is, rfl, hq, rv_val S ok (.int _)⟩
theorem call_any' {X : Cx} (hc : X.calm = true) : CallR X (.builtin "any") (RC X.K (g1 gAny)) := callR1 fun as st d rv v H Q pins s σ us S r e ok I rs => by
  unfold gAny at e
  cases e1 : lstD st d with
  | none => rw [e1] at e; cases e
  | some ds =>
    rw [e1] at e
    simp only at e
    cases e2 : blsOf ds with
    | none => rw [e2] at e; cases e
    | some is =>
      rw [e2] at e; cases e
      obtain ⟨a, xs, ev, hq, z, rl⟩ := lst_now S r e1
      subst ev
      have := bls_ok rl e2
      subst this
      exact cr_any hc pins s σ H _ us Q I rs ⟨a, is, rfl, hq, rv_val S ok (.bl _)⟩
theorem call_all' {X : Cx} (hc : X.calm = true) : CallR X (.builtin "all") (RC X.K (g1 gAll)) := callR1 fun as st d rv v H Q pins s σ us S r e ok I rs => by
  unfold gAll at e
  cases e1 : lstD st d with
  | none => rw [e1] at e; cases e
  | some ds =>
    rw [e1] at e
    simp only at e
    cases e2 : blsOf ds with
    | none => rw [e2] at e; cases e
    | some is =>
      rw [e2] at e; cases e
      obtain ⟨a, xs, ev, hq, z, rl⟩ := lst_now S r e1
      subst ev
      have := bls_ok rl e2
      subst this
      exact cr_all hc pins s σ H _ us Q I rs ⟨a, is, rfl, hq, rv_val S ok (.bl _)⟩
/-- tuple(x), list(x) of lists and tuples -/
def gTup : Store → D → Option Rv := fun st x => match x with
  | .tup ds => some (.val (.tup ds))
  | _ => match lstD st x with
    | some ds => some (.val (.tup ds))
    | none => none
theorem call_tuple' {X : Cx} : CallR X (.type "tuple") (RC X.K (g1 gTup)) := callR1 fun as st d rv v H Q pins s σ us S r e ok I rs => by
  have go : ∀ ds, lstD st d = some ds → RvOk X.K as H st (.val (.tup ds)) Q → wpAny (model X.prog X.w) X.A (call (.type "tuple") us) (EP X pins σ Q) X.xe s := fun ds e1 ok => by
    obtain ⟨a, xs, ev, hq, z, rl⟩ := lst_now S r e1
    subst ev
    refine call_tuple_of pins s σ H _ us Q I rs ⟨a, xs, rfl, .inl ⟨hq, fun l hl => ?_⟩⟩
    obtain ⟨x1, s1⟩ := S.alloc (.tup xs) hl
    exact ok _ _ x1 s1 (.tup (SqT.of upd_same) z (RpL.ext x1 rl))
  cases d with
  | tup ds =>
    cases e
    cases r with
    | tup h z rl => exact call_tuple_of pins s σ H _ us Q I rs ⟨_, _, rfl, .inr ⟨h, rv_val S ok (.tup h z rl)⟩⟩
  | lst ds => cases e; exact go ds rfl ok
  | frl ds => cases e; exact go ds rfl ok
  | cell i =>
    unfold gTup at e
    simp only at e
    cases e1 : lstD st (.cell i) with
    | none => rw [e1] at e; cases e
    | some ds => rw [e1] at e; cases e; exact go ds e1 ok
  | _ => cases e
def gList : Store → D → Option Rv := fun st x => match seqD st x with
  | some it => some (.newL it.1)
  | none => match dctD st x with
    | some kvs => some (.newL (kvs.map fun kv => .tup (kv.1.map D.int)))
    | none => none
/-- the keys of a dict, as they are walked -/
theorem keys_src {P : Program} {w : World} {d : Addr} {od : Obj} {es : Array DictEntry} {ep : Nat} {xs : List EntV} (lo : (d == sysModules) = false) (hx : od.data = .dict es ep) (hex : od.ExactDict) (he : es.toList = (xs.map (·.1)).map entT) :
    PySem.W.KdlSrc P w "dict" d d xs.length (fun i v => ∃ e, xs[i]? = some e ∧ v = .ref e.1.2.1) (fun h => h.get? d = some od) where
  type := fun _ h => ⟨od, h, hex.1⟩
  there := fun _ h => ⟨Heap.lt_size h, Heap.lt_size h⟩
  keep := fun _ _ h hk => hk d (.inl rfl) _ h
  notList := by decide
  notTuple := by decide
  hint := fun _ _ _ _ h hq => PySem.W.kdl_hint_dict ⟨od, h, hex.1⟩ hq
  iter := fun A s hh h => by
    have hlt := Heap.lt_size h
    have ne : d ≠ s.heap.objs.size := Nat.ne_of_lt hlt
    refine ⟨{ cls := .type "dict_keyiterator", data := .fields #[.ref d, .int 0 0, .int es.size 0, .int ep 0] }, fun i h' => h'.IsKeyIter s.heap.objs.size d i es.size ep ∧ h'.get? d = some od, fun E Q hq => iter_keys lo h hex hx hq, ?_, ⟨_, Heap.get?_push_size _ rfl, rfl, rfl⟩, Heap.get?_push_of_some _ h⟩
    refine ⟨fun b hb => by simp at hb; simp [hb], fun i h1 h2 st hk => ⟨st.1.at fun oi e => hk _ (by simp) oi e, hk d (by simp) _ st.2⟩, fun i s' Q E hi st hQ => ?_, fun s' Q E st hQ => ?_, fun i s' Q E st hQ => ?_⟩
    · have en : es[i]? = some (entT xs[i].1) := by rw [obX_at (od := od) he i, List.getElem?_eq_getElem hi]; rfl
      refine next_key_item st.1 st.2 hx rfl en fun h' st' sb => ?_
      refine hQ _ h' s'.toks ⟨xs[i], List.getElem?_eq_getElem hi, rfl⟩ ⟨st', ?_⟩ fun b o hb e => ?_
      · exact (sb.2 d ne).trans st.2
      · exact (sb.2 b (fun z => hb (by rw [z]; simp))).trans e
    · refine next_key_end hh st.1 st.2 hx rfl (by rw [obX_len he]; exact Nat.le_refl _) fun h' eb => ?_
      exact hQ h' s'.toks fun b o hb e => eb b o (fun z => hb (by rw [z]; simp)) e
    · exact wpAny_pyIter_keyiter st.1 hQ
theorem keysV : ∀ {us : List Value} {xs : List EntV}, us.length = xs.length → (∀ (j : Nat) (v : Value), us[j]? = some v → ∃ e, xs[j]? = some e ∧ v = .ref e.1.2.1) → Vals (xs.map fun e => V.ref e.1.2.1) us
  | [], [], _, _ => .nil
  | u :: us, x :: xs, hl, h => by
    obtain ⟨e, e1, e2⟩ := h 0 u rfl
    have e1' : x = e := Option.some.inj e1
    subst e1'
    rw [List.map_cons]
    refine .cons ?_ (keysV (by simpa using hl) fun j v q => ?_)
    · exact e2
    · obtain ⟨e, a, b⟩ := h (j + 1) v (by simpa using q)
      exact ⟨e, by simpa using a, b⟩
  | [], _ :: _, hl, _ => by simp at hl
  | _ :: _, [], hl, _ => by simp at hl
theorem evR_keys {K : PySem.W.Frag} {as : List Addr} {H : Hp} : ∀ {xs : List EntV} {kvs : Kvs}, EvR K as H xs kvs → RpL K as H (xs.map fun e => V.ref e.1.2.1) (kvs.map fun kv => .tup (kv.1.map D.int))
  | _, _, .nil => .nil
  | _, _, .cons ⟨h1, h2, h3, h4⟩ r => by
    rw [List.map_cons, List.map_cons]
    refine .cons ?_ (evR_keys r)
    rw [← h1]
    exact h2.rp
theorem call_list' {X : Cx} (hc : X.calm = true) : CallR X (.type "list") (RC X.K (g1 gList)) := callR1 fun as st d rv v H Q pins s σ us S r e ok I rs => by
  unfold gList at e
  cases e1 : seqD st d with
  | none =>
    rw [e1] at e
    simp only at e
    cases e2 : dctD st d with
    | none => rw [e2] at e; cases e
    | some kvs =>
      rw [e2] at e; cases e
      obtain ⟨i, lk, rfl, h⟩ := dctD_inv e2
      cases r with
      | cell hcc =>
        rename_i p
        obtain ⟨c, e3, hR⟩ := S.get' hcc
        rw [h] at e3
        cases e3
        obtain ⟨lo, o, ho, z, hex, es, ep, ys, h1, h2, h3, r⟩ := dct_obj I hR
        obtain ⟨xs, e4, ev⟩ := r.vals
        have hz : xs.length ≤ sizeLine := by rw [ev.len]; exact z
        rw [Vals.ref1 rs]
        refine PySem.W.kdl_call (keys_src (P := X.prog) (w := X.w) lo h1 hex (by rw [e4]; exact h2)) (I.ok.hd hc) ho hz fun h' tk acc c' hk hD hacc => ?_
        have hv := keysV (us := acc.toList) (xs := xs) (by rw [Array.length_toList]; exact hacc.1) fun j v e => hacc.2 j v (by rw [← Array.getElem?_toList]; exact e)
        refine ⟨.ref s.heap.objs.size, upd H s.heap.objs.size (.lst (xs.map fun e => V.ref e.1.2.1)), I.laid (t' := tk) hk (Nat.le_refl _)
          (show ObjOk X.prog X.w _ _ _ (.lst (xs.map fun e => V.ref e.1.2.1)) from ⟨by rw [List.length_map]; exact hz, acc.toList, c', hv, by rw [Array.toArray_toList]; exact hD⟩), rfl, ok _ _ (I.hok.fresh (Nat.le_refl _)) (by rw [List.length_map]; exact hz) (evR_keys ev)⟩
  | some it =>
    rw [e1] at e; cases e
    obtain ⟨a, xs, ev, hq, z, rl⟩ := seq_now S r e1
    subst ev
    exact call_list_of pins s σ H _ us Q I rs ⟨a, xs, rfl, hq, fun l hl => ok l xs hl z rl⟩
/-- isinstance -/
def tyD (st : Store) : D → Option String
  | .non => some "NoneType"
  | .bl _ => some "bool"
  | .int _ => some "int"
  | .str _ => some "str"
  | .tup _ => some "tuple"
  | .lst _ => some "list"
  | .frl _ => some "list"
  | .cell i => match st[i]? with
    | some (.lst _) => some "list"
    | some (.dct _ _) => some "dict"
    | none => none
  | .ty _ => none
def tysOf : List D → Option (List String)
  | [] => some []
  | .ty n :: ds => match tysOf ds with
    | some is => some (n :: is)
    | none => none
  | _ :: _ => none
def kitL (t : String) : List String → Option Bool
  | [] => some false
  | n :: ns => match kitB t n with
    | some true => some true
    | some false => kitL t ns
    | none => none
def gIsi : G2 := fun st x c => match tyD st x with
  | some t => match c with
    | .ty n => match kitB t n with
      | some b => some (.val (.bl b))
      | none => none
    | .tup ds => match tysOf ds with
      | some ns => match kitL t ns with
        | some b => some (.val (.bl b))
        | none => none
      | none => none
    | _ => none
  | none => none
theorem FixL.ty {K : PySem.W.Frag} {as : List Addr} {H : Hp} {p : Addr} {xs : List V} (h : FixL K as H p xs) : TyX K H (.ref p) (.type "list") := by
  rcases h with ⟨o, h⟩ | h | ⟨h, _⟩
  · exact .base (.frz h)
  · rcases h (fun _ => none) with (q | ⟨o, q⟩) | ⟨o, its, n, hk, hc, _⟩
    · cases q
    · cases q
    · exact .kList hk hc
  · exact .base (.lst h)
theorem SqT.ty {K : PySem.W.Frag} {H : Hp} {p : Addr} {xs : List V} (h : SqT K H p xs) : TyX K H (.ref p) (.type "tuple") := by
  rcases h with (q | ⟨o, q⟩) | ⟨o, its, n, hk, hc, _⟩
  · exact .base (.tup q)
  · exact .fTuple q
  · exact .kTuple hk hc
theorem kit_ofD {X : Cx} {pins : List (Addr × Obj)} {σ : St} {s : Shared} {as : List Addr} {H : Hp} {st : Store} {v : V} {d : D} {t : String} {u : Value} (I : Inv X pins σ H s) (S : StR X.K as H st) (r : Rp X.K as H v d) (rx : RelV v u) (e : tyD st d = some t) :
    ∃ P : Heap → Prop, PySem.W.KitX X.K u (.type t) P ∧ P s.heap ∧ u ≠ .builtin "__main__.__loader__#opaque" := by
  cases r with
  | non => cases e; exact kit_of I rx (.base .non)
  | bl b => cases e; exact kit_of I rx (.base (.bl b))
  | int i => cases e; exact kit_of I rx (.base (.int i))
  | str s => cases e; exact kit_of I rx (.base (.str s))
  | ty n => cases e
  | tup h z r => cases e; exact kit_of I rx (SqT.ty h)
  | lst h c z r => cases e; exact kit_of I rx (.base (.lst h))
  | frl h z r => cases e; exact kit_of I rx h.ty
  | cell hc =>
    obtain ⟨c, e1, hR⟩ := S.get' hc
    unfold tyD at e
    simp only [e1] at e
    cases c with
    | lst ds => cases e; obtain ⟨xs, hx, z, r⟩ := hR; exact kit_of I rx (.base (.lst hx))
    | dct lk kvs =>
      cases e
      obtain ⟨_, o, ho, z, hx, _⟩ := dct_obj I hR
      cases (show u = Value.ref _ from rx)
      exact ⟨_, PySem.W.kitx_dict, ⟨o, ho, hx.1⟩, fun z => nomatch z⟩
theorem tys_ok {K : PySem.W.Frag} {as : List Addr} {H : Hp} : ∀ {vs : List V} {ds : List D} {ns : List String}, RpL K as H vs ds → tysOf ds = some ns → vs = ns.map V.ty
  | _, _, _, .nil, e => by cases e; rfl
  | _, _, _, .cons (d := d) (ds := ds) r rl, e => by
    cases d with
    | ty i =>
      unfold tysOf at e
      cases e1 : tysOf ds with
      | none => rw [e1] at e; cases e
      | some js => rw [e1] at e; cases e; cases r; rw [tys_ok rl e1]; rfl
    | _ => cases e
theorem tys_cls : ∀ ns : List String, Paired ClsV (ns.map V.ty) (ns.map Value.type)
  | [] => .nil
  | n :: ns => .cons (.ty n) (tys_cls ns)
theorem kitL_ok {K : PySem.W.Frag} {t : String} : ∀ {ns : List String} {b : Bool}, kitL t ns = some b → PySem.W.kitAny K (.type t) (ns.map Value.type) = some b
  | [], b, e => by cases e; exact kitAny_nil
  | n :: ns, b, e => by
    unfold kitL at e
    cases e1 : kitB t n with
    | none => rw [e1] at e; cases e
    | some k =>
      rw [e1] at e
      cases k with
      | true => cases e; exact kitAny_cons (kit_ty e1) (fun q => nomatch q) fun _ => rfl
      | false => exact kitAny_cons (kit_ty e1) (fun _ => kitL_ok e) fun q => nomatch q
theorem call_isi' {X : Cx} : CallR X (.builtin "isinstance") (RC X.K (g2 gIsi)) := callR2 fun as st d d' rv v v' H Q pins s σ us S r r' e ok I rs => by
  unfold gIsi at e
  cases e1 : tyD st d with
  | none => rw [e1] at e; cases e
  | some t =>
    rw [e1] at e
    simp only at e
    cases d' with
    | ty n =>
      cases r'
      simp only at e
      cases e2 : kitB t n with
      | none => rw [e2] at e; cases e
      | some b =>
        rw [e2] at e; cases e
        obtain ⟨w1, w2, ew, q1, q2⟩ := vals2 rs
        subst ew
        cases (show w2 = Value.type n from q2)
        obtain ⟨Pr, Zr, pr, hx⟩ := kit_ofD I S r q1 e1
        exact PySem.W.kia_one Zr I.kIn pr (kit_ty e2) hx fun tk => ⟨.bl b, H, I.tok tk, rfl, rv_val S ok (.bl _)⟩
    | tup ds =>
      simp only at e
      cases e2 : tysOf ds with
      | none => rw [e2] at e; cases e
      | some ns =>
        rw [e2] at e
        simp only at e
        cases e3 : kitL t ns with
        | none => rw [e3] at e; cases e
        | some b =>
          rw [e3] at e; cases e
          cases r' with
          | tup hT z rl =>
          have ev := tys_ok rl e2
          subst ev
          obtain ⟨w1, w2, ew, q1, q2⟩ := vals2 rs
          subst ew
          cases (show w2 = Value.ref _ from q2)
          obtain ⟨Pr, Zr, pr, hx⟩ := kit_ofD I S r q1 e1
          obtain ⟨its, rv, ⟨o, o1, o2, m, o3⟩, _⟩ := I.tuple hT
          have ei := ClsV.all (tys_cls ns) rv
          subst ei
          obtain ⟨oc, od, dt, sl⟩ := o
          simp only at o2 o3
          subst o2 o3
          exact PySem.W.kia_tup Zr I.kIn pr o1 (kitL_ok e3) hx fun tk => ⟨.bl b, H, I.tok tk, rfl, rv_val S ok (.bl _)⟩
    | _ => cases e
/-! ### the text's own defs -/
abbrev Cal := List D → Store → Out D
def dCall (c : Cal) (fa : DenA) : Den := fun env st => (fa env st).bind fun ds st1 => c ds st1
/-- what a def promises: what its data reading gives -/
def spI (K : PySem.W.Frag) (mg : Str → Option Value) (n : Nat) (c : Cal) : Sp := fun vs H Q E => ∃ as st ds, StR K as H st ∧ RpL K as H vs ds ∧ vs.length = n ∧ (c ds st).wp (WV K as H Q) fun x fs st' => ∀ as' H' C d, Ext as H as' H' → StR K as' H' st' → ExcR K mg as' H' x fs C d → E C d H'
section
variable {X : Cx} {W : WX} {pos : Pos}
theorem pe_call' {k : Nat} {f : Addr} {fd : FuncData} {ps : List Str} {c : Cal} {n : Nat} {x : Str} {p : Pos} {e : Expr} {es : List Expr} {fa : DenA} (F : FnOk X.prog X.w X.K X.mg X.base (L2.CX X.prog X.w) k f fd ps (spI X.K X.mg n c)) (hr : Room k X.A) (hg : Gl X x) (hm : X.mg x = some (.ref f)) (hk : PySem.W.keepIn X.K (.ref f) = true)
    (hb : Binds X.K fd ps []) (tk : Takes X W) (ha : PA X (e :: es) (RA X.K X.mg W fa)) (hn : ∀ env st ds st', fa env st = .ok ds st' → ds.length = n) (hdb : (x == ("__debug__" : Str)) = false)
    (he : starEach (e :: es) X.env = (false, eval e X.env) :: starEach es X.env) (hpl : (backTo pos (starEach es X.env)).any (·.1) = false) :
    PE X (.Call (.Name x p) (e :: es) [] pos) (RE X.K X.mg W (dCall c fa)) := PE.re (pe_callS F hr hg hm hk hb (fun σ => passAt tk σ) ha hdb he hpl) fun σ H Q h => by
  obtain ⟨as, env, st, E, S, h⟩ := h
  refine ⟨as, env, st, E, S, Out.wp_mono (Out.wp_bind h) (fun ds st1 e1 h1 as1 H1 vs x1 S1 rl => ?_) fun _ _ _ z => z⟩
  refine ⟨as1, st1, ds, S1, rl, by rw [rl.length]; exact hn env st ds st1 e1, Out.wp_mono h1 (fun _ _ _ z => z.ext x1) fun y fs st' z => ?_⟩
  exact fun as' H' C d x2 S2 r2 => z as' H' C d (x1.trans x2) S2 r2
end
/-- the names' values at the entry -/
def startE (n : Nat) (ds : List D) : Env := ds.map some ++ List.replicate (n - ds.length) none
theorem startE_ok {K : PySem.W.Frag} {as : List Addr} {H : Hp} {N : List Str} {vs : List V} {ds : List D} (r : RpL K as H vs ds) : EnvR K as H (start N vs) (startE N.length ds) := by
  have hl := r.length
  refine ⟨by unfold start startE; simp [hl], fun i d e => ?_⟩
  unfold startE at e
  unfold start
  by_cases hi : i < ds.length
  · rw [List.getElem?_append_left (by simpa using hi), List.getElem?_map] at e
    cases e1 : ds[i]? with
    | none => rw [e1] at e; cases e
    | some d' =>
      rw [e1] at e
      cases e
      obtain ⟨v, h1, h2⟩ := r.get e1
      exact ⟨v, by rw [List.getElem?_append_left (by simp [hl]; exact hi), List.getElem?_map, h1]; rfl, h2⟩
  · rw [List.getElem?_append_right (by simpa using hi), List.getElem?_replicate] at e
    split at e <;> cases e
open Classical in
noncomputable def leaveX (st0 s : Store) (x : Str) (fs : List (Str × D)) : Out D := if Closed st0 s ∧ fs.all (fun p => p.2.undr st0.length) = true then .exc x fs (s.take st0.length) else .bad
/-- a def by its body -/
noncomputable def dBody (n : Nat) (b : DenS) : Cal := fun ds st => match b (startE n ds) st with
  | .ret d s => leave st s d
  | .nx _ s => leave st s .non
  | .exc _ x fs s => leaveX st s x fs
  | _ => .bad
theorem fields_cut {K : PySem.W.Frag} {as : List Addr} {H : Hp} {n : Nat} : ∀ {ws : List (Str × V)} {fs : List (Str × D)}, Paired (fun (a : Str × V) (b : Str × D) => a.1 = b.1 ∧ Rp K as H a.2 b.2) ws fs → fs.all (fun p => p.2.undr n) = true →
    Paired (fun (a : Str × V) (b : Str × D) => a.1 = b.1 ∧ Rp K (as.take n) H a.2 b.2) ws fs
  | _, _, .nil, _ => .nil
  | _, _, .cons h r, b => by
    rw [List.all_cons, Bool.and_eq_true] at b
    exact .cons ⟨h.1, Rp.cut h.2 b.1⟩ (fields_cut r b.2)
section
variable {P : Program} {w : World} {K : PySem.W.Frag} {mg : Str → Option Value} {base : Heap}
/-- the code object of the def at f -/
def CdAt (K : PySem.W.Frag) (f : Addr) (cdv : Value) : Prop := ∃ (oc : Value) (od : Option Addr) (fd : FuncData) (osl : Array (Option Value)), K.lookup f = some ⟨oc, od, .func fd, osl⟩ ∧ fd.code = cdv
theorem fn_ok {x qual : Str} {st : Stmt} {f : Addr} {fd : FuncData} {N ps : List Str} {k n : Nat} {b : DenS} (F : Fun K x qual st f fd) (S : FnScope N ps (defScope st)) (hn : n = ps.length)
    (hbody : ∀ (cdv : Value) (A : Around) (outer : List PySem.Env) (s : Shared) (H : Hp) (E : XK), CdAt K f cdv → Room k (A.deeper (envOfC qual (defScope st) s.heap.objs.size f cdv)) →
      PSs (cxOf (L2.CX P w) P w K mg base N qual (defScope st) f cdv A outer s H E) (defBody st) (RS K mg (fun cls d _ H => E cls d H) b)) : FnOk P w K mg base (L2.CX P w) (k + 1) f fd ps (spI K mg n (dBody N.length b)) := by
  obtain ⟨oc, od, kV, doc, pm, an, cdv, ct, osl, rfl, lk, hcd⟩ := F.ex
  refine fn_of lk hcd S (fun vs H Q E h => ?_) fun A outer s H vs Q E hr h => ?_
  · obtain ⟨_, _, _, _, _, h, _⟩ := h
    rw [h, hn]
  · obtain ⟨as, st0, ds, S0, rl, hl, h⟩ := h
    refine ⟨_, hbody cdv A outer s H E ⟨oc, od, _, osl, lk, rfl⟩ hr, as, startE N.length ds, st0, startE_ok rl, S0, ?_⟩
    unfold dBody at h
    cases e : b (startE N.length ds) st0 with
    | ret d s1 =>
      rw [e] at h
      intro as1 H1 v x1 S1 r1
      obtain ⟨d', q, x2, S2, r2⟩ := leave_ok S0 x1 S1 r1 h
      exact q as H1 v x2 S2 r2
    | nx e1 s1 =>
      rw [e] at h
      intro as1 H1 σ1 x1 S1 r1
      obtain ⟨d', q, x2, S2, r2⟩ := leave_ok S0 x1 S1 .non h
      exact q as H1 .non x2 S2 r2
    | exc e1 y fs s1 =>
      rw [e] at h
      intro as1 H1 σ1 C d x1 S1 r1 hx
      have h := show (leaveX st0 s1 y fs).wp _ _ from h
      unfold leaveX at h
      by_cases c : Closed st0 s1 ∧ fs.all (fun p => p.2.undr st0.length) = true
      · rw [if_pos c] at h
        obtain ⟨e0, x2, S2⟩ := closed_ok S0 x1 S1 c.1
        refine h as H1 C d x2 S2 ⟨hx.1, ?_⟩
        obtain ⟨_, hx⟩ := hx
        cases fs with
        | nil => exact hx
        | cons p fs =>
          obtain ⟨dd, ws, h1, h2, h3⟩ := hx
          have := fields_cut h3 c.2
          rw [e0] at this
          exact ⟨dd, ws, h1, h2, this⟩
      · rw [if_neg c] at h; exact h.elim
    | brk _ _ => rw [e] at h; exact h.elim
    | ct _ _ => rw [e] at h; exact h.elim
    | bad => rw [e] at h; exact h.elim
end
end
end L2.PyD
/-! PyD, part 8b: sorted(list), of any data that can be compared. -/
namespace L2.PyD
open PySem PySem.Spec PyProof.Rows
noncomputable section
/-- a datum as it is compared -/
def kyD (st : Store) (d : D) : PyData := (pyN st 20 d).getD .none
def sortOk (ks : List PyData) : Prop := PySem.W.AllAlike ks ∧ PySem.W.Sortable ks
/-- for sorted(xs): or there is at most one -/
def sort1Ok (ks : List PyData) : Prop := PySem.W.AllAlike ks ∧ (PySem.W.Sortable ks ∨ (ks.length ≤ 1 ∧ ∀ d ∈ ks, d ≠ .none))
def srtD (rev : Bool) (k : D → PyData) (ds : List D) : List D := ds.mergeSort (PySem.W.dataLe rev k)
def gSrt : Store → D → Option Rv := fun st x => if lstO x then match seqD st x with
    | some it => if dec ((∀ d ∈ it.1, (pyN st 20 d).isSome = true) ∧ sort1Ok (it.1.map (kyD st))) then some (.newL (srtD false (kyD st) it.1)) else none
    | none => none
  else none
/-- a value and its datum -/
def UD (K : PySem.W.Frag) (as : List Addr) (H : Hp) (u : Value) (d : D) : Prop := ∃ v, RelV v u ∧ Rp K as H v d
theorem each_ud {K : PySem.W.Frag} {as : List Addr} {H : Hp} : ∀ {vs : List V} {us : List Value} {ds : List D}, Vals vs us → RpL K as H vs ds → PySem.W.EachIs (UD K as H) us ds
  | _, _, _, .nil, .nil => .nil
  | _, _, _, .cons r rs, .cons q qs => .cons ⟨_, r, q⟩ (each_ud rs qs)
theorem ud_each {K : PySem.W.Frag} {as : List Addr} {H : Hp} : ∀ {us : List Value} {ds : List D}, PySem.W.EachIs (UD K as H) us ds → ∃ vs, Vals vs us ∧ RpL K as H vs ds
  | _, _, .nil => ⟨[], .nil, .nil⟩
  | _, _, .cons ⟨v, r, q⟩ e => by
    obtain ⟨vs, h1, h2⟩ := ud_each e
    exact ⟨v :: vs, .cons r h1, .cons q h2⟩
theorem each_reads {X : Cx} {pins : List (Addr × Obj)} {σ : St} {s : Shared} {as : List Addr} {H : Hp} {st : Store} (I : Inv X pins σ H s) (S : StR X.K as H st) : ∀ {us : List Value} {ds : List D}, PySem.W.EachIs (UD X.K as H) us ds → (∀ d ∈ ds, (pyN st 20 d).isSome = true) →
    PySem.W.EachIs (fun v d => ∃ bs, Reads s.heap v d bs) us (ds.map (kyD st)) ∧ ∀ d ∈ ds.map (kyD st), d.depth ≤ 20
  | _, _, .nil, _ => ⟨.nil, fun _ h => nomatch h⟩
  | _, _, .cons (b := d) (bs := ds) ⟨v, r, q⟩ e, h => by
    obtain ⟨p, hp⟩ := Option.isSome_iff_exists.mp (h d (List.mem_cons_self ..))
    obtain ⟨a1, a2, a3⟩ := pyN_ok S 20 q hp
    have ek : kyD st d = p := by unfold kyD; rw [hp]; rfl
    obtain ⟨i1, i2⟩ := each_reads I S e fun x m => h x (List.mem_cons_of_mem _ m)
    rw [List.map_cons, ek]
    refine ⟨.cons (Dp.reads I p v _ a1 r) i1, fun x m => ?_⟩
    rcases List.mem_cons.mp m with z | m
    · rw [z]; exact a3
    · exact i2 x m
theorem each_keeps {h h' : Heap} (hk : ∀ b o, h.get? b = some o → h'.get? b = some o) : ∀ {us : List Value} {ds : List PyData}, PySem.W.EachIs (fun v d => ∃ bs, Reads h v d bs) us ds → PySem.W.EachIs (fun v d => ∃ bs, Reads h' v d bs) us ds
  | _, _, .nil => .nil
  | _, _, .cons ⟨bs, r⟩ e => .cons ⟨bs, Reads.keeps hk r⟩ (each_keeps hk e)
theorem sortsAt1 {P : Program} {w : World} {A : Around} {s : Shared} {vs : List Value} {ds : List PyData} (e : PySem.W.EachIs (fun v d => ∃ as, Reads s.heap v d as) vs ds) (hal : PySem.W.AllAlike ds) (hk : PySem.W.Sortable ds ∨ (ds.length ≤ 1 ∧ ∀ d ∈ ds, d ≠ .none)) (hu : ∀ d, d ∈ ds → A.units + d.depth < cLine) : PySem.W.SortsAt P w A s (PySem.W.dataKind s.heap ds) vs := by
  rcases hk with hk | ⟨hk, hn⟩
  · exact PySem.W.SortsAt.data e hal hk hu
  · refine ⟨fun v hv => ?_, general', ?_, fun h2 => ?_⟩
    · obtain ⟨d, hd, as, r⟩ := e.left v hv
      exact ⟨_, PySem.W.dataKind_some hal hd r⟩
    · intro E x y a b Q ha hb hq
      obtain ⟨d, as, hd, ra, rfl⟩ := PySem.W.dataKind_inv ha
      obtain ⟨d', as', hd', rb, rfl⟩ := PySem.W.dataKind_inv hb
      exact PySem.W.oneLt_alike (f := false) (fun z => nomatch z) ra rb (hal d hd d' hd') (hn d hd) (Nat.lt_of_le_of_lt (Nat.add_le_add_left (Nat.min_le_left _ _) _) (hu d hd)) hq
    · have := e.length
      omega
theorem call_sorted' {X : Cx} (hu : X.A.units + 64 < cLine) : CallR X (.builtin "sorted") (RC X.K (g1 gSrt)) := callR1 fun as st d rv v H Q pins s σ us S r e ok I rs => by
  unfold gSrt at e
  by_cases hl : lstO d = true
  · rw [if_pos hl] at e
    cases e1 : seqD st d with
    | none => rw [e1] at e; cases e
    | some it =>
      rw [e1] at e
      simp only at e
      by_cases hd : dec ((∀ d ∈ it.1, (pyN st 20 d).isSome = true) ∧ sort1Ok (it.1.map (kyD st))) = true
      · rw [if_pos hd] at e
        cases e
        obtain ⟨h1, h2, h3⟩ := of_dec hd
        obtain ⟨g, a, ev, hh⟩ := seq_liesL hl S r e1
        subst ev
        obtain ⟨xs, hq, z, rl⟩ := hh as H st (.refl _ _) S g
        obtain ⟨its, rv, hlist, hz⟩ := I.list hq
        rw [Vals.ref1 rs]
        have eu := each_ud rv rl
        obtain ⟨i1, i2⟩ := each_reads I S eu h1
        have hlen : its.length = xs.length := rv.length.symm
        have keep : ∀ b o, s.heap.get? b = some o → (PySem.W.sortingHeap (PySem.W.copyHeap s.heap its) (s.heap.objs.size + 1) its).get? b = some o := fun b o q =>
          PySem.W.sortingHeap_old (Nat.ne_of_lt (Nat.lt_succ_of_lt (Heap.lt_size q))) (PySem.W.copyHeap_old q)
        have i1' := each_keeps keep i1
        have hI : X.A.in1.in1.units = X.A.units + 1 + 1 := rfl
        refine PySem.W.sorted_vals hlist.isList (sortsAt1 i1' h2 h3 fun d m => by have := i2 d m; omega) (by omega) ?_
        have ko : PySem.W.KeyedOut false (it.1.map (kyD st)) its (PySem.W.sortVals (PySem.W.dataKind (PySem.W.sortingHeap (PySem.W.copyHeap s.heap its) (s.heap.objs.size + 1) its) (it.1.map (kyD st))) false its its) := ⟨_, its, h2, rfl, i1'⟩
        have eo := PySem.W.keyedOut_each (kyD st) ko eu
        obtain ⟨ys, r1, r2⟩ := ud_each eo
        obtain ⟨ep, he⟩ := PyProof.Rows.sortedAll_at s.heap its (PySem.W.sortVals (PySem.W.dataKind (PySem.W.sortingHeap (PySem.W.copyHeap s.heap its) (s.heap.objs.size + 1) its) (it.1.map (kyD st))) false its its).toArray
        have hz' : ys.length ≤ sizeLine := by
          rw [r2.length, List.length_mergeSort, ← rl.length]
          exact z
        exact ⟨.ref _, upd H (s.heap.objs.size + 1) (.lst ys), I.laid (t' := s.toks) (fun _ _ => PyProof.Rows.sortedAll_old) (Nat.le_succ _) ⟨hz', _, ep, r1, he⟩, rfl, ok _ ys (I.hok.fresh (Nat.le_succ _)) hz' r2⟩
      · rw [if_neg hd] at e; cases e
  · rw [if_neg hl] at e; cases e
end
end L2.PyD
/-! PyD, part 8c: sum of tuples; max, min of lists of ints. -/
namespace L2.PyD
open PySem PySem.Spec PyProof.Rows
noncomputable section
theorem tupSum_raw {prog : Program} {w : World} {A : Around} {E : Value → Shared → Prop} {s : Shared} {l : Addr} {its : List Value} {ns : List Int} {Q : Value → Shared → Prop} (hh : A.handled = none) (hl : s.heap.IsTuple l its.toArray) (hi : IntsAre its ns)
    (h : ∀ h' tk t', (∀ b o, s.heap.get? b = some o → h'.get? b = some o) → Q (.int ns.sum t') { s with heap := h', toks := tk }) : wpAny (model prog w) A (call (.builtin "sum") [.ref l]) Q E s := by
  obtain ⟨xs, e⟩ := hi.allInts.items
  have hn : numsOf (intItems xs).toList = ns := by rw [← e]; exact hi.numsOf
  rw [nums_intItems] at hn
  rw [e] at hl
  refine PySem.W.ktm_sumG hh hl fun h' tk t' hk => ?_
  have h2 := h h' tk t' hk
  rw [preSum_eq, List.take_of_length_le (by simp), hn]
  exact h2
def gSum2 : Store → D → Option Rv := fun st x => match x with
  | .tup ds => match intsOf ds with
    | some is => some (.val (.int is.sum))
    | none => none
  | x => gSum st x
theorem call_sum2 {X : Cx} (hc : X.calm = true) : CallR X (.builtin "sum") (RC X.K (g1 gSum2)) := callR1 fun as st d rv v H Q pins s σ us S r e ok I rs => by
  cases r with
  | tup h z rl =>
    unfold gSum2 at e
    simp only at e
    rename_i p xs ds
    cases e2 : intsOf ds with
    | none => rw [e2] at e; cases e
    | some is =>
      rw [e2] at e
      cases e
      have := ints_ok rl e2
      subst this
      obtain ⟨its, rv, ht, _⟩ := I.tuple h
      rw [Vals.ref1 rs]
      exact tupSum_raw (I.ok.hd hc) ht rv.ints fun h' tk t' hk => ⟨.int _, H, I.kept hk, ⟨_, rfl⟩, rv_val S ok (.int _)⟩
  | non => cases e
  | bl b => cases e
  | int i => cases e
  | str s => cases e
  | ty n => cases e
  | lst h c z rl => exact call_sum' hc pins s σ H _ us Q I rs ⟨as, st, [_], rv, S, .cons (.lst h c z rl) .nil, e, ok⟩
  | frl h z rl => exact call_sum' hc pins s σ H _ us Q I rs ⟨as, st, [_], rv, S, .cons (.frl h z rl) .nil, e, ok⟩
  | cell h => exact call_sum' hc pins s σ H _ us Q I rs ⟨as, st, [_], rv, S, .cons (.cell h) .nil, e, ok⟩
def maxI : List Int → Int
  | [] => 0
  | n :: r => r.foldl max n
def minI : List Int → Int
  | [] => 0
  | n :: r => r.foldl min n
theorem fold_max : ∀ (r : List Int) (n : Int), r.foldl max n ∈ n :: r ∧ ∀ y ∈ n :: r, y ≤ r.foldl max n
  | [], n => ⟨List.mem_singleton.mpr rfl, fun y m => by rw [List.mem_singleton.mp m]; exact Int.le_refl _⟩
  | x :: r, n => by
    obtain ⟨h1, h2⟩ := fold_max r (max n x)
    rw [List.foldl_cons]
    refine ⟨?_, fun y m => ?_⟩
    · rcases List.mem_cons.mp h1 with e | m
      · rw [e]
        rcases Int.le_total n x with q | q
        · rw [Int.max_eq_right q]; simp
        · rw [Int.max_eq_left q]; simp
      · exact List.mem_cons_of_mem _ (List.mem_cons_of_mem _ m)
    · have hm := h2 (max n x) (List.mem_cons_self ..)
      rcases List.mem_cons.mp m with e | m
      · subst e; exact Int.le_trans (Int.le_max_left _ _) hm
      · rcases List.mem_cons.mp m with e | m
        · subst e; exact Int.le_trans (Int.le_max_right _ _) hm
        · exact h2 y (List.mem_cons_of_mem _ m)
theorem fold_min : ∀ (r : List Int) (n : Int), r.foldl min n ∈ n :: r ∧ ∀ y ∈ n :: r, r.foldl min n ≤ y
  | [], n => ⟨List.mem_singleton.mpr rfl, fun y m => by rw [List.mem_singleton.mp m]; exact Int.le_refl _⟩
  | x :: r, n => by
    obtain ⟨h1, h2⟩ := fold_min r (min n x)
    rw [List.foldl_cons]
    refine ⟨?_, fun y m => ?_⟩
    · rcases List.mem_cons.mp h1 with e | m
      · rw [e]
        rcases Int.le_total n x with q | q
        · rw [Int.min_eq_left q]; simp
        · rw [Int.min_eq_right q]; simp
      · exact List.mem_cons_of_mem _ (List.mem_cons_of_mem _ m)
    · have hm := h2 (min n x) (List.mem_cons_self ..)
      rcases List.mem_cons.mp m with e | m
      · subst e; exact Int.le_trans hm (Int.min_le_left _ _)
      · rcases List.mem_cons.mp m with e | m
        · subst e; exact Int.le_trans hm (Int.min_le_right _ _)
        · exact h2 y (List.mem_cons_of_mem _ m)
def gMax1 : Store → D → Option Rv := fun st x => match lstD st x with
  | some ds => match intsOf ds with
    | some (n :: r) => some (.val (.int (maxI (n :: r))))
    | _ => none
  | none => none
def gMin1 : Store → D → Option Rv := fun st x => match lstD st x with
  | some ds => match intsOf ds with
    | some (n :: r) => some (.val (.int (minI (n :: r))))
    | _ => none
  | none => none
theorem call_max1' {X : Cx} (hc : X.calm = true) : CallR X (.builtin "max") (RC X.K (g1 gMax1)) := callR1 fun as st d rv v H Q pins s σ us S r e ok I rs => by
  unfold gMax1 at e
  cases e1 : lstD st d with
  | none => rw [e1] at e; cases e
  | some ds =>
    rw [e1] at e
    simp only at e
    cases e2 : intsOf ds with
    | none => rw [e2] at e; cases e
    | some is =>
      rw [e2] at e
      cases is with
      | nil => cases e
      | cons n t =>
        cases e
        obtain ⟨a, xs, ev, hq, z, rl⟩ := lst_now S r e1
        subst ev
        have := ints_ok rl e2
        subst this
        obtain ⟨f1, f2⟩ := fold_max t n
        refine cr_max hc pins s σ H _ us Q I rs ⟨a, n :: t, rfl, hq, Nat.succ_pos _, fun m h1 h2 => ?_⟩
        have em : m = maxI (n :: t) := Int.le_antisymm (f2 m h1) (h2 _ f1)
        subst em
        exact rv_val S ok (.int _)
theorem call_min1' {X : Cx} (hc : X.calm = true) : CallR X (.builtin "min") (RC X.K (g1 gMin1)) := callR1 fun as st d rv v H Q pins s σ us S r e ok I rs => by
  unfold gMin1 at e
  cases e1 : lstD st d with
  | none => rw [e1] at e; cases e
  | some ds =>
    rw [e1] at e
    simp only at e
    cases e2 : intsOf ds with
    | none => rw [e2] at e; cases e
    | some is =>
      rw [e2] at e
      cases is with
      | nil => cases e
      | cons n t =>
        cases e
        obtain ⟨a, xs, ev, hq, z, rl⟩ := lst_now S r e1
        subst ev
        have := ints_ok rl e2
        subst this
        obtain ⟨f1, f2⟩ := fold_min t n
        refine cr_min hc pins s σ H _ us Q I rs ⟨a, n :: t, rfl, hq, Nat.succ_pos _, fun m h1 h2 => ?_⟩
        have em : m = minI (n :: t) := Int.le_antisymm (h2 _ f1) (f2 m h1)
        subst em
        exact rv_val S ok (.int _)
end
end L2.PyD
/-! PyD, part 8d: a lambda of one parameter, entered. -/
namespace L2.PyD
open PySem PySem.Spec PyProof.Rows LamX
/-- one parameter x, no other name of its own: captured ones and globals -/
structure Lam1 (sc scope : Scope) (x : Str) : Prop where
  kind : scope.kind = .function
  co : scope.isCoroutine = false
  gen : scope.isGenerator = false
  par : scope.names.lookup x = some .local
  own : ∀ y ∈ scope.names, y.2 ≠ .cell ∧ (y.2 = .local → y.1 = x)
  free : ∀ y ∈ scope.names, y.2 = .free → sc.names.lookup y.1 = some .cell ∨ sc.names.lookup y.1 = some .free
def lam1B (sc scope : Scope) (x : Str) : Bool :=
  decide (scope.kind = .function) && !scope.isCoroutine && !scope.isGenerator && decide (scope.names.lookup x = some .local) && scope.names.all fun y => !decide (y.2 = .cell) && (!decide (y.2 = .local) || decide (y.1 = x)) && (!decide (y.2 = .free) || decide (sc.names.lookup y.1 = some .cell) || decide (sc.names.lookup y.1 = some .free))
theorem lam1_by {sc scope : Scope} {x : Str} (h : lam1B sc scope x = true) : Lam1 sc scope x := by
  unfold lam1B at h
  simp only [Bool.and_eq_true, Bool.or_eq_true, Bool.not_eq_true', decide_eq_true_eq, decide_eq_false_iff_not, List.all_eq_true] at h
  obtain ⟨⟨⟨⟨h1, h2⟩, h3⟩, h4⟩, h5⟩ := h
  refine ⟨h1, h2, h3, h4, fun y hy => ⟨(h5 y hy).1.1, fun e => ?_⟩, fun y hy e => ?_⟩
  · rcases (h5 y hy).1.2 with z | z
    · exact absurd e z
    · exact z
  · rcases (h5 y hy).2 with (z | z) | z
    · exact absurd e z
    · exact .inl z
    · exact .inr z
section
variable {X : Cx} {pins : List (Addr × Obj)} {σ : L2.St} {H HZ : Hp} {s s1 : Shared}
theorem Lam1.has {scope : Scope} {x : Str} (L : Lam1 X.env.scope scope x) (ok : X.Ok) : ∀ y ∈ scope.names, y.2 = .free → ∃ c, X.env.cells.lookup y.1 = some c := fun y hy e => by
  rcases L.free y hy e with k | k <;> first | exact ok.has _ (.inl k) | exact ok.has _ (.inr k)
theorem lam_start1 {A : Around} {outer : List PySem.Env} {E : XK} {scope : Scope} {f c' : Addr} {h₁ : Heap} {tk : Nat} {x : Str} {u : Value} {v : V} {j : Nat} (I : Inv X pins σ H s) (L : Lam1 X.env.scope scope x) (e0 : Env0 X.prog X.w X.K X.mg X.base A outer s1 HZ) (hd : A.handled = none)
    (hN : X.N[j]? = some x) (nd : X.N.Nodup) (rv : RelV v u)
    (un : Un (frs X.stack) [] H HZ s.heap s1.heap) (hns : h₁.Ns s1.heap.objs.size fun y => ([(x, u)] : List (Str × Value)).reverse.lookup y) (kp : ∀ b o, s1.heap.get? b = some o → h₁.get? b = some o) :
    Inv (lamCx X A outer s1 HZ E scope f c') [] (σ.set j (some v)) HZ { s1 with heap := h₁, toks := tk } := by
  have free := L.has I.ok
  have cm : ∀ {y c}, (cloFrom X.env.cells scope.names []).lookup y = some c → X.env.cells.lookup y = some c := by
    intro y c e
    rcases cloFrom_mem (PySem.mem_of_lookup e) with hm | ⟨h1, h2⟩
    · cases hm
    · obtain ⟨c1, hc⟩ := free _ h1 rfl
      have hc : X.env.cells.lookup y = some c1 := hc
      have : c = c1 := by rw [h2, hc] <;> rfl
      rw [this]; exact hc
  have look : ∀ {y}, scope.names.lookup y = some .free → ∃ c, (cloFrom X.env.cells scope.names []).lookup y = some c := by
    intro y hl
    have hy : (y, NameKind.free) ∈ scope.names := PySem.mem_of_lookup hl
    exact mem_lookup (cloFrom_has (cells := X.env.cells) (acc := []) hy)
  have cellK : ∀ {c : Addr} {v : Option Value}, H c = none → s.heap.IsCell c v → h₁.IsCell c v := by
    rintro c v n ⟨o, ho, hd⟩
    obtain ⟨sl, q⟩ := un.any ho n (by simp)
    exact ⟨_, kp _ _ q, hd⟩
  have noA : ∀ b : Addr, b ∉ (lamCx X A outer s1 HZ E scope f c').ex := by
    intro b z
    exact absurd (show b ∈ ([] : List Addr) from z) (by simp)
  have hlx : j < σ.length := by rw [I.len]; exact (List.getElem?_eq_some_iff.mp hN).1
  constructor
  · exact ⟨e0.mod, L.kind, rfl, rfl, Nat.le_refl _, fun y z c e1 e2 => I.ok.inj y z c (cm e1) (cm e2), fun y hy => (by
        have hy : scope.names.lookup y = some .cell ∨ scope.names.lookup y = some .free := hy
        rcases hy with hy | hy
        · exact absurd rfl (L.own _ (PySem.mem_of_lookup hy)).1
        · exact look hy), fun y c z _ => (by
        have z : false = true := z
        cases z), fun _ => hd, Around.frames_deeper e0.frames, .inr ⟨rfl, rfl⟩, fun b z => absurd z (noA b), e0.bs, e0.bsz, fun b _ _ => noA b, fun b z => absurd z (noA b), e0.funs, e0.frf⟩
  · rfl
  · exact e0.bare
  · exact Un.kept kp
  · refine ⟨_, hns, fun i y w e1 e2 e3 => ?_⟩
    by_cases hij : j = i
    · subst hij
      rw [List.getElem?_set_self hlx] at e2
      cases e2
      have ey : x = y := Option.some.inj (hN.symm.trans e1)
      subst ey
      exact ⟨u, rv, .inl ⟨L.par, by simp⟩⟩
    · rw [List.getElem?_set_ne hij] at e2
      have hyx : y ≠ x := fun z => by
        subst z
        obtain ⟨a1, b1⟩ := List.getElem?_eq_some_iff.mp hN
        obtain ⟨a2, b2⟩ := List.getElem?_eq_some_iff.mp e1
        exact hij ((List.getElem_inj nd).mp (b1.trans b2.symm))
      have e3 : Vis scope y := e3
      rcases e3 with k | k | k
      · exact absurd ((L.own _ (PySem.mem_of_lookup k)).2 rfl) hyx
      · exact absurd rfl (L.own _ (PySem.mem_of_lookup k)).1
      · obtain ⟨m, hn, hl⟩ := I.loc
        have hvis : Vis X.env.scope y := (L.free _ (PySem.mem_of_lookup k) rfl).elim (fun k => .inr (.inl k)) (fun k => .inr (.inr k))
        obtain ⟨w', r, q⟩ := hl i y w e1 e2 hvis
        obtain ⟨c2, h2⟩ := look k
        refine ⟨w', r, .inr ⟨.inr k, c2, h2, ?_⟩⟩
        have c1 := cm h2
        rcases q with ⟨k', _⟩ | ⟨_, c3, e', z⟩
        · exfalso
          have k' : X.env.scope.names.lookup y = some .local := k'
          rcases L.free _ (PySem.mem_of_lookup k) rfl with k2 | k2
          · rw [show X.env.scope.names.lookup y = _ from k2] at k'; cases k'
          · rw [show X.env.scope.names.lookup y = _ from k2] at k'; cases k'
        · rw [c1] at e'
          cases e'
          exact cellK (I.freeC y _ c1) z
  · intro y c e
    obtain ⟨w', z⟩ := I.cell y c (cm e)
    exact ⟨w', cellK (I.freeC y c (cm e)) z⟩
  · exact e0.hok.fresh (Nat.le_refl _)
  · intro y c e
    obtain ⟨v, o, ho, hd⟩ := I.cell y c (cm e)
    exact un.free c o ho (I.freeC y c (cm e)) (by simp)
  · intro q hq
    exact absurd (show q ∈ ([] : List (Addr × Obj)) ++ [] from hq) (by simp)
  · exact e0.hok.kept kp
  · rw [List.length_set]
    exact I.len
/-- f(u), f a lambda that the def itself has made: pinned -/
theorem lam_call {A : Around} {scope : Scope} {f c' : Addr} {x : Str} {u : Value} {v : V} {j k : Nat} {pm ctv : Value} {params : Arguments} {body : Expr} {tb : TE} {Q : VK} (I : Inv X pins σ H s) (L : Lam1 X.env.scope scope x) (hN : X.N[j]? = some x) (nd : X.N.Nodup) (rv : RelV v u)
    (hA : A.frames = some X.stack) (hr : Room (k + 1) A)
    (hf : s.heap.get? f = some (PySem.W.kla_obj "<lambda>" (X.env.qual ++ "<lambda>") params body scope (cloFrom X.env.cells scope.names []) pm c' ctv)) (hc : H c' = some (CodeO c' (X.env.qual ++ "<lambda>")))
    (hbind : bindArgs (PySem.W.kla_fn "<lambda>" (X.env.qual ++ "<lambda>") params body scope (cloFrom X.env.cells scope.names []) pm (.ref c') ctv) ⟨[u], []⟩ = pure [(x, u)])
    (hbody : ∀ (A : Around) (outer : List PySem.Env) (s : Shared) (H : Hp) (E : XK), Room k (A.deeper (lamEnv X scope s.heap.objs.size f c')) → PE (lamCx X A outer s H E scope f c') body tb)
    (h : tb (σ.set j (some v)) H Q) : wpAny (model X.prog X.w) A (call (.ref f) [u]) (EP X pins σ Q) (fun _ _ => False) s := by
  obtain ⟨⟨oc, vs, t, hoc, hdc, hvc⟩, _, _⟩ := I.hok c' _ hc
  have e0 : Env0 X.prog X.w X.K X.mg X.base A X.stack s H := { I.env0 with frames := hA }
  have rc : codeAny (model X.prog X.w) A (.call (.ref f) ⟨[u], []⟩) (CR (L2.CX X.prog X.w) X.stack X.prog X.w H s Q fun _ _ _ => False) s := by
    refine PySem.W.kla_callFunE hr.depth hf rfl L.co L.gen rfl ⟨c', oc, vs, t, rfl, hoc, hdc, hvc⟩ ?_
    rw [hbind]
    refine wpAny_pure (wpAny_newFunctionEnv (fun y hy => (L.own y hy).1) (fun y hy => ?_) (fun h₁ hns hsb => ⟨I.nolimit.fresh _ hsb, ?_⟩) L.kind)
    · rw [List.mem_singleton.mp hy]
      exact L.par
    show codeAny _ _ (.expr body (lamEnv X scope s.heap.objs.size f c')) _ _
    have kp : ∀ b o, s.heap.get? b = some o → h₁.get? b = some o := fun b o e => hsb.extBut b o (Nat.ne_of_lt (Heap.lt_size e)) (Heap.get?_push_of_some _ e)
    have un : Un (frs X.stack) [] H H s.heap s.heap := Un.kept fun _ _ e => e
    have J : Inv (lamCx X A X.stack s H (fun _ _ _ => False) scope f c') [] (σ.set j (some v)) H { s with heap := h₁, toks := s.toks + ([(x, u)] : List (Str × Value)).length } :=
      lam_start1 I L e0 hr.hd hN nd rv un hns kp
    refine PySem.W.kla_codeExpr (wpAny_mono ((hbody A X.stack s H _ (hr.deeper _)).run [] _ _ H Q J h) (fun w s' hq => ?_) fun e s' hq => hq)
    obtain ⟨w', H', J', r', q⟩ := hq
    exact ⟨w', H', J'.os, J'.bare, J'.base, J'.hok, r', q⟩
  refine wpAny_call (codeAny_mono rc fun r s' hq => ?_)
  cases r with
  | error e =>
    obtain ⟨_, _, _, _, _, _, _, _, _, _, _, _, z⟩ := hq
    exact z
  | ok fl =>
    cases fl with
    | ret u => exact I.after hq
    | next => exact False.elim hq
    | brk => exact False.elim hq
    | cont => exact False.elim hq
end
end L2.PyD
/-! PyD, part 8e: sorted(list, key=lambda x: ..[, reverse=True]). -/
namespace L2.PyD
open PySem PySem.Spec PyProof.Rows LamX
noncomputable section
section
variable {prog : Program} {w : World} {A : Around} {E : Value → Shared → Prop} {s : Shared} {a kS : Addr} {e1 : Nat} {b : Bool} {f : Value} {P : PySem.Fin → Shared → Prop}
/-- the keys are made one by one, whatever is kept meanwhile (J) -/
theorem keyJ {vs : List Value} (hZ : vs.length ≤ sizeLine) (J : Nat → Array Value → Shared → Prop) (at_ : ∀ i kA s, J i kA s → kA.size = i ∧ ∃ e, s.heap.get? kS = some (seqObj "list" kA e))
    (turn : ∀ i v kA s, vs[i]? = some v → J i kA s → wpAny (model prog w) A (call f [v]) (fun k s' => (∃ e, s'.heap.get? kS = some (seqObj "list" kA e)) ∧ J (i + 1) (kA.push k) { s' with heap := s'.heap.update kS (Obj.mapSeq (·.push k)) }) (fun _ _ => False) s)
    (fin : ∀ kA s, J vs.length kA s → wpAny (model prog w) A (PyProof.Rows.ksk_end a b vs.toArray e1 (.ref kS) kA) P E s) (h0 : J 0 #[] s) :
    wpAny (model prog w) A (PyProof.Rows.ksk_rest a f b vs.toArray e1 (.ref kS)) P E s := by
  unfold PyProof.Rows.ksk_rest
  refine wpAny_bind (wpAny_rule ?_)
  first
    | rw [List.forIn_toArray]
    | (rw [← Array.forIn_toList]; simp only [List.toList_toArray])
  refine wpAny_bind (PyProof.Rows.ksk_fold (fun i s' => ∃ kA, J i kA s') vs 0 s ⟨#[], h0⟩ ?step ?done)
  case step =>
    rintro j x s' hx ⟨kA, hj⟩
    rw [Nat.zero_add] at hj ⊢
    obtain ⟨hsz, _⟩ := at_ _ _ _ hj
    have hlt : j < vs.length := (List.getElem?_eq_some_iff.mp hx).1
    refine wpAny_bind (wpAny_attempt (wpAny_mono (turn j x kA s' hx hj) (fun v s2 he => ?_) fun _ _ hF => hF.elim))
    obtain ⟨⟨e, hk⟩, hJ⟩ := he
    try dsimp only
    refine wpAny_bind (listUpdate_at hk rfl ?_ (by omega) (by rw [Array.size_push]; omega))
    exact wpAny_pure ⟨rfl, _, hJ⟩
  case done =>
    rintro s' ⟨kA, hj⟩
    rw [Nat.zero_add] at hj
    obtain ⟨_, e, hk⟩ := at_ _ _ _ hj
    try dsimp only
    exact wpAny_bind (listItems_at hk rfl (fin kA s' hj))
end
section
variable {X : Cx} {pins : List (Addr × Obj)} {σ : L2.St} {H : Hp} {s : Shared} {h' : Heap}
/-- an object of ours that was not followed is followed from now on -/
theorem track_old {t' : Nat} {ch : List Addr} {T : Addr} {ob : HO} (I : Inv X pins σ H s) (k : ∀ b o, b ∉ ch → s.heap.get? b = some o → h'.get? b = some o) (hf : ∀ b ∈ ch, FpOk X pins H b) (hT : T ∈ ch) (new : ObjOk X.prog X.w (upd H T ob) h' T ob) :
    Inv X pins σ (upd H T ob) { s with heap := h', toks := t' } := by
  have hn : H T = none := (hf T hT).1
  have nit : ∀ b u, H b = some u → b ∉ ch := fun b u e z => by rw [(hf b z).1] at e; cases e
  refine I.step (g' := s.gens) (d' := s.drawn) (ch := ch) (fun b hb => ?_) (fun b o _ _ hc e _ => k b o hc e) (fun b o _ _ hc e _ => ⟨o.slots, k b o hc e⟩) (fun b o hc e n => ?_) (fun b o hc e => ⟨o, k b o hc e⟩) (fun b xs e => ?_) (fun b o u e => ?_) (fun b ps e => ⟨#[], ?_⟩) (fun m hm => ?_) (fun b u e => ?_) I.bare
  · obtain ⟨_, f1, _, f3, f4, f5⟩ := hf b hb
    exact ⟨f3, f1, f4, f5⟩
  · have : b ≠ T := fun z => hc (by rw [z]; exact hT)
    rw [upd_ne this]; exact n
  · rw [upd_ne (ne_of_none e hn)]; exact e
  · rw [upd_ne (ne_of_none e hn)]; exact e
  · rw [upd_ne (ne_of_none e hn), e]; simp
  · obtain ⟨o, es, ep, ho, r⟩ := hm
    exact ⟨o, es, ep, k _ o (fun z => (hf _ z).2.1 rfl) ho, r⟩
  · by_cases hb : b = T
    · subst hb
      rw [upd_same] at e
      cases e
      exact new
    · rw [upd_ne hb] at e
      refine (I.hok b u e).stay (fun c v hc q => k c v ?_ q) (fun c q => by rw [upd_ne (ne_of_none q hn)]; exact q) fun c xs q => by rw [upd_ne (ne_of_none q hn)]; exact q
      rcases hc with z | z
      · rw [z]; exact nit b u e
      · exact nit c _ z
theorem each_get {α β : Type} {R : α → β → Prop} : ∀ {as : List α} {bs : List β} {i : Nat} {a : α}, PySem.W.EachIs R as bs → as[i]? = some a → ∃ b, bs[i]? = some b ∧ R a b
  | _, _, 0, _, .cons r _, e => by cases e; exact ⟨_, rfl, r⟩
  | _, _, i + 1, _, .cons _ q, e => by
    obtain ⟨b, h1, h2⟩ := each_get (i := i) q (by simpa using e)
    exact ⟨b, by simpa using h1, h2⟩
theorem UD.ext {K : PySem.W.Frag} {as as' : List Addr} {H H' : Hp} (x : Ext as H as' H') {u : Value} {d : D} (h : UD K as H u d) : UD K as' H' u d := by
  obtain ⟨v, r, q⟩ := h
  exact ⟨v, r, Rp.ext x q⟩
theorem vals_snoc : ∀ {vs : List V} {us : List Value} {v : V} {u : Value}, Vals vs us → RelV v u → Vals (vs ++ [v]) (us ++ [u])
  | _, _, _, _, .nil, r => .cons r .nil
  | _, _, _, _, .cons h t, r => .cons h (vals_snoc t r)
theorem FpOk.next {H' : Hp} {b : Addr} (h : FpOk X pins H b) (n : H' b = none) : FpOk X pins H' b := ⟨n, h.2⟩
/-- sorted(l, key=f), f a lambda of ours: kd gives the keys -/
theorem sorted_lam {l f c' : Addr} {its : List Value} {ds : List D} {as : List Addr} {st : Store} {of : Obj} {q : Str} {b : Bool} {kw : List (Str × Value)} {Q : VK} (kd : D → D) (I : Inv X pins σ H s) (S : StR X.K as H st) (hl : s.heap.IsList l its.toArray) (eu : PySem.W.EachIs (UD X.K as H) its ds)
    (hz : its.length ≤ sizeLine) (hf : s.heap.get? f = some of) (hfn : H f = none) (hfr : f ∉ frs X.stack) (hfl : f ≠ X.env.locals) (hfs : f ∉ X.fs) (hfd : ∀ v, of.data ≠ .cell v) (hfq : ∀ xs n, of ≠ seqObj "list" xs n) (hco : H c' = some (CodeO c' q)) (hu : X.A.units + 64 < cLine)
    (hk : ∀ d ∈ ds, (pyN st 20 (kd d)).isSome = true) (hs : sortOk (ds.map fun d => kyD st (kd d))) (ha1 : argsOk "sorted" ⟨[.ref l], kw⟩) (ha2 : ∀ x, argsOk "list.sort" ⟨[.ref x], kw⟩) (ht : ∀ x, Builtin.«list.sort» ⟨[.ref x], kw⟩ = PyProof.Rows.ksk_tree x (.ref f) b)
    (body : ∀ (u : Value) (v : V) (d : D) (as1 : List Addr) (H1 : Hp) (s1 : Shared) (pins1 : List (Addr × Obj)), Inv X pins1 σ H1 s1 → Ext as H as1 H1 → StR X.K as1 H1 st → RelV v u → Rp X.K as1 H1 v d → d ∈ ds → s1.heap.get? f = some of → H1 c' = some (CodeO c' q) →
      wpAny (model X.prog X.w) X.A.in1.in1 (call (.ref f) [u]) (EP X pins1 σ fun w H2 => ∃ as2, Ext as1 H1 as2 H2 ∧ StR X.K as2 H2 st ∧ H2 c' = some (CodeO c' q) ∧ Rp X.K as2 H2 w (kd d)) (fun _ _ => False) s1)
    (h : ∀ as2 H2 ys p, Ext as H as2 H2 → StR X.K as2 H2 st → H2 p = none → ys.length ≤ sizeLine → RpL X.K as2 H2 ys (srtD b (fun d => kyD st (kd d)) ds) → Q (.ref p) (upd H2 p (.lst ys))) :
    wpAny (model X.prog X.w) X.A (call (.builtin "sorted") [.ref l] kw) (EP X pins σ Q) X.xe s := by
  have hDsz : s.heap.objs.size ≤ s.heap.objs.size + 1 := Nat.le_succ _
  obtain ⟨D, hD⟩ : ∃ D, D = s.heap.objs.size + 1 := ⟨_, rfl⟩
  refine PySem.W.sorted_of_sort hl hz ha1 ha2 fun E' => ?_
  rw [ht, ← hD]
  have hoD : (PySem.W.copyHeap s.heap its).get? D = some (seqObj "list" its.toArray 0) := by rw [hD]; exact PySem.W.copyHeap_at s.heap its
  obtain ⟨e1, ho1⟩ : ∃ e1, ((PySem.W.copyHeap s.heap its).update D (Obj.mapSeq fun _ => (#[] : Array Value))).get? D = some (seqObj "list" #[] e1) := ⟨_, get?_update_seq hoD fun _ => #[]⟩
  obtain ⟨kS, hkS⟩ : ∃ kS, kS = (((PySem.W.copyHeap s.heap its).update D (Obj.mapSeq fun _ => (#[] : Array Value))).push (seqObj "tuple" its.toArray 0)).objs.size := ⟨_, rfl⟩
  have hcs : s.heap.objs.size ≤ (PySem.W.copyHeap s.heap its).objs.size := by
    have h1 : (D : Nat) < (PySem.W.copyHeap s.heap its).objs.size := Heap.lt_size hoD
    have h2 : (D : Nat) = s.heap.objs.size + 1 := hD
    omega
  have hkS2 : (kS : Nat) = (PySem.W.copyHeap s.heap its).objs.size + 1 := by rw [hkS, size_push', Heap.size_update]
  have hDn : (D : Nat) = s.heap.objs.size + 1 := hD
  have hkD : (D : Nat) < kS := by
    have h1 : (D : Nat) < (PySem.W.copyHeap s.heap its).objs.size := Heap.lt_size hoD
    omega
  unfold PyProof.Rows.ksk_tree
  refine wpAny_bind (listItems_at hoD rfl ?_)
  refine wpAny_bind (listUpdate_at hoD rfl ?_ (by rw [List.size_toArray]; exact hz) (Nat.zero_le _))
  refine wpAny_bind (seqEpoch_at ho1 rfl ?_)
  refine wpAny_bind (wpAny_newTuple ?_ (by show its.length ≤ _; exact hz))
  refine wpAny_bind (wpAny_newList ?_ (Nat.zero_le _))
  refine wpAny_holding ?_
  have old : ∀ b o, s.heap.get? b = some o → ((((PySem.W.copyHeap s.heap its).update D (Obj.mapSeq fun _ => (#[] : Array Value))).push (seqObj "tuple" its.toArray 0)).push (seqObj "list" #[] 0)).get? b = some o := fun b o e =>
    PySem.W.sortingHeap_old (h := PySem.W.copyHeap s.heap its) (a := D) (vs := its) (fun z => absurd (Heap.lt_size e) (by rw [z]; exact Nat.not_lt_of_le (by omega))) (PySem.W.copyHeap_old e)
  have nD : H D = none := I.hok.fresh (show s.heap.objs.size ≤ (D : Nat) by omega)
  have nK : H kS = none := I.hok.fresh (show s.heap.objs.size ≤ (kS : Nat) by omega)
  have fD := I.fpOk (b := D) (show s.heap.objs.size ≤ (D : Nat) by omega) nD
  have fK := I.fpOk (b := kS) (show s.heap.objs.size ≤ (kS : Nat) by omega) nK
  rw [← hkS]
  refine keyJ hz (fun i kA s' => ∃ as1 H1 ws, Inv X pins σ H1 s' ∧ Ext as H as1 H1 ∧ StR X.K as1 H1 st ∧ kA.size = i ∧ (∃ e, s'.heap.get? kS = some (seqObj "list" kA e)) ∧ s'.heap.get? D = some (seqObj "list" #[] e1) ∧
    FpOk X pins H1 kS ∧ FpOk X pins H1 D ∧ s'.heap.get? f = some of ∧ H1 f = none ∧ H1 c' = some (CodeO c' q) ∧ Vals ws kA.toList ∧ RpL X.K as1 H1 ws ((ds.take i).map kd)) (fun i kA s' ⟨_, _, _, _, _, _, h1, h2, _⟩ => ⟨h1, h2⟩) (fun i u kA s1 hx hJ => ?_) (fun kA s1 hJ => ?_) ?_
  · obtain ⟨as1, H1, ws, I1, x1, S1, hn, ⟨e, hkk⟩, hDD, f1, f2, f3, f4, f5, rv, rl⟩ := hJ
    obtain ⟨d, hd, v, rvu, rp⟩ := each_get eu hx
    have Ip : Inv X (pins ++ [(f, of), (kS, seqObj "list" kA e), (D, seqObj "list" #[] e1)]) σ H1 s1 := I1.pins_of fun p hp => by
      rcases List.mem_append.mp hp with m | m
      · exact I1.pin p (List.mem_append_right _ m)
      · rcases List.mem_cons.mp m with z | m
        · rw [z]; exact ⟨f3, f4, hfl, hfs, hfd⟩
        · rcases List.mem_cons.mp m with z | m
          · rw [z]; exact ⟨hkk, f1.1, f1.2.1, f1.2.2.1, fun v z => nomatch z⟩
          · rw [List.mem_singleton.mp m]; exact ⟨hDD, f2.1, f2.2.1, f2.2.2.1, fun v z => nomatch z⟩
    refine wpAny_mono (body u v d as1 H1 s1 _ Ip x1 S1 rvu (Rp.ext x1 rp) (List.mem_of_getElem? hd) f3 f5) (fun r s2 hr => ?_) fun _ _ z => z
    obtain ⟨w, H2, I2, rw', as2, x2, S2, hc2, r2⟩ := hr
    have p1 := I2.pin (f, of) (by simp)
    have p2 := I2.pin (kS, seqObj "list" kA e) (by simp)
    have p3 := I2.pin (D, seqObj "list" #[] e1) (by simp)
    have I3 := I2.unpinned
    have sb := Heap.SameBut.update s2.heap kS (Obj.mapSeq (·.push r))
    have g1 := FpOk.next f1 p2.2.1
    have I4 : Inv X pins σ H2 { s2 with heap := s2.heap.update kS (Obj.mapSeq (·.push r)), toks := s2.toks } := I3.turnedL (ch := [kS]) (fun b o hb e => (sb.2 b (by simpa using hb)).trans e) (fun b hb => by rw [List.mem_singleton.mp hb]; exact g1)
    have hfk : f ≠ kS := fun z => by
      have h1 := p1.1
      have h2 := p2.1
      rw [z, h2] at h1
      exact hfq _ _ (Option.some.inj h1).symm
    refine ⟨⟨e, p2.1⟩, as2, H2, ws ++ [w], I4, x1.trans x2, S2, by rw [Array.size_push, hn], ⟨_, get?_update_seq p2.1 (·.push r)⟩, (sb.2 D (Nat.ne_of_lt hkD)).trans p3.1, g1, FpOk.next f2 p3.2.1, (sb.2 f hfk).trans p1.1, p1.2.1, hc2, ?_, ?_⟩
    · have ea : (kA.push r).toList = kA.toList ++ [r] := by simp
      rw [ea]
      exact vals_snoc rv rw'
    · have et : ds.take (i + 1) = ds.take i ++ [d] := by rw [List.take_add_one, hd]; rfl
      rw [et, List.map_append]
      exact (RpL.ext x2 rl).append (.one r2)
  · obtain ⟨as1, H1, ws, I1, x1, S1, hn, ⟨e, hkk⟩, hDD, f1, f2, f3, f4, f5, rv, rl⟩ := hJ
    have hlen : its.length = ds.length := eu.length
    have et : ds.take its.length = ds := List.take_of_length_le (by omega)
    rw [et] at rl
    obtain ⟨i1, i2⟩ := each_reads I1 S1 (each_ud rv rl) fun d m => by
      obtain ⟨d0, m0, rfl⟩ := List.mem_map.mp m
      exact hk d0 m0
    have ek : (ds.map kd).map (kyD st) = ds.map fun d => kyD st (kd d) := by rw [List.map_map]; rfl
    rw [ek] at i1 i2
    have eu1 : PySem.W.EachIs (UD X.K as1 H1) its ds := eu.mono fun u d z => UD.ext x1 z
    obtain ⟨G, q1, q2⟩ := restrict s1.heap fun b => decide (b ≠ kS)
    have hI : X.A.in1.in1.units = X.A.units + 1 + 1 := rfl
    refine PySem.W.keyH_end (κ := PySem.W.dataKind s1.heap (ds.map fun d => kyD st (kd d))) (h₁ := G) (fun b o hb e => ?_) (q2 kS (by simp)) hkk hDD (Nat.ne_of_gt hkD) (PySem.W.SortsAt.data i1 hs.1 hs.2 fun d m => by have := i2 d m; omega) hn hz fun h3 tk3 c k3 n3 => ⟨rfl, ?_⟩
    · by_cases hb2 : b = kS
      · rw [hb2, q2 kS (by simp)] at e; cases e
      · rw [← q1 b (by simpa using hb2)]; exact e
    · have ko : PySem.W.KeyedOut b (ds.map fun d => kyD st (kd d)) its (PySem.W.sortVals (PySem.W.dataKind s1.heap (ds.map fun d => kyD st (kd d))) b kA.toList its) := ⟨s1.heap, kA.toList, hs.1, rfl, i1⟩
      obtain ⟨ys, r1, r2⟩ := ud_each (PySem.W.keyedOut_each (fun d => kyD st (kd d)) ko eu1)
      have hz' : ys.length ≤ sizeLine := by
        rw [r2.length, List.length_mergeSort, ← hlen]
        exact hz
      have I4 : Inv X pins σ (upd H1 D (.lst ys)) { s1 with heap := h3, toks := tk3 } := track_old I1 (ch := [kS, D]) (fun b o hb e => k3 b o (fun z => hb (by rw [z]; simp)) ((q1 b (by simpa using fun z : b = kS => hb (by rw [z]; simp))).trans e)) (fun b hb => by
        rcases List.mem_cons.mp hb with z | z
        · rw [z]; exact f1
        · rw [List.mem_singleton.mp z]; exact f2) (by simp) ⟨hz', _, c, r1, n3⟩
      exact ⟨.ref D, _, I4, rfl, h as1 H1 ys D x1 S1 f2.1 hz' r2⟩
  · refine ⟨as, H, [], I.kept (t' := s.toks) old, .refl _ _, S, rfl, ⟨0, ?_⟩, ?_, fK, fD, old _ _ hf, hfn, hco, .nil, .nil⟩
    · rw [hkS]
      exact Heap.get?_push_size _ rfl
    · exact Heap.get?_push_of_some _ (Heap.get?_push_of_some _ ho1)
end
end
end L2.PyD
/-! PyD, part 8f: the expression sorted(x, key=lambda y: ..[, reverse=True]). -/
namespace L2.PyD
open PySem PySem.Spec PyProof.Rows LamX
noncomputable section
theorem ext_of_N {K : PySem.W.Frag} {as : List Addr} {H H' : Hp} {st : Store} (S : StR K as H st) (eN : ExtN H H') (T : LamX.Tabs (tabT K) H') : Ext as H as H' ∧ StR K as H' st := by
  have x : Ext as H as H' := ⟨⟨[], by simp⟩, fun p o h _ n => eN p o h n, fun _ _ _ _ h => h⟩
  refine ⟨x, S.len, S.nd, fun i p c e1 e2 => ?_, T⟩
  have z := S.at_ i p c e1 e2
  refine z.ext x ?_
  match c, z with
  | .lst ds, ⟨xs, h, _⟩ => rw [h, eN _ _ h (fun _ z => nomatch z)]
  | .dct false _, ⟨_, o, h, _⟩ => rw [h, eN _ _ h (fun _ z => by unfold DX at z; cases z)]
  | .dct true _, ⟨_, o, od, h, _⟩ => rw [h, eN _ _ h (fun _ z => nomatch z)]
theorem codeO_keep {K : PySem.W.Frag} {as as' : List Addr} {H H' : Hp} {st : Store} {c' : Addr} {q : Str} (S : StR K as H st) (x : Ext as H as' H') (h : H c' = some (CodeO c' q)) : H' c' = some (CodeO c' q) := by
  refine x.keep _ _ h (.inl fun m => ?_) codeO_ne
  obtain ⟨c, hc⟩ := S.cellOf m
  match c, hc with
  | .lst ds, ⟨xs, h', _⟩ =>
    rw [h] at h'
    unfold CodeO at h'
    cases h'
  | .dct false _, ⟨_, o, h', _, _, es, ep, _, hd, _⟩ =>
    rw [h] at h'
    exact DX_code ⟨es, ep, hd⟩ (Option.some.inj h')
  | .dct true _, ⟨_, o, od, h', _⟩ =>
    rw [h] at h'
    unfold CodeO at h'
    cases h'
/-- the key of a datum -/
def kdOf (fb : Den) (env : Env) (j : Nat) (st : Store) (d : D) : D := match fb (env.set j (some d)) st with
  | .ok k _ => k
  | _ => .non
def keysOk (fb : Den) (env : Env) (j : Nat) (st : Store) (ds : List D) : Prop :=
  (∀ d ∈ ds, fb (env.set j (some d)) st = .ok (kdOf fb env j st d) st) ∧ (∀ d ∈ ds, (pyN st 20 (kdOf fb env j st d)).isSome = true) ∧ sortOk (ds.map fun d => kyD st (kdOf fb env j st d))
def gSrtK (fb : Den) (env : Env) (j : Nat) (rev : Bool) (st : Store) (x : D) : Option Rv := if lstO x then match seqD st x with
    | some it => if dec (keysOk fb env j st it.1) then some (.newL (srtD rev (fun d => kyD st (kdOf fb env j st d)) it.1)) else none
    | none => none
  else none
def dSrtK (mu rev : Bool) (j : Nat) (fa fb : Den) : Den := fun env st => (fa env st).bind fun x st1 => fin mu (gSrtK fb env j rev st1 x) st1
theorem gSrtK_inv {fb : Den} {env : Env} {j : Nat} {rev : Bool} {st : Store} {x : D} {rv : Rv} (h : gSrtK fb env j rev st x = some rv) :
    lstO x = true ∧ ∃ it, seqD st x = some it ∧ keysOk fb env j st it.1 ∧ rv = .newL (srtD rev (fun d => kyD st (kdOf fb env j st d)) it.1) := by
  unfold gSrtK at h
  by_cases hl : lstO x = true
  · rw [if_pos hl] at h
    cases e : seqD st x with
    | none => rw [e] at h; cases h
    | some it =>
      rw [e] at h
      simp only at h
      by_cases hk : dec (keysOk fb env j st it.1) = true
      · rw [if_pos hk] at h
        cases h
        exact ⟨hl, it, rfl, of_dec hk, rfl⟩
      · rw [if_neg hk] at h; cases h
  · rw [if_neg hl] at h; cases h
section
variable {X : Cx} {W : WX} {pos : Pos}
/-- how the keywords look: key alone, or reverse=True behind it -/
def kwOf (rev : Bool) (params : Arguments) (body : Expr) (scope : Scope) (lpos kp kp2 rp : Pos) (n : Nat) : List Keyword :=
  if rev then [⟨some "key", .Lambda params body scope lpos, kp⟩, ⟨some "reverse", .Constant (.bool true) n rp, kp2⟩] else [⟨some "key", .Lambda params body scope lpos, kp⟩]
theorem run_sorted {k j : Nat} {y : Str} {params : Arguments} {body : Expr} {scope : Scope} {fb : Den} {rev : Bool} {kw : Value → List (Str × Value)} (hu : X.A.units + 64 < cLine) (hN : X.N[j]? = some y) (nd : X.N.Nodup) (L : Lam1 X.env.scope scope y) (hr : Room (k + 3) X.A)
    (hbind : ∀ (cl : List (Str × Addr)) (pm cv ctv u : Value), bindArgs (PySem.W.kla_fn "<lambda>" (X.env.qual ++ "<lambda>") params body scope cl pm cv ctv) ⟨[u], []⟩ = pure [(y, u)])
    (hbody : ∀ (A : Around) (outer : List PySem.Env) (s : Shared) (H : Hp) (E : XK) (f c' : Addr), Room k (A.deeper (lamEnv X scope s.heap.objs.size f c')) → PE (lamCx X A outer s H E scope f c') body (RE X.K X.mg Wno fb))
    (ha1 : ∀ l v, argsOk "sorted" ⟨[.ref l], kw v⟩) (ha2 : ∀ x v, argsOk "list.sort" ⟨[.ref x], kw v⟩) (ht : ∀ x f, Builtin.«list.sort» ⟨[.ref x], kw (.ref f)⟩ = PyProof.Rows.ksk_tree x (.ref f) rev)
    {pins : List (Addr × Obj)} {s : Shared} {σ : L2.St} {H : Hp} {as : List Addr} {env : Env} {st : Store} {d : D} {v : V} {u : Value} {rv : Rv} {Q : VK} {f c' : Addr} {pm ctv : Value} (I : Inv X pins σ H s) (S : StR X.K as H st) (E : EnvR X.K as H σ env) (ru : RelV v u) (rd : Rp X.K as H v d) (e : gSrtK fb env j rev st d = some rv) (ok : ∀ as2 H2, Ext as H as2 H2 → StR X.K as2 H2 st → RvOk X.K as2 H2 st rv Q)
    (hf : s.heap.get? f = some (PySem.W.kla_obj "<lambda>" (X.env.qual ++ "<lambda>") params body scope (cloFrom X.env.cells scope.names []) pm c' ctv)) (hfn : H f = none) (hfr : f ∉ frs X.stack) (hco : H c' = some (CodeO c' (X.env.qual ++ "<lambda>"))) :
    wpAny (model X.prog X.w) X.A (call (.builtin "sorted") [u] (kw (.ref f))) (EP X pins σ Q) X.xe s := by
  obtain ⟨hl, it, e1, ⟨k1, k2, k3⟩, erv⟩ := gSrtK_inv e
  subst erv
  obtain ⟨g, a, ev, hh⟩ := seq_liesL hl S rd e1
  subst ev
  obtain rfl : u = Value.ref a := ru
  obtain ⟨xs, hq, z, rl⟩ := hh as H st (.refl _ _) S g
  obtain ⟨its, rvs, hlist, hz⟩ := I.list hq
  have hlen : its.length = xs.length := rvs.length.symm
  have hfl : f ≠ X.env.locals := fun z => by
    obtain ⟨m, ⟨o, es, ep, ho, hd, _⟩, _⟩ := I.loc
    rw [← z, hf] at ho
    cases ho
    cases hd
  have hfs : f ∉ X.fs := fun m => by
    rcases I.ok.stk with q | ⟨q, _⟩
    · rw [q] at hfr; exact hfr m
    · refine hfr ?_
      rw [q]
      unfold frs
      rw [List.filterMap_cons]
      split
      · exact m
      · exact List.mem_cons_of_mem _ m
  have hr2 : Room (k + 1) X.A.in1.in1 := (show Room (k + 2) X.A.in1 from Room.in1 hr).in1
  refine sorted_lam (q := X.env.qual ++ "<lambda>") (kd := kdOf fb env j st) I S hlist.isList (each_ud rvs rl) (by omega) hf hfn hfr hfl hfs (fun v z => nomatch z) (fun xs n z => by have := congrArg Obj.data z; cases this) hco hu k2 k3 (ha1 _ _) (fun x => ha2 x _) (fun x => ht x f) (fun u1 v1 d1 as1 H1 s1 pins1 I1 x1 S1 r1 p1 m1 hf1 hc1 => ?_) fun as2 H2 ys p x2 S2 hp hz2 r2 => ?_
  · refine lam_call I1 L hN nd r1 I.ok.frames hr2 hf1 hc1 (hbind _ _ _ _ _) (fun A outer s H E => hbody A outer s H E f c') ⟨as1, env.set j (some d1), st, (E.ext x1).set p1 j, S1, ?_⟩
    rw [k1 d1 m1]
    exact fun as' H' w x' S' r' => ⟨as', x', S', codeO_keep S1 x' hc1, r'⟩
  · exact ok as2 H2 x2 S2 p ys hp hz2 r2
/-- what the machine's state must hold of the tables where a lambda is made -/
structure LamAt (X : Cx) : Prop where
  ex : ∃ c P : Addr, TabB X.base X.mg c P ∧ X.env.code = .ref c ∧ (P, X.env.qual ++ "<lambda>") ∈ tabT X.K ∧ ∀ p ∈ tabT X.K, p.1 = P → p.2 = X.env.qual ++ "<lambda>"
/-- sorted(x, key=lambda y: body) -/
theorem pe_srtK {k j : Nat} {y : Str} {params : Arguments} {body e : Expr} {scope : Scope} {fa fb : Den} {mu : Bool} {p lpos kp : Pos} (hg : Gl X "sorted") (hm : X.mg "sorted" = none) (LA : LamAt X) (hu : X.A.units + 64 < cLine) (hN : X.N[j]? = some y) (nd : X.N.Nodup) (L : Lam1 X.env.scope scope y) (hr : Room (k + 3) X.A)
    (hdef : defaultsOf params X.env = ([], [])) (hbind : ∀ (cl : List (Str × Addr)) (pm cv ctv u : Value), bindArgs (PySem.W.kla_fn "<lambda>" (X.env.qual ++ "<lambda>") params body scope cl pm cv ctv) ⟨[u], []⟩ = pure [(y, u)])
    (hbody : ∀ (A : Around) (outer : List PySem.Env) (s : Shared) (H : Hp) (E : XK) (f c' : Addr), Room k (A.deeper (lamEnv X scope s.heap.objs.size f c')) → PE (lamCx X A outer s H E scope f c') body (RE X.K X.mg Wno fb))
    (ha : PE X e (RE X.K X.mg W fa)) (hs : starEach [e] X.env = [(false, eval e X.env)]) :
    PE X (.Call (.Name "sorted" p) [e] [⟨some "key", .Lambda params body scope lpos, kp⟩] pos) (RE X.K X.mg W (dSrtK mu false j fa fb)) := by
  refine ⟨fun pins s σ H Q I h => ?_⟩
  obtain ⟨as, env, st, E, S, h⟩ := h
  obtain ⟨c, P, TB, hcode, hmT, huT⟩ := LA.ex
  have hv : bootBuiltins ("sorted" : Str) = some (.builtin "sorted") := by decide +kernel
  have hes : backTo pos (starEach [e] X.env) = (false, eval e X.env) :: backTo pos (starEach [] X.env) := by rw [hs]; rfl
  refine wpAny_Call_Name_kw (ld_blt I hg hm hv ?_ (by decide) (by decide))
  refine PyProof.Rows.callWith_kw ?_ hes (by rw [hs]; rfl) (by rfl) (by rfl)
  have hA : PA X [e] (RA X.K X.mg W (aCons fa aNil)) := pa_cons' ha pa_nil' (by rw [hs]; rfl)
  refine thn (hA.run pos pins s σ H (fun vs H1 => ∃ as1 st1 v d rv, vs = [v] ∧ Ext as H as1 H1 ∧ EnvR X.K as1 H1 σ env ∧ StR X.K as1 H1 st1 ∧ Rp X.K as1 H1 v d ∧ gSrtK fb env j false st1 d = some rv ∧ (rv.put mu st1).wp (WV X.K as1 H1 Q) (WE X.K X.mg W as1 H1 σ)) I ?_) fun us s1 z => ?_
  · refine ⟨as, env, st, E, S, ?_⟩
    unfold dSrtK at h
    show ((fa env st).bind fun x st1 => (Out.ok ([] : List D) st1).bind fun xs st2 => .ok (x :: xs) st2).wp _ _
    cases hfa : fa env st with
    | bad => rw [hfa] at h; exact h.elim
    | exc x fs st1 => rw [hfa] at h; exact h
    | ok x st1 =>
      rw [hfa] at h
      have h : (fin mu (gSrtK fb env j false st1 x) st1).wp (WV X.K as H Q) (WE X.K X.mg W as H σ) := h
      intro as1 H1 vs x1 S1 rl
      obtain ⟨v, ev, rd⟩ := rl1 rl
      cases eg : gSrtK fb env j false st1 x with
      | none => rw [eg] at h; exact h.elim
      | some rv =>
        rw [eg] at h
        exact ⟨as1, st1, v, x, rv, ev, x1, E.ext x1, S1, rd, eg, Out.wp_mono h (fun _ _ _ z => z.ext x1) fun _ _ _ z => z.ext x1⟩
  · obtain ⟨vs, H1, I1, rvs, as1, st1, v, d, rv, evs, x1, E1, S1, r1, eg, hp⟩ := z
    subst evs
    obtain ⟨u, eu, ru⟩ := vals1 rvs
    subst eu
    show wpAny _ _ (evalAll ((do let v ← eval (.Lambda params body scope lpos) X.env; standAt pos; pure v) :: (backToKw pos (keywordEach [] X.env)).map (·.2))) _ _ s1
    refine wpAny_evalAll_cons (wpAny_bind (lam_make2 I1 TB hcode hmT huT S1.tabs hdef (L.has I1.ok) fun f c' pm' ctv H2 s2 I2 eN T2 hf hfn hfr hco => wpAny_bind (wpAny_standAt (wpAny_pure (wpAny_evalAll_nil ?_)))))
    obtain ⟨x2, S2⟩ := ext_of_N S1 eN T2
    exact run_sorted (kw := fun v => [(Str.ofString "key", v)]) hu hN nd L hr hbind hbody (fun l v => PyProof.Rows.ksk_s1 _ _) (fun x v => PyProof.Rows.ksk_l1 _ _) (fun x f => PyProof.Rows.ksk_t1 f x) I2 S2 (E1.ext x2) ru (Rp.ext x2 r1) eg
      (fun as3 H3 x3 S3 => rv_ok (mu := mu) S3 (Out.wp_mono hp (fun _ _ _ z => z.ext (x2.trans x3)) fun _ _ _ z => z)) hf hfn hfr hco
/-- sorted(x, key=lambda y: body, reverse=True) -/
theorem pe_srtKR {k j : Nat} {y : Str} {params : Arguments} {body e : Expr} {scope : Scope} {fa fb : Den} {mu : Bool} {p lpos kp kp2 rp : Pos} {rn : Nat} (hg : Gl X "sorted") (hm : X.mg "sorted" = none) (LA : LamAt X) (hu : X.A.units + 64 < cLine) (hN : X.N[j]? = some y) (nd : X.N.Nodup) (L : Lam1 X.env.scope scope y) (hr : Room (k + 3) X.A)
    (hdef : defaultsOf params X.env = ([], [])) (hbind : ∀ (cl : List (Str × Addr)) (pm cv ctv u : Value), bindArgs (PySem.W.kla_fn "<lambda>" (X.env.qual ++ "<lambda>") params body scope cl pm cv ctv) ⟨[u], []⟩ = pure [(y, u)])
    (hbody : ∀ (A : Around) (outer : List PySem.Env) (s : Shared) (H : Hp) (E : XK) (f c' : Addr), Room k (A.deeper (lamEnv X scope s.heap.objs.size f c')) → PE (lamCx X A outer s H E scope f c') body (RE X.K X.mg Wno fb))
    (ha : PE X e (RE X.K X.mg W fa)) (hs : starEach [e] X.env = [(false, eval e X.env)]) :
    PE X (.Call (.Name "sorted" p) [e] [⟨some "key", .Lambda params body scope lpos, kp⟩, ⟨some "reverse", .Constant (.bool true) rn rp, kp2⟩] pos) (RE X.K X.mg W (dSrtK mu true j fa fb)) := by
  refine ⟨fun pins s σ H Q I h => ?_⟩
  obtain ⟨as, env, st, E, S, h⟩ := h
  obtain ⟨c, P, TB, hcode, hmT, huT⟩ := LA.ex
  have hv : bootBuiltins ("sorted" : Str) = some (.builtin "sorted") := by decide +kernel
  have hes : backTo pos (starEach [e] X.env) = (false, eval e X.env) :: backTo pos (starEach [] X.env) := by rw [hs]; rfl
  refine wpAny_Call_Name_kw (ld_blt I hg hm hv ?_ (by decide) (by decide))
  refine PyProof.Rows.callWith_kw ?_ hes (by rw [hs]; rfl) (by rfl) (by rfl)
  have hA : PA X [e] (RA X.K X.mg W (aCons fa aNil)) := pa_cons' ha pa_nil' (by rw [hs]; rfl)
  refine thn (hA.run pos pins s σ H (fun vs H1 => ∃ as1 st1 v d rv, vs = [v] ∧ Ext as H as1 H1 ∧ EnvR X.K as1 H1 σ env ∧ StR X.K as1 H1 st1 ∧ Rp X.K as1 H1 v d ∧ gSrtK fb env j true st1 d = some rv ∧ (rv.put mu st1).wp (WV X.K as1 H1 Q) (WE X.K X.mg W as1 H1 σ)) I ?_) fun us s1 z => ?_
  · refine ⟨as, env, st, E, S, ?_⟩
    unfold dSrtK at h
    show ((fa env st).bind fun x st1 => (Out.ok ([] : List D) st1).bind fun xs st2 => .ok (x :: xs) st2).wp _ _
    cases hfa : fa env st with
    | bad => rw [hfa] at h; exact h.elim
    | exc x fs st1 => rw [hfa] at h; exact h
    | ok x st1 =>
      rw [hfa] at h
      have h : (fin mu (gSrtK fb env j true st1 x) st1).wp (WV X.K as H Q) (WE X.K X.mg W as H σ) := h
      intro as1 H1 vs x1 S1 rl
      obtain ⟨v, ev, rd⟩ := rl1 rl
      cases eg : gSrtK fb env j true st1 x with
      | none => rw [eg] at h; exact h.elim
      | some rv =>
        rw [eg] at h
        exact ⟨as1, st1, v, x, rv, ev, x1, E.ext x1, S1, rd, eg, Out.wp_mono h (fun _ _ _ z => z.ext x1) fun _ _ _ z => z.ext x1⟩
  · obtain ⟨vs, H1, I1, rvs, as1, st1, v, d, rv, evs, x1, E1, S1, r1, eg, hp⟩ := z
    subst evs
    obtain ⟨u, eu, ru⟩ := vals1 rvs
    subst eu
    show wpAny _ _ (evalAll ((do let v ← eval (.Lambda params body scope lpos) X.env; standAt pos; pure v) :: (backToKw pos (keywordEach [⟨some "reverse", .Constant (.bool true) rn rp, kp2⟩] X.env)).map (·.2))) _ _ s1
    refine wpAny_evalAll_cons (wpAny_bind (lam_make2 I1 TB hcode hmT huT S1.tabs hdef (L.has I1.ok) fun f c' pm' ctv H2 s2 I2 eN T2 hf hfn hfr hco => wpAny_bind (wpAny_standAt (wpAny_pure (wpAny_evalAll_cons (wpAny_bind (wpAny_pure (wpAny_bind (wpAny_standAt (wpAny_pure (wpAny_evalAll_nil ?_)))))))))))
    obtain ⟨x2, S2⟩ := ext_of_N S1 eN T2
    exact run_sorted (kw := fun v => [(Str.ofString "key", v), (Str.ofString "reverse", .bool true)]) hu hN nd L hr hbind hbody (fun l v => PyProof.Rows.ksk_s2 _ _ _) (fun x v => PyProof.Rows.ksk_l2 _ _ _) (fun x f => PyProof.Rows.ksk_t2 f x true) I2 S2 (E1.ext x2) ru (Rp.ext x2 r1) eg
      (fun as3 H3 x3 S3 => rv_ok (mu := mu) S3 (Out.wp_mono hp (fun _ _ _ z => z.ext (x2.trans x3)) fun _ _ _ z => z)) hf hfn hfr hco
end
end
end L2.PyD
/-! Mx: max(list, default=..); sorted({.. for ..}) of ints. -/
namespace L2.PyD
open PySem PySem.Spec PyProof.Rows
noncomputable section
def gMaxD (st : Store) (x d : D) : Option D := match lstD st x with
  | some ds => match intsOf ds with
    | some [] => some d
    | some (n :: r) => some (.int (maxI (n :: r)))
    | none => none
  | none => none
def dMaxD (fa fd : Den) : Den := fun env st => (fa env st).bind fun x st1 => (fd env st1).bind fun d st2 => match gMaxD st2 x d with
  | some r => .ok r st2
  | none => .bad
theorem reads_ints {h : Heap} : ∀ {ns : List Int} {vs : List Value}, Vals (ns.map V.int) vs → ReadsAll h vs (ns.map PyData.int) []
  | [], _, r => by cases r; exact .nil
  | n :: ns, _, .cons r rr => by
    obtain ⟨t, rfl⟩ := r
    exact ReadsAll.cons (as := []) (bs := []) (.int n t) (reads_ints rr)
theorem depth_ints : ∀ ns : List Int, PyData.depthAll (ns.map PyData.int) ≤ 1
  | [] => by simp [PyData.depthAll]
  | n :: ns => by
    have := depth_ints ns
    simp [PyData.depthAll, PyData.depth]
    omega
theorem alike_ints (ns : List Int) : PySem.W.AlikeAll (ns.map PyData.int) := by
  refine ⟨fun x hx y hy => ?_, fun x hx => ?_⟩
  · obtain ⟨a, _, rfl⟩ := List.mem_map.mp hx
    obtain ⟨b, _, rfl⟩ := List.mem_map.mp hy
    rfl
  · obtain ⟨a, _, rfl⟩ := List.mem_map.mp hx
    exact fun z => nomatch z
section
variable {X : Cx} {W : WX} {pos : Pos}
def maxOr (d : V) : List Int → V
  | [] => d
  | n :: r => .int (maxI (n :: r))
def rMaxD (K : PySem.W.Frag) : List V → List V → Hp → VK → Prop := fun xs zs H Q => ∃ (a : Addr) (d : V) (ns : List Int), xs = [.ref a] ∧ zs = [d] ∧ SqL K H a (ns.map V.int) ∧ Q (maxOr d ns) H
theorem cr_maxD (hc : X.calm = true) (hu : X.A.units + 64 < cLine) : CallRK X (.builtin "max") [Str.ofString "default"] (rMaxD X.K) := by
  intro pins s σ H xs zs us ws Q I rx rz h
  obtain ⟨a, d, ns, rfl, rfl, hq, q⟩ := h
  obtain ⟨u, rfl, ru⟩ := vals1 rx
  obtain ⟨w', rfl, rd⟩ := vals1 rz
  obtain rfl : u = .ref a := ru
  obtain ⟨its, rv, pl, hz⟩ := I.list hq
  have hd := depth_ints ns
  refine PySem.W.max_list_default (xs := ns.map PyData.int) (I.ok.hd hc) pl.isList (by simpa using reads_ints (h := s.heap) rv) (alike_ints ns) (by omega) (fun e h' tk hk => ?_) fun y ys i v h' tk bs e hv r hk => ?_
  · have : ns = [] := by simpa using e
    subst this
    exact ⟨d, H, I.kept hk, rd, q⟩
  · cases ns with
    | nil => cases e
    | cons n l =>
      rw [List.map_cons] at e
      injection e with e1 e2
      subst e1 e2
      rw [PySem.W.maxD_ints] at r
      have er : ∃ m, m = List.foldl max n l := ⟨_, rfl⟩
      obtain ⟨m, hm⟩ := er
      rw [← hm] at r
      cases r with
      | int i' t =>
        refine ⟨.int m, H, I.kept hk, ⟨t, rfl⟩, ?_⟩
        rw [hm]
        exact q
/-- max(e, default=d) -/
theorem pe_maxD' {e d : Expr} {np kp : Pos} {fa fd : Den} (hc : X.calm = true) (hu : X.A.units + 64 < cLine) (hg : Gl X "max") (hm : X.mg "max" = none) (ha : PE X e (RE X.K X.mg W fa)) (hd : PE X d (RE X.K X.mg W fd)) (hs : starEach [e] X.env = (false, eval e X.env) :: starEach [] X.env) :
    PE X (.Call (.Name "max" np) [e] [⟨some "default", d, kp⟩] pos) (RE X.K X.mg W (dMaxD fa fd)) := by
  refine PE.re (pe_callBK (ks := [Str.ofString "default"]) (cr_maxD hc hu) hg hm (by decide +kernel) (pa_cons ha pa_nil hs) (pk_cons hd pk_nil) (he := by rw [hs]; rfl) (hpl := by rw [hs]; rfl)) fun σ H Q h => ?_
  obtain ⟨as, env, st, E, S, h⟩ := h
  refine re_then E S h fun r st1 as1 H1 v x1 E1 S1 r1 h1 => re_then E1 S1 h1 fun r' st2 as2 H2 v2 x2 E2 S2 r2 h2 => ?_
  split at h2
  · rename_i z ez
    have r1 := Rp.ext x2 r1
    unfold gMaxD at ez
    cases e1 : lstD st2 r with
    | none => rw [e1] at ez; cases ez
    | some ds =>
      rw [e1] at ez
      simp only at ez
      cases e2 : intsOf ds with
      | none => rw [e2] at ez; cases ez
      | some is =>
        rw [e2] at ez
        obtain ⟨a, xs, ev, hq, zz, rl⟩ := lst_now S2 r1 e1
        subst ev
        have := ints_ok rl e2
        subst this
        refine ⟨a, v2, is, rfl, rfl, hq, ?_⟩
        cases is with
        | nil => cases ez; exact h2 as2 H2 _ (x1.trans x2) S2 r2
        | cons n t => cases ez; exact h2 as2 H2 _ (x1.trans x2) S2 (.int _)
  · exact h2.elim
end

/-! ### sets of ints, made and sorted at once -/
def insI (k : Int) : List Int → List Int
  | [] => [k]
  | x :: r => if k < x then k :: x :: r else if k = x then x :: r else x :: insI k r
theorem insI_mem (k j : Int) : ∀ l : List Int, j ∈ insI k l ↔ j = k ∨ j ∈ l
  | [] => by simp [insI]
  | x :: r => by
    unfold insI
    split
    · simp
    · split
      · rename_i h; subst h; simp
      · rw [List.mem_cons, insI_mem k j r, List.mem_cons]
        constructor <;> intro h <;> rcases h with h | h | h <;> simp [h]
theorem insI_sorted (k : Int) : ∀ {l : List Int}, l.Pairwise (· < ·) → (insI k l).Pairwise (· < ·)
  | [], _ => by simp [insI]
  | x :: r, h => by
    obtain ⟨h1, h2⟩ := List.pairwise_cons.mp h
    unfold insI
    split
    · rename_i c
      refine List.pairwise_cons.mpr ⟨fun y hy => ?_, h⟩
      rcases List.mem_cons.mp hy with e | e
      · rw [e]; exact c
      · exact Int.lt_trans c (h1 y e)
    · split
      · exact h
      · rename_i c d
        refine List.pairwise_cons.mpr ⟨fun y hy => ?_, insI_sorted k h2⟩
        rcases (insI_mem k y r).mp hy with e | e
        · rw [e]; omega
        · exact h1 y e
theorem insI_len (k : Int) : ∀ {l : List Int}, l.Pairwise (· < ·) → (insI k l).length = if k ∈ l then l.length else l.length + 1
  | [], _ => by simp [insI]
  | x :: r, h => by
    obtain ⟨h1, h2⟩ := List.pairwise_cons.mp h
    unfold insI
    split
    · rename_i c
      have : k ∉ x :: r := fun m => by
        rcases List.mem_cons.mp m with e | e
        · omega
        · have := h1 k e; omega
      rw [if_neg this]
      rfl
    · split
      · rename_i d; subst d; simp
      · rename_i c d
        rw [List.length_cons, insI_len k h2]
        by_cases m : k ∈ r
        · rw [if_pos m, if_pos (List.mem_cons_of_mem _ m)]; rfl
        · rw [if_neg m, if_neg (fun z => by rcases List.mem_cons.mp z with e | e; exact d e; exact m e)]; rfl
theorem sorted_uniq : ∀ {l m : List Int}, l.Pairwise (· < ·) → m.Pairwise (· < ·) → (∀ k, k ∈ l ↔ k ∈ m) → l = m
  | [], [], _, _, _ => rfl
  | [], y :: m, _, _, h => absurd ((h y).mpr (List.mem_cons_self ..)) (by simp)
  | x :: l, [], _, _, h => absurd ((h x).mp (List.mem_cons_self ..)) (by simp)
  | x :: l, y :: m, hl, hm, h => by
    obtain ⟨l1, l2⟩ := List.pairwise_cons.mp hl
    obtain ⟨m1, m2⟩ := List.pairwise_cons.mp hm
    have e : x = y := by
      rcases List.mem_cons.mp ((h x).mp (List.mem_cons_self ..)) with a | a
      · exact a
      · rcases List.mem_cons.mp ((h y).mpr (List.mem_cons_self ..)) with b | b
        · exact b.symm
        · have := l1 y b; have := m1 x a; omega
    subst e
    rw [sorted_uniq l2 m2 fun k => ?_]
    constructor
    · intro a
      rcases List.mem_cons.mp ((h k).mp (List.mem_cons_of_mem _ a)) with b | b
      · have := l1 k a; omega
      · exact b
    · intro a
      rcases List.mem_cons.mp ((h k).mpr (List.mem_cons_of_mem _ a)) with b | b
      · have := m1 k a; omega
      · exact b
open Classical in
def gdoA {α : Type} (src : Option (Nat × Cell)) (k : Store → Out α) (s : Store) : Out α := if Gd src s then k s else .bad
theorem gdoA_pos {α : Type} {src : Option (Nat × Cell)} {k : Store → Out α} {s : Store} (h : Gd src s) : gdoA src k s = k s := if_pos h
theorem gdoA_wp {α : Type} {src : Option (Nat × Cell)} {k : Store → Out α} {s : Store} {β : Type} {f : α → Store → Out β} {P : β → Store → Prop} {E : Str → List (Str × D) → Store → Prop} (h : ((gdoA src k s).bind f).wp P E) : Gd src s ∧ ((k s).bind f).wp P E := by
  by_cases hG : Gd src s
  · rw [gdoA_pos hG] at h; exact ⟨hG, h⟩
  · rw [show gdoA src k s = .bad from if_neg hG] at h; exact h.elim
def compS (src : Option (Nat × Cell)) (env0 : Env) (g : DenT) (c : DenB) (e : Den) : List D → List Int → Store → Out (List Int)
  | [], acc, s => .ok acc s
  | x :: xs, acc, s => match g x env0 with
    | none => .bad
    | some e1 => (c e1 s).nox.bind fun b s1 => if b then (e e1 s1).nox.bind fun y s2 => match intO y with
        | some k => if acc.length < 63 then gdoA src (compS src env0 g c e xs (insI k acc)) s2 else .bad
        | none => .bad
      else gdoA src (compS src env0 g c e xs acc) s1
def dSSet (mu : Bool) (fi : DenI) (vs : List Nat) (g : DenT) (c : DenB) (e : Den) : Den := fun env st => (fi env st).bind fun it st1 => (compS it.2 (wipeE env vs) g c e it.1 [] st1).bind fun ns s => fin mu (some (.newL (ns.map D.int))) s
/-! an object that is no datum changes -/
section
variable {K : PySem.W.Frag} {as : List Addr} {H : Hp} {d : Addr} {φ : Heap → Prop} {o : HO}
theorem oth_at (hd : H d = some (.ext φ)) {p : Addr} {u : HO} (e : H p = some u) (n : ∀ ψ, u ≠ .ext ψ) : upd H d o p = some u := by
  rw [upd_ne (fun z => by rw [z, hd] at e; exact n φ (Option.some.inj e).symm)]
  exact e
theorem SqT.oth (hd : H d = some (.ext φ)) {p : Addr} {xs : List V} (h : SqT K H p xs) : SqT K (upd H d o) p xs := by
  rcases h with (h | ⟨o', h⟩) | h
  · exact .inl (.inl (oth_at hd h (fun _ z => nomatch z)))
  · exact .inl (.inr ⟨o', oth_at hd h (fun _ z => nomatch z)⟩)
  · exact .inr h
theorem FixL.oth (hd : H d = some (.ext φ)) {p : Addr} {xs : List V} (h : FixL K as H p xs) : FixL K as (upd H d o) p xs := by
  rcases h with ⟨o', h⟩ | h | ⟨h, m⟩
  · exact .inl ⟨o', oth_at hd h (fun _ z => nomatch z)⟩
  · exact .inr (.inl h)
  · exact .inr (.inr ⟨oth_at hd h (fun _ z => nomatch z), m⟩)
mutual
theorem Rp.oth (hd : H d = some (.ext φ)) : ∀ {v : V} {x : D}, Rp K as H v x → Rp K as (upd H d o) v x
  | _, _, .non => .non
  | _, _, .bl b => .bl b
  | _, _, .int i => .int i
  | _, _, .str s => .str s
  | _, _, .ty n => .ty n
  | _, _, .tup h z r => .tup (SqT.oth hd h) z (RpL.oth hd r)
  | _, _, .lst h c z r => .lst (oth_at hd h (fun _ z => nomatch z)) c z (RpL.oth hd r)
  | _, _, .frl h z r => .frl (FixL.oth hd h) z (RpL.oth hd r)
  | _, _, .cell h => .cell h
theorem RpL.oth (hd : H d = some (.ext φ)) : ∀ {vs : List V} {xs : List D}, RpL K as H vs xs → RpL K as (upd H d o) vs xs
  | _, _, .nil => .nil
  | _, _, .cons h r => .cons (Rp.oth hd h) (RpL.oth hd r)
end
theorem EntR.oth (hd : H d = some (.ext φ)) : ∀ {xs : List Ent} {kvs : Kvs}, EntR K as H xs kvs → EntR K as (upd H d o) xs kvs
  | _, _, .nil => .nil
  | _, _, .cons ⟨h1, h2, v, h3, h4⟩ r => .cons ⟨h1, ⟨SqT.oth hd h2.1, h2.2⟩, v, h3, Rp.oth hd h4⟩ (EntR.oth hd r)
theorem DatR.oth (hd : H d = some (.ext φ)) {u : Obj} {kvs : Kvs} (h : DatR K as H u kvs) : DatR K as (upd H d o) u kvs := by
  obtain ⟨z, hx, es, ep, xs, h1, h2, h3, r⟩ := h
  exact ⟨z, hx, es, ep, xs, h1, h2, h3, r.oth hd⟩
theorem EnvR.oth (hd : H d = some (.ext φ)) {σ : St} {env : Env} (E : EnvR K as H σ env) : EnvR K as (upd H d o) σ env :=
  ⟨E.len, fun i x e => by obtain ⟨v, h1, h2⟩ := E.at_ i x e; exact ⟨v, h1, Rp.oth hd h2⟩⟩
theorem StR.oth {st : Store} (hd : H d = some (.ext φ)) (hn : d ∉ as) (hc : ∀ q, H d ≠ some (LamX.CodeO d q)) (S : StR K as H st) : StR K as (upd H d o) st := by
  refine ⟨S.len, S.nd, fun j p cc e1 e2 => ?_, ?_⟩
  · have np : p ≠ d := fun z => hn (by rw [← z]; exact List.mem_of_getElem? e1)
    have me := S.at_ j p cc e1 e2
    match cc, me with
    | .lst ds, ⟨xs, h, z, r⟩ => exact ⟨xs, by rw [upd_ne np]; exact h, z, RpL.oth hd r⟩
    | .dct false _, ⟨z, u, h, r⟩ => exact ⟨z, u, by rw [upd_ne np]; exact h, r.oth hd⟩
    | .dct true _, ⟨z, u, uo, h, r⟩ => exact ⟨z, u, uo, by rw [upd_ne np]; exact h, r.oth hd⟩
  · intro q hq
    obtain ⟨ps, h1, h2, h3⟩ := S.tabs q hq
    refine ⟨ps, oth_at hd h1 (fun _ z => nomatch z), h2, fun pos cv e => ?_⟩
    obtain ⟨c, e1, e2⟩ := h3 pos cv e
    refine ⟨c, e1, ?_⟩
    rw [upd_ne (fun z => by subst z; exact hc _ e2)]
    exact e2
end
theorem set_code {w : World} {p : Addr} {S : Int → Bool} {n : Nat} {q : Str} : SetO w p S n ≠ LamX.CodeO p q := fun e => by
  unfold LamX.CodeO SetO at e
  have e2 := HO.ext.inj e
  let oc : Obj := { cls := .none, data := .fields #[.none, .str q 0] }
  let h : Heap := { objs := Array.replicate (p + 1) oc }
  have hg : h.get? p = some oc := by
    unfold Heap.get?
    have : h.objs[p]? = some oc := by simp [h]
    rw [this]
  obtain ⟨o, es, ep, t, ho, hex, hd, _⟩ := (congrFun e2 h).mpr ⟨oc, _, 0, hg, rfl, rfl⟩
  rw [hg] at ho
  rw [← Option.some.inj ho] at hd
  cases hd

abbrev setO (w : World) (D : Addr) (acc : List Int) : HO := SetO w D (fun j => decide (j ∈ acc)) acc.length
theorem setO_nil {w : World} {D : Addr} : setO w D [] = SetO w D (fun _ => false) 0 := by
  have e : (fun j : Int => decide (j ∈ ([] : List Int))) = fun _ => false := by
    funext j
    simp
  unfold setO
  rw [e]
  rfl
theorem setO_add {w : World} {D : Addr} {acc : List Int} {k : Int} (h : acc.Pairwise (· < ·)) : SetO w D (fun j => decide (j ∈ acc) || decide (j = k)) (if decide (k ∈ acc) = true then acc.length else acc.length + 1) = setO w D (insI k acc) := by
  have e1 : (fun j => decide (j ∈ acc) || decide (j = k)) = fun j => decide (j ∈ insI k acc) := by
    funext j
    rw [Bool.eq_iff_iff]
    simp only [Bool.or_eq_true, decide_eq_true_eq, insI_mem]
    exact Or.comm
  have e2 : (if decide (k ∈ acc) = true then acc.length else acc.length + 1) = (insI k acc).length := by
    rw [insI_len k h]
    simp only [decide_eq_true_eq]
  rw [e1, e2]
def tSx (w : World) (wi : TI) (g : TG) (tt : TT) (te : TE) (vs : List Nat) : TE := fun σ H Q => wi σ H fun J H1 => ∀ D, H1 D = none → ∃ W : Nat → Nat → Hp → Prop, (∃ m, W 0 m (upd H1 D (setO w D []))) ∧ ∀ i m H, W i m H →
  (J.stop i H ∧ Q (.ref D) H) ∨ (J.go i H ∧ ∃ N : Hp → Prop, (∀ H', N H' → ∃ m', m' < m ∧ W (i + 1) m' H') ∧ ∀ x H', J.yld i H x H' → g x (wipe σ vs) H' fun σ2 H2 => wipe σ2 vs = wipe σ vs ∧ tt σ2 H2 fun b H3 =>
    if b = true then te σ2 H3 fun y H4 => ∃ (k : Int) (acc : List Int), y = .int k ∧ H4 D = some (setO w D acc) ∧ acc.length < 63 ∧ acc.Pairwise (· < ·) ∧ N (upd H4 D (setO w D (insI k acc))) else N H3)
section
variable {X : Cx}
theorem sx_core {pins : List (Addr × Obj)} {s : Shared} {σ : St} {H : Hp} {Q : VK} {use : Option (Value → Sem Unit)} {Qf : Value → Shared → Prop} {elt tg iter : Expr} {ifs : List Expr} {scope : Scope} {own : List (Str × Nat)} {pos pos' : Pos} {wi : TI} {g : TG} {tt : TT} {te : TE} (hc : X.calm = true) (hN : X.N.Nodup) (I : Inv X pins σ H s) (hi : PI X tg iter wi) (ok : BlkOk X.N X.env.scope scope own)
    (hg : ∀ (s : Shared) (H : Hp) (C : Addr) (cl : List (Str × Addr)) (fp : List Addr), PG (X.blk s H scope (compEnvC scope cl C X.env) fp) tg g)
    (ht : ∀ (s : Shared) (H : Hp) (C : Addr) (cl : List (Str × Addr)) (fp : List Addr), PTs (X.blk s H scope (compEnvC scope cl C X.env) fp) ifs tt)
    (he : ∀ (s : Shared) (H : Hp) (C : Addr) (cl : List (Str × Addr)) (fp : List Addr), PE (X.blk s H scope (compEnvC scope cl C X.env) fp) elt te)
    (hs : ∀ x, foldedSetIterable iter X.env x = pure x) (h : tSx X.w wi g tt te (own.map (·.2)) σ H Q)
    (last : ∀ D C s' m H', Inv X pins σ H' s' → Q (.ref D) H' → s'.heap.Ns C m → FpOk X pins H' C → compPost (model X.prog X.w) X.A X.xe use Qf (.ref D) C (.ok .next) s') :
    wpAny (model X.prog X.w) X.A (comprehension (.SetComp elt [⟨tg, iter, ifs, 0⟩] scope pos) scope X.env pos' (newSet (.type "set")) false (eval iter X.env) use) Qf X.xe s := by
  have frees : ∀ y ∈ scope.names, y.2 = .free → ∃ c, X.env.cells.lookup y.1 = some c := fun y hy e => by
    rcases ok.free y hy e with k | k <;> first | exact I.ok.has _ (.inl k) | exact I.ok.has _ (.inr k)
  refine wpAny_comprehension_free rfl hs (closure_ok frees) ok.kind (fun y hy e => by rw [ok.uniq y hy, e]) (thn (hi.run pins s σ H _ I h) fun xv sa hx => thn hx fun itv sb hb => ?_)
  obtain ⟨it, fp, tn, J, Hb, e, Ib, T, stb, fb, q⟩ := hb
  subst e
  refine PpSet.newSet_ok (newEnv_comp ?_)
  generalize hD : sb.heap.objs.size = D
  obtain ⟨W, ⟨m0, w0⟩, turn⟩ := q D (Ib.hok.fresh (Nat.le_of_eq hD))
  generalize hsc : ({ sb with heap := sb.heap.push { cls := .type "set", dict := none, data := .set #[] 0 (.fresh 0 0 (!X.w.params.followText "set-order")) } } : Shared) = sc
  have Ic : Inv X pins σ (upd Hb D (setO X.w D [])) sc := by
    rw [← hsc, setO_nil]
    refine Ib.laid (t' := sb.toks) (fun _ _ q => Heap.get?_push_of_some _ q) (Nat.le_of_eq hD) ?_
    rw [← hD]
    exact setO_new (setR_fresh X.w)
  have hh : sc.heap = sb.heap.push { cls := .type "set", dict := none, data := .set #[] 0 (.fresh 0 0 (!X.w.params.followText "set-order")) } := by rw [← hsc]
  have low : ∀ b ∈ fp, b < sb.heap.objs.size := fun b hb => let ⟨o, e, _⟩ := T.obj _ _ stb b hb; Heap.lt_size e
  have fc : ∀ b ∈ fp, FpOk X pins (upd Hb D (setO X.w D [])) b ∧ b < sc.heap.objs.size := fun b hb => by
    refine ⟨⟨?_, (fb b hb).2⟩, by rw [hh, Heap.size_push]; exact Nat.lt_succ_of_lt (low b hb)⟩
    rw [upd_ne (by rw [← hD]; exact Nat.ne_of_lt (low b hb))]
    exact (fb b hb).1
  have stc : tn 0 sc.heap := T.keep _ _ _ stb fun b _ o e => by rw [hh]; exact Heap.get?_push_of_some _ e
  have Id := block_start Ic ok hN fc
  generalize hH : upd Hb D (setO X.w D []) = Hc at Ic Id w0 fc
  generalize hcl : cellsFrom (sc.heap.objs.size + 1) scope.names (cloFrom X.env.cells scope.names []) = cl at Id ⊢
  have pg := hg sc Hc sc.heap.objs.size cl fp
  have pt := ht sc Hc sc.heap.objs.size cl fp
  have pe := he sc Hc sc.heap.objs.size cl fp
  show codeAny _ _ (.compStart (.SetComp elt [⟨tg, iter, ifs, 0⟩] scope pos) 0 (.ref it) (.ref D) (compEnvC scope cl sc.heap.objs.size X.env)) (compPost (model X.prog X.w) X.A X.xe use Qf (.ref D) sc.heap.objs.size) { sc with heap := pushCells (sc.heap.push { cls := .type "dict", data := .dict #[] }) scope.names }
  have none0 : ∀ b ∈ fp, Hc b = none := fun b hb => (fc b hb).1.1
  generalize hce : compEnvC scope cl sc.heap.objs.size X.env = ce at Id pg pt pe ⊢
  have cL : ce.locals = sc.heap.objs.size := by subst hce; rfl
  generalize hsd : ({ sc with heap := pushCells (sc.heap.push { cls := .type "dict", data := .dict #[] }) scope.names } : Shared) = sd at Id ⊢
  have std : tn 0 sd.heap := T.keep _ _ _ stc fun b _ o e => by rw [← hsd]; exact pushCells_keeps _ _ _ _ (Heap.get?_push_of_some _ e)
  have stat : ∀ {σ' : St} {H' : Hp} {s' : Shared}, Inv (X.blk sc Hc scope ce fp) [] σ' H' s' → (∀ b ∈ fp, H' b = none) → ∀ b ∈ fp, FpOk (X.blk sc Hc scope ce fp) [] H' b := fun {σ' H' s'} J' hn b hb =>
    ⟨hn b hb, (J'.ok.exf b hb).1, J'.ok.exfs b hb, .inl hb, fun x c e => (J'.ok.exf b hb).2 x c e, fun p hp => absurd (show p ∈ ([] : List (Addr × Obj)) ++ [] from hp) (by simp)⟩
  have loop : codeAny (model X.prog X.w) X.A (.compLoop (.SetComp elt [⟨tg, iter, ifs, 0⟩] scope pos) 0 (.ref it) (.ref D) ce) (compPost (model X.prog X.w) X.A X.xe use Qf (.ref D) sc.heap.objs.size) sd := by
    refine PpSet.compLoopS_any (fun n s' => ∃ i H', Inv (X.blk sc Hc scope ce fp) [] (wipe σ (own.map (·.2))) H' s' ∧ tn i s'.heap ∧ (∀ b ∈ fp, H' b = none) ∧ W i n H') ?_ m0 ⟨0, Hc, Id, std, none0, w0⟩
    rintro n se ⟨i, He, Ie, ste, ne, we⟩
    rcases turn i n He we with ⟨stop, fin⟩ | ⟨go, N, hNx, step⟩
    · have td := T.done (X.blk sc Hc scope ce fp) rfl rfl rfl hc i [] se _ He (fun _ _ => False) Ie (stat Ie ne) ste stop
      refine thnF td fun r sf ⟨hr, If⟩ => ?_
      subst hr
      have Ig : Inv X pins σ He sf := Ic.call' (ch := fp) If.os If.base If.hok If.bare fun b hb => ⟨(fc b hb).1.2.2.2.1, (fc b hb).1.2.1, (fc b hb).1.2.2.2.2.1, (fc b hb).1.2.2.2.2.2⟩
      have nC : He sc.heap.objs.size = none := by
        have z : He ce.locals = none := If.free
        rwa [cL] at z
      obtain ⟨m, hn, _⟩ := If.loc
      have hn : sf.heap.Ns ce.locals m := hn
      rw [cL] at hn
      exact last D sc.heap.objs.size sf m He Ig fin hn (Ic.fpOk (Nat.le_refl _) nC)
    · have ti := T.item (X.blk sc Hc scope ce fp) rfl rfl rfl hc i [] se _ He (fun _ _ => False) Ie (stat Ie ne) ste go
      refine thnF ti fun r sf ⟨u, hr, hf⟩ => ?_
      subst hr
      refine thnF hf fun _ sg ⟨x, Hg, Ig, rg, yg, stg, ng⟩ => ?_
      have Ip := Ig.pinned (stat Ig ng) (T.obj _ _ stg)
      refine thnF (pg.run _ sg _ Hg x u _ Ip rg (step x Hg yg)) fun _ sh ⟨σh, Hh, Ih, wh, qh⟩ => ?_
      refine thnF (pt.run _ sh σh Hh _ Ih qh) fun b si ⟨Hi, Ii, qi⟩ => ?_
      have back : ∀ {s' : Shared} {H' : Hp}, Inv (X.blk sc Hc scope ce fp) ([] ++ pinsAt fp sg.heap) σh H' s' → N H' → ∃ m, m < n ∧ ∃ i H', Inv (X.blk sc Hc scope ce fp) [] (wipe σ (own.map (·.2))) H' s' ∧ tn i s'.heap ∧ (∀ b ∈ fp, H' b = none) ∧ W i m H' := fun {s' H'} J' nx => by
        obtain ⟨m', hm, w'⟩ := hNx H' nx
        have pin' : ∀ b ∈ fp, ∀ o, sg.heap.get? b = some o → s'.heap.get? b = some o ∧ H' b = none := fun b hb o e => by
          obtain ⟨z1, z2, _⟩ := J'.pin (b, o) (List.mem_append_right _ (List.mem_append_right _ (mem_pinsAt hb e)))
          exact ⟨z1, z2⟩
        refine ⟨m', hm, i + 1, H', (J'.unpinned (pins := [])).weak (by rw [← wh, wipe_length]) (fun j v e => ?_), T.keep _ _ _ stg fun b hb o e => (pin' b hb o e).1, fun b hb => ?_, w'⟩
        · rw [← wh] at e
          exact (wipe_some e).1
        · obtain ⟨o, e, _⟩ := T.obj _ _ stg b hb
          exact (pin' b hb o e).2
      cases b with
      | false =>
        simp only [Bool.false_eq_true, if_false] at qi ⊢
        exact back Ii qi
      | true =>
        simp only [if_true] at qi ⊢
        refine thnF (pe.run _ si σh Hi _ Ii qi) fun zk sj ⟨yk, Hj, Ij, rj, k, acc, ey, hD2, hl, _, nx⟩ => ?_
        subst ey
        obtain ⟨tk, rfl⟩ := rj
        have R := setO_get (X := X.blk sc Hc scope ce fp) Ij hD2
        refine setR_add R (by unfold scanBound; omega) fun h' sB new => ?_
        have hex : ∃ u, h'.get? D = some u := let ⟨o, _, _, _, ho, _⟩ := new; ⟨o, ho⟩
        have J' := Ij.write (e := D) (t' := sj.toks + 1) (by rw [hD2]; trivial) (.inl rfl) (fun b u hb hu => (sB.2 b hb).trans hu) hex (setO_new (P := X.prog) (H := upd Hj D (SetO X.w D (fun j => decide (j ∈ acc) || decide (j = k)) (if decide (k ∈ acc) = true then acc.length else acc.length + 1))) new)
        rw [setO_add (by assumption)] at J'
        exact back J' nx
  exact PpSet.codeAny_compStart_set loop (T.self X.A 0 _ _ _ std loop)
/-- as a value -/
theorem pe_sx {elt tg iter : Expr} {ifs : List Expr} {scope : Scope} {own : List (Str × Nat)} {pos : Pos} {wi : TI} {g : TG} {tt : TT} {te : TE} (hc : X.calm = true) (hN : X.N.Nodup) (hi : PI X tg iter wi) (ok : BlkOk X.N X.env.scope scope own)
    (hg : ∀ (s : Shared) (H : Hp) (C : Addr) (cl : List (Str × Addr)) (fp : List Addr), PG (X.blk s H scope (compEnvC scope cl C X.env) fp) tg g)
    (ht : ∀ (s : Shared) (H : Hp) (C : Addr) (cl : List (Str × Addr)) (fp : List Addr), PTs (X.blk s H scope (compEnvC scope cl C X.env) fp) ifs tt)
    (he : ∀ (s : Shared) (H : Hp) (C : Addr) (cl : List (Str × Addr)) (fp : List Addr), PE (X.blk s H scope (compEnvC scope cl C X.env) fp) elt te)
    (hs : ∀ x, foldedSetIterable iter X.env x = pure x) : PE X (.SetComp elt [⟨tg, iter, ifs, 0⟩] scope pos) (tSx X.w wi g tt te (own.map (·.2))) := by
  refine ⟨fun pins s σ H Q I h => ?_⟩
  rw [PpSet.eval_SetComp]
  refine sx_core hc hN I hi ok hg ht he hs h fun D C s' m H' Ig fin hn ff => ⟨m, hn, fun h2 sB => ?_⟩
  obtain ⟨g0, g1, g2, g3, g4, g5⟩ := ff
  exact ⟨.ref D, H', Ig.turned (t' := s'.toks) (fun b o hb e => (sB.2 b hb).trans e) g0 g1 g3 g4 g5, rfl, fin⟩
end
/-- within the set's making -/
theorem rc_scomp {K : PySem.W.Frag} {mg : Str → Option Value} {W : WX} {w : World} {mu : Bool} {fi : DenI} {vs : List Nat} {g : DenT} {c : DenB} {e : Den} {σ : St} {H : Hp} {Q : VK} (h : RE K mg W (dSSet mu fi vs g c e) σ H Q) :
    tSx w (RI K mg W fi) (RG K (some vs) g) (RT K mg Wno c) (RE K mg Wno e) vs σ H (fun v H1 => rSortedSet w [v] H1 Q) := by
  obtain ⟨as, env, st, E, S, h⟩ := h
  refine ⟨as, env, st, E, S, Out.wp_mono (Out.wp_bind h) (fun it st1 _ h1 as1 H1 J x1 S1 g1 ok => ?_) fun _ _ _ z => z⟩
  intro D hD
  have free : D ∉ as1 := S1.free hD
  obtain ⟨xD, SD⟩ := S1.alloc (setO w D []) hD
  refine ⟨fun i m H2 => m = it.1.length - i ∧ i ≤ it.1.length ∧ ∃ as2 s2 acc, Ext as1 H1 as2 H2 ∧ D ∉ as2 ∧ H2 D = some (setO w D acc) ∧ acc.Pairwise (· < ·) ∧ acc.length < 64 ∧ StR K as2 H2 s2 ∧ Gd it.2 s2 ∧
    ((compS it.2 (wipeE env vs) g c e (it.1.drop i) acc s2).bind fun ns s => fin mu (some (.newL (ns.map L2.PyD.D.int))) s).wp (WV K as H Q) (WE K mg W as H σ), ⟨_, rfl, Nat.zero_le _, as1, st1, [], xD, free, upd_same, List.Pairwise.nil, by decide, SD, g1, h1⟩, ?_⟩
  rintro i m H2 ⟨rfl, hi, as2, s2, acc, x12, nD, hS, hp, hl64, S2, g2, h2⟩
  have okk := (ok as2 H2 s2 x12 S2 g2).2 i
  by_cases hlt : i < it.1.length
  · right
    have ed : it.1.drop i = it.1[i] :: it.1.drop (i + 1) := List.drop_eq_getElem_cons hlt
    rw [ed] at h2
    obtain ⟨hgo, hy⟩ := okk.1 it.1[i] (List.getElem?_eq_getElem hlt)
    refine ⟨hgo, fun H' => i + 1 ≤ it.1.length ∧ ∃ as3 s3 acc, Ext as1 H1 as3 H' ∧ D ∉ as3 ∧ H' D = some (setO w D acc) ∧ acc.Pairwise (· < ·) ∧ acc.length < 64 ∧ StR K as3 H' s3 ∧ Gd it.2 s3 ∧
      ((compS it.2 (wipeE env vs) g c e (it.1.drop (i + 1)) acc s3).bind fun ns s => fin mu (some (.newL (ns.map L2.PyD.D.int))) s).wp (WV K as H Q) (WE K mg W as H σ), fun H' w => ⟨it.1.length - (i + 1), by omega, rfl, w.1, w.2⟩, fun x H3 y => ?_⟩
    obtain ⟨x3, S3, r3⟩ := hy x H3 y
    unfold compS at h2
    cases eg : g it.1[i] (wipeE env vs) with
    | none => rw [eg] at h2; exact h2.elim
    | some e1 =>
      rw [eg] at h2
      simp only at h2
      rw [Out.assoc] at h2
      have stays : ∀ {as' : List Addr} {H' : Hp}, Ext as2 H2 as' H' → D ∉ as' ∧ H' D = some (setO w D acc) := fun {as' H'} x =>
        ⟨x.new D _ hS (fun _ z => by unfold setO SetO at z; cases z) nD, x.keep D _ hS (.inl nD) (fun _ z => by unfold setO SetO at z; cases z)⟩
      refine ⟨as2, wipeE env vs, it.1[i], e1, wipeE_ok (E.ext (x1.trans (x12.trans x3))) vs, r3, eg, fun σ4 E4 m4 => ⟨?_, ?_⟩⟩
      · exact Eq.trans (show wipe σ4 vs = wipe (wipe σ vs) vs from m4) (wipe_idem σ vs vs fun _ z => z)
      refine rt_nox E4 S3 h2 fun b s4 as4 H4 x4 E5 S4 h4 => ?_
      cases b with
      | false =>
        refine iteF ?_
        rw [if_neg Bool.false_ne_true] at h4
        obtain ⟨hG, h4⟩ := gdoA_wp h4
        obtain ⟨n1, n2⟩ := stays (x3.trans x4)
        exact ⟨hlt, as4, s4, acc, (x12.trans x3).trans x4, n1, n2, hp, hl64, S4, hG, h4⟩
      | true =>
        refine iteT ?_
        rw [if_pos rfl, Out.assoc] at h4
        refine re_nox E5 S4 h4 fun k s5 as5 H5 u x5 E6 S5 r5 h5 => ?_
        cases ek : intO k with
        | none => rw [ek] at h5; exact h5.elim
        | some n =>
          rw [ek] at h5
          simp only at h5
          by_cases hl : acc.length < 63
          · rw [if_pos hl] at h5
            obtain ⟨hG, h5⟩ := gdoA_wp h5
            obtain ⟨n1, n2⟩ := stays ((x3.trans x4).trans x5)
            have x15 := ((x12.trans x3).trans x4).trans x5
            have eu : u = .int n := by
              cases r5 <;> first | (cases ek; rfl) | cases ek
            refine ⟨n, acc, eu, n2, hl, hp, hlt, as5, s5, insI n acc, ⟨x15.pre, fun p o hpo cc nt => ?_, x15.new⟩, n1, upd_same, insI_sorted n hp, ?_, ?_, hG, h5⟩
            · rw [upd_ne (ne_of_none hpo hD)]
              exact x15.keep p o hpo cc nt
            · rw [insI_len n hp]
              split <;> omega
            · unfold setO SetO at n2
              exact StR.oth n2 n1 (fun q z => by rw [n2] at z; exact set_code (Option.some.inj z)) S5
          · rw [if_neg hl] at h5; exact h5.elim
  · left
    have : i = it.1.length := by omega
    subst this
    rw [List.drop_length] at h2
    refine ⟨okk.2 (Nat.le_refl _), ?_⟩
    unfold compS at h2
    have h3 : (fin mu (some (.newL (acc.map L2.PyD.D.int))) s2).wp (WV K as H Q) (WE K mg W as H σ) := h2
    refine ⟨D, _, _, rfl, hS, hl64, fun ns p h4 h5 h6 hp0 => ?_⟩
    have : ns = acc := sorted_uniq h4 hp fun k => by rw [h5 k]; simp
    subst this
    obtain ⟨rv, e1, q⟩ := fin_ok (as := as2) (H := H2) (Q := Q) S2 (Out.wp_mono h3 (fun _ _ _ z => WV.ext (x1.trans x12) z) fun _ _ _ z => z)
    cases e1
    exact q p (ns.map V.int) hp0 (by rw [List.length_map, sizeLine_eq]; omega) (RpL.ints ns)
section
variable {X : Cx} {W : WX} {pos : Pos}
/-- sorted({.. for ..}) -/
theorem pe_sset' {elt tg iter : Expr} {ifs : List Expr} {scope : Scope} {own : List (Str × Nat)} {mu : Bool} {fi : DenI} {g : DenT} {c : DenB} {e : Den} {np spos : Pos} (hc : X.calm = true) (hN : X.N.Nodup) (hgl : Gl X "sorted") (hm : X.mg "sorted" = none) (hi : PI X tg iter (RI X.K X.mg W fi)) (ok : BlkOk X.N X.env.scope scope own)
    (hg : ∀ (s : Shared) (H : Hp) (C : Addr) (cl : List (Str × Addr)) (fp : List Addr), PG (X.blk s H scope (compEnvC scope cl C X.env) fp) tg (RG X.K (some (own.map (·.2))) g))
    (ht : ∀ (s : Shared) (H : Hp) (C : Addr) (cl : List (Str × Addr)) (fp : List Addr), PTs (X.blk s H scope (compEnvC scope cl C X.env) fp) ifs (RT X.K X.mg Wno c))
    (he : ∀ (s : Shared) (H : Hp) (C : Addr) (cl : List (Str × Addr)) (fp : List Addr), PE (X.blk s H scope (compEnvC scope cl C X.env) fp) elt (RE X.K X.mg Wno e)) (hs : ∀ x, foldedSetIterable iter X.env x = pure x) :
    PE X (.Call (.Name "sorted" np) [.SetComp elt [⟨tg, iter, ifs, 0⟩] scope spos] [] pos) (RE X.K X.mg W (dSSet mu fi (own.map (·.2)) g c e)) := by
  refine PE.re (pe_callB (cr_sortedSet hc) hgl hm (by decide +kernel) (pa_cons (pe_sx hc hN hi ok hg ht he hs) pa_nil rfl)) fun σ H Q h => ?_
  exact rc_scomp h
end
end
end L2.PyD
/-! SetU: set(t), t a tuple of tuples of ints (the kit has it for a list of such tuples, and for a tuple of ints). -/
namespace L2.PyD
open PySem PySem.Spec PyProof.Rows
/-- a set that is new -/
abbrev bareSet (w : World) : Obj := { cls := .type "set", dict := none, data := .set #[] 0 (.fresh 0 0 (!w.params.followText "set-order")) }
section
variable {P : Program} {w : World} {A : Around} {E : Value → Shared → Prop} {s : Shared} {l : Addr} {items : Array Value}
/-- what the filling of the set leaves -/
def Filled (P : Program) (w : World) (s : Shared) (ks : List (Addr × List Int)) (s2 : Shared) : Prop :=
  ∃ h' tk L es ep t, s2 = { s with heap := h', toks := tk } ∧ SetTR P w h' s.heap.objs.size L es ep t ∧ Got ks ks.length L ∧ ∀ b o, s.heap.get? b = some o → h'.get? b = some o
theorem above_none {b : Addr} (hb : s.heap.objs.size ≤ b) : s.heap.get? b = none := by
  cases q : s.heap.get? b with
  | none => rfl
  | some o => exact absurd (Nat.lt_of_lt_of_le (Heap.lt_size q) hb) (Nat.lt_irrefl _)
theorem item_of {ks : List (Addr × List Int)} (hit : items.toList = ks.map fun p => Value.ref p.1) (i : Nat) (v : Value) (hv : items[i]? = some v) : ∃ p, ks[i]? = some p ∧ v = .ref p.1 := by
  rw [← Array.getElem?_toList, hit, List.getElem?_map] at hv
  obtain ⟨p, hp, e⟩ := Option.map_eq_some_iff.mp hv
  exact ⟨p, hp, e.symm⟩
/-- the walk over the tuple -/
theorem fill_tup (ks : List (Addr × List Int)) (hh : A.handled = none) (hl : s.heap.IsTuple l items) (hit : items.toList = ks.map fun p => Value.ref p.1) (hk : ∀ p ∈ ks, IsT P w s.heap p.2 p.1) (hfew : ks.length < 64) (hu : A.units + 3 < cLine)
    {A1 : Around} (hA : A1.in1.handled = none) (hA2 : A1.in1.units < cLine) {R : Result → Shared → Prop}
    (hR : ∀ s2, Filled P w s ks s2 → R (.ok (.ret .none)) s2) :
    codeAny (model P w) A1 (.builtin "set.update.loop" ⟨[.ref s.heap.objs.size, .ref (s.heap.push (bareSet w)).objs.size], []⟩) R { s with heap := (s.heap.push (bareSet w)).push { cls := .type "tuple_iterator", data := .fields #[.ref l, .int 0 0] } } := by
  have hisz : items.size = ks.length := by
    rw [← Array.length_toList, hit, List.length_map]
  have hlS : l < s.heap.objs.size := by
    obtain ⟨ol, hol, _⟩ := hl
    exact Heap.lt_size hol
  have hz : (s.heap.push (bareSet w)).objs.size = s.heap.objs.size + 1 := Heap.size_push ..
  have hne : l ≠ (s.heap.push (bareSet w)).objs.size := by rw [hz]; exact Nat.ne_of_lt (Nat.lt_succ_of_lt hlS)
  have hSf : s.heap.objs.size ∉ [(s.heap.push (bareSet w)).objs.size, l] := by
    rw [hz]
    simp only [List.mem_cons, List.not_mem_nil, or_false, not_or]
    exact ⟨Nat.ne_of_lt (Nat.lt_succ_self _), Nat.ne_of_gt hlS⟩
  have hS : (s.heap.push (bareSet w)).get? s.heap.objs.size = some (bareSet w) := Heap.get?_push_size _ rfl
  have hl1 : (s.heap.push (bareSet w)).IsTuple l items := by
    obtain ⟨o2, h2, c, n, d⟩ := hl
    exact ⟨o2, Heap.get?_push_of_some _ h2, c, n, d⟩
  refine set_update_tups ((Walks.tuple hA _ l hne items).toS) s.heap.objs.size hSf ks hisz hfew (item_of hit) s.heap hk (above_none (Nat.le_refl _))
    (fun b hb => above_none (by rw [List.mem_singleton.mp hb, hz]; exact Nat.le_succ _)) hA2 (items.size - 0) 0 _ (by omega) (Nat.zero_le _) ⟨⟨_, Heap.get?_push_size _ rfl, rfl, rfl⟩, hl1.push _⟩
    (fun b o e => Heap.get?_push_of_some _ (Heap.get?_push_of_some _ e)) ⟨[], #[], 0, _, setTR_fresh (Heap.get?_push_of_some _ hS), Got.zero ks⟩ fun s' L es ep t hm hS' g' hkp => ?_
  rw [hisz] at g'
  refine hR s' ⟨s'.heap, s'.toks, L, es, ep, t, ?_, hS', g', hkp⟩
  have eg := hm.gens
  have ed := hm.drawn
  have eo := hm.os
  cases s'
  cases eg
  cases ed
  cases eo
  rfl
/-- set(t) -/
theorem call_set_tupT (ks : List (Addr × List Int)) {Q : Value → Shared → Prop} (hh : A.handled = none) (hl : s.heap.IsTuple l items) (hit : items.toList = ks.map fun p => Value.ref p.1) (hk : ∀ p ∈ ks, IsT P w s.heap p.2 p.1) (hfew : ks.length < 64) (hu : A.units + 3 < cLine)
    (h : ∀ s2, Filled P w s ks s2 → Q (.ref s.heap.objs.size) s2) : wpAny (model P w) A (call (.type "set") [.ref l]) Q E s := by
  obtain ⟨c, tl, hmro⟩ := F.called_set.mro
  have hmade := F.called_set.made
  have hsub := F.called_set.sub
  refine wpAny_call (codeAny_of_tree ?_)
  show wpAny _ _ (callAny (.type "set") _) _ _ _
  refine wpAny_pure ⟨Code.quiet_builtin _ (by decide +kernel), codeAny_builtin F.entry_type_call ?_⟩
  rw [Around.under_plain (weight_type_call_type "set" [.ref l] []) rfl]
  have h1 := F.called_set.notType
  have h2 := F.called_set.canCreate
  have hct := F.typeCall_set_1 (.ref l)
  repeat (any_goals (first | assumption | wp_step))
  refine codeAny_mono (code_set_led1 (.ref l) (E := E) (Q₁ := fun obj s₁ => obj = .ref s.heap.objs.size ∧ s₁ = { s with heap := s.heap.push (bareSet w) }) ⟨rfl, rfl⟩) fun r s₁ hr => ?_
  match r, hr with
  | .error _, hr => exact hr
  | .ok (.ret obj), hr =>
    obtain ⟨rfl, rfl⟩ := hr
    have hS : (s.heap.push (bareSet w)).get? s.heap.objs.size = some (bareSet w) := Heap.get?_push_size _ rfl
    have hT : Shared.TypeIs { s with heap := s.heap.push (bareSet w) } (.ref s.heap.objs.size) "set" := ⟨_, hS, rfl⟩
    have hli := F.called_set.init.lookup
    have hbi := F.called_set.init.bind (.ref s.heap.objs.size)
    repeat (any_goals (first | assumption | wp_step))
    refine codeAny_mono (codeAny_call_builtin (R := wants (fun r s₂ => r = .none ∧ Filled P w s ks s₂) E) F.called_set.init.plain F.entry_set_init (check_set_init_1 hT ?_)) fun r₂ s₂ hr₂ => ?_
    · have hl0 := hl
      obtain ⟨⟨_, od, _, os⟩, hol, hcl, nl, hdl⟩ := hl
      simp only at hcl hdl
      subst hcl hdl
      have hol' : (s.heap.push (bareSet w)).get? l = some { cls := .type "tuple", dict := od, data := .seq items nl, slots := os } := Heap.get?_push_of_some _ hol
      have hl1 : (s.heap.push (bareSet w)).IsTuple l items := ⟨_, hol', rfl, nl, rfl⟩
      have k1 := F.sub_tuple_set
      have k2 := F.sub_tuple_frozenset
      have k3 : (Value.type "tuple" == Value.type "dict") = false := by decide
      unfold Builtin.«set.__init__» noKeywords Builtin.Frozenset.updateFrom
      generalize hPI : pyIter = PI
      wp_walk
      subst hPI
      refine wpAny_pyIter_tuple hl1 ?_
      refine wpAny_bind (wpAny_runValue ?_)
      refine fill_tup ks hh hl0 hit hk hfew hu (by simp [hh]) hu fun s2 hs2 => ?_
      refine wpAny_pure ?_
      exact wpAny_pure ⟨rfl, hs2⟩
    · match r₂, hr₂ with
      | .error _, hr₂ => exact hr₂
      | .ok (.ret r), hr₂ =>
        obtain ⟨rfl, hs2⟩ := hr₂
        obtain ⟨h', tk, L, es, ep, t, e2, q⟩ := hs2
        have hs2 : Filled P w s ks s₂ := ⟨h', tk, L, es, ep, t, e2, q⟩
        subst e2
        repeat (any_goals (first | assumption | wp_step))
        exact h _ hs2
end
end L2.PyD
/-! SetV: sorted(s), s a set of tuples of ints of any lengths. -/
namespace L2.PyD
open PySem PySem.Spec PyProof.Rows
def encT (p : Addr × List Int) : PyData := .tuple (p.2.map PyData.int)
section
variable {P : Program} {w : World} {A : Around} {E : Value → Shared → Prop} {s : Shared}
theorem reads_intsAre {h : Heap} : ∀ {vs : List Value} {k : List Int}, IntsAre vs k → ∃ as, ReadsAll h vs (k.map PyData.int) as
  | _, _, .nil => ⟨[], .nil⟩
  | _, _, .cons n t r => by
    obtain ⟨as, q⟩ := reads_intsAre (h := h) r
    exact ⟨[] ++ as, .cons (.int n t) q⟩
theorem reads_isT {h : Heap} {k : List Int} {b : Addr} (x : IsT P w h k b) : ∃ as, Reads h (.ref b) (.tuple (k.map PyData.int)) as := by
  obtain ⟨o, items, n, ho, hc, hd, hi⟩ := x
  obtain ⟨as, q⟩ := reads_intsAre (h := h) (ints_of_items hi)
  exact ⟨_, .tuple ho hc hd q⟩
theorem alike_tups : ∀ a b : List Int, PySem.W.alike (.tuple (a.map PyData.int)) (.tuple (b.map PyData.int)) = true := fun a b => by
  have : ∀ a b : List Int, PySem.W.alikeAll (a.map PyData.int) (b.map PyData.int) = true := by
    intro a
    induction a with
    | nil => intro b; cases b <;> simp [PySem.W.alikeAll]
    | cons x a ih => intro b; cases b with
      | nil => simp [PySem.W.alikeAll]
      | cons y b => simp [PySem.W.alikeAll, PySem.W.alike, ih]
  simp [PySem.W.alike, this]
theorem depth_tup (k : List Int) : (PyData.tuple (k.map PyData.int)).depth ≤ 2 := by
  show PyData.depthAll _ + 1 ≤ 2
  have : ∀ ns : List Int, PyData.depthAll (ns.map PyData.int) ≤ 1 := depth_ints
  have := this k
  omega
/-- the values can be sorted -/
theorem sortsAt_tups {vs : List Value} {bs : List (Addr × List Int)} (e : PySem.W.EachIs (fun v b => ∃ as, Reads s.heap v (encT b) as) vs bs) (hk : bs.length ≤ 1 ∨ ∀ p ∈ bs, 1 ≤ p.2.length) (hu : A.units + 2 < cLine) :
    PySem.W.SortsAt P w A s (PySem.W.dataKind s.heap (bs.map encT)) vs := by
  have hal : PySem.W.AllAlike (bs.map encT) := fun d hd d' hd' => by
    obtain ⟨p, _, rfl⟩ := List.mem_map.mp hd
    obtain ⟨q, _, rfl⟩ := List.mem_map.mp hd'
    exact alike_tups _ _
  have hdep : ∀ d, d ∈ bs.map encT → A.units + d.depth < cLine := fun d hd => by
    obtain ⟨p, _, rfl⟩ := List.mem_map.mp hd
    have := depth_tup p.2
    show A.units + (PyData.tuple (p.2.map PyData.int)).depth < cLine
    omega
  have e' : PySem.W.EachIs (fun v d => ∃ as, Reads s.heap v d as) vs (bs.map encT) := PySem.W.each_map (R := fun v d => ∃ as, Reads s.heap v d as) encT e
  rcases hk with hk | hk
  · refine ⟨fun v hv => ?_, general', ?_, fun h2 => ?_⟩
    · obtain ⟨d, hd, as, r⟩ := e'.left v hv
      exact ⟨_, PySem.W.dataKind_some hal hd r⟩
    · intro E x y a b Q ha hb hq
      obtain ⟨d, as, hd, ra, rfl⟩ := PySem.W.dataKind_inv ha
      obtain ⟨d', as', hd', rb, rfl⟩ := PySem.W.dataKind_inv hb
      have room : A.units + min d.depth d'.depth < cLine := Nat.lt_of_le_of_lt (Nat.add_le_add_left (Nat.min_le_left _ _) _) (hdep d hd)
      have nn : d ≠ .none := by
        obtain ⟨p, _, rfl⟩ := List.mem_map.mp hd
        intro z
        cases z
      exact PySem.W.oneLt_alike (f := false) (fun z => nomatch z) ra rb (hal d hd d' hd') nn room hq
    · have := e.length
      omega
  · refine PySem.W.SortsAt.data e' hal (.inl fun d hd => ?_) hdep
    obtain ⟨p, hp, rfl⟩ := List.mem_map.mp hd
    have := hk p hp
    obtain ⟨b, k⟩ := p
    match k, this with
    | x :: k, _ => exact ⟨.int x, k.map PyData.int, rfl⟩
variable {a : Addr} {L : List (Addr × List Int)} {es : Array (Int × Value)} {ep : Nat} {t : SetTable}
theorem each_refs {h : Heap} : ∀ {L : List (Addr × List Int)}, (∀ q ∈ L, IsT P w h q.2 q.1) → PySem.W.EachIs (fun v b => ∃ as, Reads h v (encT b) as) (L.map fun q => Value.ref q.1) L
  | [], _ => .nil
  | q :: L, hq => .cons (reads_isT (hq q List.mem_cons_self)) (each_refs fun r hr => hq r (List.mem_cons_of_mem _ hr))
theorem each_self : ∀ (L : List (Addr × List Int)), PySem.W.EachIs (fun v (b : Addr × List Int) => v = Value.ref b.1) (L.map fun q => Value.ref q.1) L
  | [] => .nil
  | q :: L => .cons rfl (each_self L)
theorem each_back : ∀ {vs : List Value} {L : List (Addr × List Int)}, PySem.W.EachIs (fun v (b : Addr × List Int) => v = Value.ref b.1) vs L → vs = L.map fun q => Value.ref q.1
  | _, _, .nil => rfl
  | _, _, .cons h r => by rw [each_back r, h]; rfl
theorem sorted_setV {Q : Value → Shared → Prop} (R : SetTR P w s.heap a L es ep t) (hh : A.handled = none) (hk : L.length ≤ 1 ∨ ∀ p ∈ L, 1 ≤ p.2.length) (hu : A.units + 64 < cLine)
    (hQ : ∀ s' p (out : Array Value) (c : Nat) (L' : List (Addr × List Int)), (∀ b o, s.heap.get? b = some o → s'.heap.get? b = some o) → s'.gens = s.gens → s'.os = s.os → s.heap.objs.size ≤ p →
      s'.heap.get? p = some (seqObj "list" out c) → out.toList = L'.map (fun q => Value.ref q.1) → L'.Perm L → L'.Pairwise (fun q r => PySem.W.dataLt (encT r) (encT q) = false) → Q (.ref p) s') :
    wpAny (model P w) A (call (.builtin "sorted") [.ref a]) Q E s := by
  obtain ⟨o, ho, hex, hd⟩ := R.ob
  have hsz := R.size
  have hfew := R.few
  refine Calls.call_function_entry kind_sorted plain_sorted entry_sorted (args_sorted1 _) ?_
  unfold Builtin.«sorted»
  refine wpAny_bind (m := checkCount "sorted" 1 1 _) (wpAny_pure ?_)
  refine wpAny_bind (collect_set (A := A.in1) hh ⟨o, ho, hex.1, hd⟩ R.fits (by unfold scanBound; omega) R.tab.ris R.led fun s1 vs k1 hz g1 o1 pm => ?_)
  have hes : es.toList.map (·.2) = L.map fun q => Value.ref q.1 := by
    rw [R.rows]
    unfold rowsOf
    rw [List.map_map] <;> rfl
  rw [hes] at pm
  obtain ⟨L1, rfl, hL1⟩ : ∃ L1 : List (Addr × List Int), vs = L1.map (fun q => Value.ref q.1) ∧ ∀ q ∈ L1, q ∈ L := by
    have hv : ∀ v ∈ vs, ∃ q ∈ L, v = Value.ref q.1 := fun v hv => by
      obtain ⟨q, hq, e⟩ := List.mem_map.mp (pm.mem_iff.mp hv)
      exact ⟨q, hq, e.symm⟩
    clear pm hz
    induction vs with
    | nil => exact ⟨[], rfl, fun q hq => (by cases hq)⟩
    | cons v vs ih =>
      obtain ⟨q, hq, e⟩ := hv v List.mem_cons_self
      obtain ⟨L1, e1, hs⟩ := ih fun u hu => hv u (List.mem_cons_of_mem _ hu)
      refine ⟨q :: L1, by rw [List.map_cons, e, e1], fun r hr => ?_⟩
      rcases List.mem_cons.mp hr with z | z
      · rw [z]; exact hq
      · exact hs r z
  have one : ∀ q ∈ L, ∀ r ∈ L, q.1 = r.1 → q = r := fun q hq r hr e => by
    have a1 := R.tup q hq
    have a2 := R.tup r hr
    rw [e] at a1
    have e2 : q.2 = r.2 := a1.inj a2
    exact Prod.ext e e2
  have pL1 : L1.Perm L := by
    have nL : L.Nodup := nodup_of_map R.nd
    have nref : (L.map fun q => Value.ref q.1).Nodup := by
      refine List.pairwise_map.mpr (List.Pairwise.imp_of_mem (fun {q r} hq hr hne e => ?_) nL)
      injection e with e
      exact hne (one q hq r hr e)
    have n1 : L1.Nodup := nodup_of_map (pm.nodup_iff.mpr nref)
    refine (List.perm_ext_iff_of_nodup n1 nL).mpr fun q => ⟨hL1 q, fun hq => ?_⟩
    have hm : Value.ref q.1 ∈ L1.map (fun q => Value.ref q.1) := pm.mem_iff.mpr (List.mem_map.mpr ⟨q, hq, rfl⟩)
    obtain ⟨r, hr, e⟩ := List.mem_map.mp hm
    injection e with e
    rw [← one r (hL1 r hr) q hq e]
    exact hr
  generalize hvs : (L1.map fun q => Value.ref q.1) = vs at *
  have hvl : vs.length < 64 := by rw [pm.length_eq, List.length_map]; exact hfew
  refine wpAny_bind (wpAny_newList ?_ (by rw [sizeLine_eq]; omega))
  have hoL : (s1.heap.push (seqObj "list" vs.toArray 0)).get? s1.heap.objs.size = some (seqObj "list" vs.toArray 0) := Heap.get?_push_size _ rfl
  have hsg : ∀ b u, s.heap.get? b = some u → (PySem.W.sortingHeap (s1.heap.push (seqObj "list" vs.toArray 0)) s1.heap.objs.size vs).get? b = some u := fun b u e =>
    PySem.W.sortingHeap_old (Nat.ne_of_lt (Heap.lt_size (k1 b u e))) (Heap.get?_push_of_some _ (k1 b u e))
  have er : PySem.W.EachIs (fun v b => ∃ as, Reads (PySem.W.sortingHeap (s1.heap.push (seqObj "list" vs.toArray 0)) s1.heap.objs.size vs) v (encT b) as) vs L1 := by
    have := each_refs (P := P) (w := w) (h := PySem.W.sortingHeap (s1.heap.push (seqObj "list" vs.toArray 0)) s1.heap.objs.size vs) (L := L1) fun q hq => isT_keep (R.tup q (hL1 q hq)) hsg
    rwa [hvs] at this
  have hal : PySem.W.AllAlike (L1.map encT) := fun d hd d' hd' => by
    obtain ⟨p, _, rfl⟩ := List.mem_map.mp hd
    obtain ⟨q, _, rfl⟩ := List.mem_map.mp hd'
    exact alike_tups _ _
  have hk1 : L1.length ≤ 1 ∨ ∀ p ∈ L1, 1 ≤ p.2.length := by
    rcases hk with hk | hk
    · exact .inl (by rw [pL1.length_eq]; exact hk)
    · exact .inr fun p hp => hk p (hL1 p hp)
  have eo := PySem.W.sortVals_data false (R := fun v (b : Addr × List Int) => v = Value.ref b.1) (by have := each_self L1; rwa [hvs] at this) er hal
  have hout := each_back eo
  have hsl : vs.length ≤ sizeLine := by rw [sizeLine_eq]; omega
  refine wpAny_bind (wpAny_holding (wpAny_call_entry slot_list_sort ⟨_, hoL, rfl⟩ entry_list_sort (PySem.W.list_sort_vals (s := { s1 with heap := s1.heap.push (seqObj "list" vs.toArray 0) }) hoL (sortsAt_tups (s := { s1 with heap := PySem.W.sortingHeap (s1.heap.push (seqObj "list" vs.toArray 0)) s1.heap.objs.size vs }) er hk1 ?_) hsl ⟨_, rfl, ?_⟩) (args_list_sort _)))
  · show A.units + 1 + 1 + 2 < cLine
    omega
  obtain ⟨c, hc⟩ := sortedHeap_at (vs := vs) (out := (PySem.W.sortVals (PySem.W.dataKind (PySem.W.sortingHeap (s1.heap.push (seqObj "list" vs.toArray 0)) s1.heap.objs.size vs) (L1.map encT)) false vs vs).toArray) hoL
  refine wpAny_pure ⟨_, rfl, hQ _ s1.heap.objs.size _ c (L1.mergeSort (PySem.W.dataLe false encT)) (fun b u e => ?_) g1 o1 hz hc (by simpa using hout) ((List.mergeSort_perm _ _).trans pL1) ?_⟩
  · have q := k1 b u e
    have hlt := Heap.lt_size q
    show (sortedHeap (s1.heap.push (seqObj "list" vs.toArray 0)) s1.heap.objs.size vs _).get? b = some u
    rw [sortedHeap_old (Nat.ne_of_lt hlt) (by rw [size_push']; exact Nat.lt_succ_of_lt hlt)]
    exact Heap.get?_push_of_some _ q
  · have hpw := List.pairwise_mergeSort (le := PySem.W.dataLe false encT) (l := L1) ?_ ?_
    · refine hpw.imp fun {q r} h => ?_
      rw [PySem.W.dataLe_eq] at h
      simpa using h
    · intro x y z h1 h2
      rw [PySem.W.dataLe_eq] at *
      simp at *
      have e : ∀ p q : Addr × List Int, PySem.W.dataLt (encT p) (encT q) = decide (p.2 < q.2) := fun p q => by
        unfold encT
        rw [PySem.W.dataLt_tuple]
        exact PySem.W.dataLt_ints p.2 q.2
      rw [e] at *
      simp at *
      exact List.le_trans h1 h2
    · intro x y
      rw [PySem.W.dataLe_eq]
      have e : ∀ p q : Addr × List Int, PySem.W.dataLt (encT p) (encT q) = decide (p.2 < q.2) := fun p q => by
        unfold encT
        rw [PySem.W.dataLt_tuple]
        exact PySem.W.dataLt_ints p.2 q.2
      simp [e]
      exact List.le_total _ _
end
end L2.PyD
/-! SetT: sorted(set(xs)), xs fewer than 64 tuples of ints of one length. -/
namespace L2.PyD
open PySem PySem.Spec PyProof.Rows
noncomputable section
/-- the order of tuples -/
def ltT : List Int → List Int → Bool
  | [], [] => false
  | [], _ :: _ => true
  | _ :: _, [] => false
  | x :: a, y :: b => decide (x < y) || (decide (x = y) && ltT a b)
theorem ltT_irr : ∀ a, ltT a a = false
  | [] => rfl
  | x :: a => by simp [ltT, ltT_irr a]
theorem ltT_tri : ∀ a b, ltT a b = true ∨ a = b ∨ ltT b a = true
  | [], [] => .inr (.inl rfl)
  | [], _ :: _ => .inl rfl
  | _ :: _, [] => .inr (.inr rfl)
  | x :: a, y :: b => by
    rcases Int.lt_trichotomy x y with h | h | h
    · left; simp [ltT, h]
    · subst h
      rcases ltT_tri a b with h | h | h
      · left; simp [ltT, h]
      · right; left; rw [h]
      · right; right; simp [ltT, h]
    · right; right; simp [ltT, h]
theorem ltT_trans : ∀ {a b c}, ltT a b = true → ltT b c = true → ltT a c = true
  | [], [], _, h, _ => by cases h
  | [], _ :: _, [], _, h => by cases h
  | [], _ :: _, _ :: _, _, _ => rfl
  | _ :: _, [], _, h, _ => by cases h
  | _ :: _, _ :: _, [], _, h => by cases h
  | x :: a, y :: b, z :: c, h, h' => by
    simp only [ltT, Bool.or_eq_true, Bool.and_eq_true, decide_eq_true_eq] at *
    rcases h with h | ⟨rfl, h⟩
    · rcases h' with h' | ⟨rfl, h'⟩
      · exact .inl (Int.lt_trans h h')
      · exact .inl h
    · rcases h' with h' | ⟨rfl, h'⟩
      · exact .inl h'
      · exact .inr ⟨rfl, ltT_trans h h'⟩
def insT (k : List Int) : List (List Int) → List (List Int)
  | [] => [k]
  | x :: l => if ltT k x then k :: x :: l else if k = x then x :: l else x :: insT k l
def sortT (ks : List (List Int)) : List (List Int) := ks.foldl (fun a k => insT k a) []
theorem insT_mem (k j : List Int) : ∀ l, j ∈ insT k l ↔ j = k ∨ j ∈ l
  | [] => by simp [insT]
  | x :: l => by
    unfold insT
    split
    · simp
    · split
      · rename_i e; subst e; simp
      · simp [insT_mem k j l]; constructor
        · rintro (h | h | h)
          · exact .inr (.inl h)
          · exact .inl h
          · exact .inr (.inr h)
        · rintro (h | h | h)
          · exact .inr (.inl h)
          · exact .inl h
          · exact .inr (.inr h)
theorem insT_pw (k : List Int) : ∀ {l}, l.Pairwise (fun a b => ltT a b = true) → (insT k l).Pairwise (fun a b => ltT a b = true)
  | [], _ => List.pairwise_singleton _ _
  | x :: l, h => by
    have h' := List.pairwise_cons.mp h
    unfold insT
    split
    · rename_i c
      refine List.pairwise_cons.mpr ⟨fun y hy => ?_, h⟩
      rcases List.mem_cons.mp hy with rfl | hy
      · exact c
      · exact ltT_trans c (h'.1 y hy)
    · split
      · exact h
      · rename_i c e
        refine List.pairwise_cons.mpr ⟨fun y hy => ?_, insT_pw k h'.2⟩
        rcases (insT_mem k y l).mp hy with rfl | hy
        · rcases ltT_tri y x with t | t | t
          · exact absurd t c
          · exact absurd t e
          · exact t
        · exact h'.1 y hy
theorem foldT : ∀ (ks acc : List (List Int)), acc.Pairwise (fun a b => ltT a b = true) → (ks.foldl (fun a k => insT k a) acc).Pairwise (fun a b => ltT a b = true) ∧ ∀ j, j ∈ ks.foldl (fun a k => insT k a) acc ↔ j ∈ acc ∨ j ∈ ks
  | [], acc, h => ⟨h, fun j => by simp⟩
  | k :: ks, acc, h => by
    obtain ⟨a, b⟩ := foldT ks (insT k acc) (insT_pw k h)
    refine ⟨a, fun j => ?_⟩
    rw [List.foldl_cons, b j, insT_mem, List.mem_cons]
    constructor
    · rintro ((h | h) | h)
      · exact .inr (.inl h)
      · exact .inl h
      · exact .inr (.inr h)
    · rintro (h | h | h)
      · exact .inl (.inr h)
      · exact .inl (.inl h)
      · exact .inr h
theorem sortT_pw (ks : List (List Int)) : (sortT ks).Pairwise (fun a b => ltT a b = true) := (foldT ks [] List.Pairwise.nil).1
theorem sortT_mem (ks : List (List Int)) (j : List Int) : j ∈ sortT ks ↔ j ∈ ks := by
  have := (foldT ks [] List.Pairwise.nil).2 j
  unfold sortT
  rw [this]
  simp
theorem sortT_uniq : ∀ {l m : List (List Int)}, l.Pairwise (fun a b => ltT a b = true) → m.Pairwise (fun a b => ltT a b = true) → (∀ k, k ∈ l ↔ k ∈ m) → l = m
  | [], [], _, _, _ => rfl
  | [], b :: m, _, _, h => nomatch (h b).mpr List.mem_cons_self
  | a :: l, [], _, _, h => nomatch (h a).mp List.mem_cons_self
  | a :: l, b :: m, hl, hm, h => by
    have hl' := List.pairwise_cons.mp hl
    have hm' := List.pairwise_cons.mp hm
    have asy : ∀ {x y}, ltT x y = true → ltT y x = true → False := fun {x y} p q => by
      have := ltT_trans p q
      rw [ltT_irr] at this
      cases this
    have e : a = b := by
      rcases List.mem_cons.mp ((h a).mp List.mem_cons_self) with e | ha
      · exact e
      · rcases List.mem_cons.mp ((h b).mpr List.mem_cons_self) with e | hb
        · exact e.symm
        · exact (asy (hl'.1 b hb) (hm'.1 a ha)).elim
    subst e
    have ni : ∀ {l : List (List Int)}, (∀ x ∈ l, ltT a x = true) → a ∉ l := fun {l} q m => by
      have := q a m
      rw [ltT_irr] at this
      cases this
    rw [sortT_uniq hl'.2 hm'.2 fun k => ⟨fun hk => by
      rcases List.mem_cons.mp ((h k).mp (List.mem_cons_of_mem _ hk)) with e | q
      · subst e; exact absurd hk (ni hl'.1)
      · exact q, fun hk => by
      rcases List.mem_cons.mp ((h k).mpr (List.mem_cons_of_mem _ hk)) with e | q
      · subst e; exact absurd hk (ni hm'.1)
      · exact q⟩]
/-! ### the value -/
def keysT : List D → Option (List (List Int))
  | [] => some []
  | d :: ds => match keyI d, keysT ds with
    | some k, some ks => some (k :: ks)
    | _, _ => none
def okT (ks : List (List Int)) : Bool := decide (ks.length < 64) && (decide (ks.length ≤ 1) || ks.all fun k => decide (1 ≤ k.length))
def seqS (st : Store) : D → Option (List D)
  | .tup ds => some ds
  | d => lstD st d
def sortI (ns : List Int) : List Int := ns.foldl (fun a k => insI k a) []
theorem foldI : ∀ (ks acc : List Int), acc.Pairwise (· < ·) → (ks.foldl (fun a k => insI k a) acc).Pairwise (· < ·) ∧ ∀ j, j ∈ ks.foldl (fun a k => insI k a) acc ↔ j ∈ acc ∨ j ∈ ks
  | [], acc, h => ⟨h, fun j => by simp⟩
  | k :: ks, acc, h => by
    obtain ⟨a, b⟩ := foldI ks (insI k acc) (insI_sorted k h)
    refine ⟨a, fun j => ?_⟩
    rw [List.foldl_cons, b j, insI_mem, List.mem_cons]
    constructor
    · rintro ((h | h) | h)
      · exact .inr (.inl h)
      · exact .inl h
      · exact .inr (.inr h)
    · rintro (h | h | h)
      · exact .inl (.inr h)
      · exact .inl (.inl h)
      · exact .inr h
theorem sortI_pw (ks : List Int) : (sortI ks).Pairwise (· < ·) := (foldI ks [] List.Pairwise.nil).1
theorem sortI_mem (ks : List Int) (j : Int) : j ∈ sortI ks ↔ j ∈ ks := by
  have := (foldI ks [] List.Pairwise.nil).2 j
  unfold sortI
  rw [this]
  simp
def gSrtT (st : Store) (x : D) : Option Rv := match seqS st x with
  | some ds => match keysT ds with
    | some ks => if okT ks then some (.newL ((sortT ks).map fun k => .tup (k.map L2.PyD.D.int))) else none
    | none => none
  | none => none
def gSrtS (st : Store) (x : D) : Option Rv := match keyI x with
  | some ns => if ns.length < 64 then some (.newL ((sortI ns).map L2.PyD.D.int)) else none
  | none => gSrtT st x
def dSrtS (mu : Bool) (fa : Den) : Den := fun env st => (fa env st).bind fun x st1 => fin mu (gSrtS st1 x) st1
theorem keyI_rp {K : PySem.W.Frag} {as : List Addr} {H : Hp} {v : V} {d : D} {k : List Int} (r : Rp K as H v d) (e : keyI d = some k) : ∃ b, v = .ref b ∧ Rp K as H (.ref b) (.tup (k.map L2.PyD.D.int)) := by
  cases r with
  | tup h z rl =>
    have := ikeys_inv e
    subst this
    exact ⟨_, rfl, .tup h z rl⟩
  | _ => cases e
theorem keysT_ok {K : PySem.W.Frag} {as : List Addr} {H : Hp} : ∀ {vs : List V} {ds : List D} {ks : List (List Int)}, RpL K as H vs ds → keysT ds = some ks → ∃ L : List (Addr × List Int), vs = L.map (fun p => V.ref p.1) ∧ L.map (·.2) = ks ∧ ∀ p ∈ L, Rp K as H (.ref p.1) (.tup (p.2.map L2.PyD.D.int))
  | _, [], ks, .nil, e => by
    cases e
    exact ⟨[], rfl, rfl, fun _ h => (nomatch h)⟩
  | _, d :: ds, ks, .cons r rl, e => by
    unfold keysT at e
    cases e1 : keyI d with
    | none => rw [e1] at e; cases e
    | some k =>
      cases e2 : keysT ds with
      | none => rw [e1, e2] at e; cases e
      | some ks' =>
        rw [e1, e2] at e
        cases e
        obtain ⟨b, rfl, rb⟩ := keyI_rp r e1
        obtain ⟨L, rfl, rfl, hL⟩ := keysT_ok rl e2
        refine ⟨(b, k) :: L, rfl, rfl, fun p hp => ?_⟩
        rcases List.mem_cons.mp hp with e | hp
        · rw [e]; exact rb
        · exact hL p hp
theorem tup_key {K : PySem.W.Frag} {as : List Addr} {H : Hp} {b : Addr} {k : List Int} (r : Rp K as H (.ref b) (.tup (k.map L2.PyD.D.int))) : SqT K H b (k.map V.int) := by
  cases r with
  | tup h z rl => rw [RpL.intsInv rl] at h; exact h
theorem lt_ltT : ∀ {a b : List Int}, a < b → ltT a b = true
  | [], [], h => absurd h (List.lt_irrefl _)
  | [], _ :: _, _ => rfl
  | _ :: _, [], h => by cases h
  | x :: a, y :: b, h => by
    unfold ltT
    rw [Bool.or_eq_true, Bool.and_eq_true, decide_eq_true_eq, decide_eq_true_eq]
    rcases List.cons_lt_cons_iff.mp h with h | ⟨h1, h2⟩
    · exact .inl h
    · exact .inr ⟨h1, lt_ltT h2⟩
theorem ltT_lt : ∀ {a b : List Int}, ltT a b = true → a < b
  | [], [], h => by cases h
  | [], _ :: _, _ => List.nil_lt_cons _ _
  | _ :: _, [], h => by cases h
  | x :: a, y :: b, h => by
    unfold ltT at h
    rw [Bool.or_eq_true, Bool.and_eq_true, decide_eq_true_eq, decide_eq_true_eq] at h
    refine List.cons_lt_cons_iff.mpr ?_
    rcases h with h | ⟨h1, h2⟩
    · exact .inl h
    · exact .inr ⟨h1, ltT_lt h2⟩
theorem ltT_of {q r : Addr × List Int} (h : PySem.W.dataLt (encT r) (encT q) = false) (ne : q.2 ≠ r.2) : ltT q.2 r.2 = true := by
  have e : PySem.W.dataLt (encT r) (encT q) = decide (r.2 < q.2) := by
    unfold encT
    rw [PySem.W.dataLt_tuple]
    exact PySem.W.dataLt_ints r.2 q.2
  rw [e] at h
  rcases ltT_tri q.2 r.2 with t | t | t
  · exact t
  · exact absurd t ne
  · exact absurd (ltT_lt t) (of_decide_eq_false h)
section
variable {X : Cx} {W : WX} {pos : Pos}
/-- set(xs), xs a list or a tuple of tuples of ints -/
def rSetU (K : PySem.W.Frag) (P : Program) (w : World) : List V → Hp → VK → Prop := fun xs H Q => ∃ (l : Addr) (ks : List (Addr × List Int)), xs = [V.ref l] ∧ (SqL K H l (ks.map fun p => V.ref p.1) ∨ SqT K H l (ks.map fun p => V.ref p.1)) ∧ (∀ p ∈ ks, SqT K H p.1 (p.2.map V.int)) ∧ ks.length < 64 ∧
  ∀ a L, H a = none → (∀ p ∈ L, p ∈ ks) → (∀ p ∈ ks, p.2 ∈ L.map (·.2)) → Q (.ref a) (upd H a (SetTO P w a L))
theorem cr_setU (hc : X.calm = true) (hu : X.A.units + 64 < cLine) : CallR X (.type "set") (rSetU X.K X.prog X.w) := by
  intro pins s σ H xs us Q I r h
  obtain ⟨l, ks, rfl, hl | hl, hk, hf, q⟩ := h
  · exact cr_setOfT hc hu pins s σ H _ us Q I r ⟨l, ks, rfl, hl, hk, hf, q⟩
  · rw [Vals.ref1 r]
    obtain ⟨its, rv, pt, hz⟩ := I.tuple hl
    refine call_set_tupT (P := X.prog) (w := X.w) ks (I.ok.hd hc) (show s.heap.IsTuple l its.toArray from pt) (by simpa using refs_of_vals rv) (fun p hp => I.isT (hk p hp)) hf (by omega) fun s2 hs2 => ?_
    obtain ⟨h', tk, L, es, ep, t, rfl, R, g, k⟩ := hs2
    exact ⟨.ref s.heap.objs.size, upd H s.heap.objs.size (SetTO X.prog X.w s.heap.objs.size L), I.laid (t' := tk) k (Nat.le_refl _) (setTO_new R.t0), rfl, q _ L (I.hok.fresh (Nat.le_refl _)) (fun p hp => List.mem_of_mem_take (g.sub p hp)) fun p hp => g.all p (by rw [List.take_length]; exact hp)⟩
/-- sorted(set), tuples of ints -/
def rSortedV (K : PySem.W.Frag) (P : Program) (w : World) : List V → Hp → VK → Prop := fun vs H Q => ∃ (a : Addr) (L : List (Addr × List Int)), vs = [V.ref a] ∧ H a = some (SetTO P w a L) ∧ (∀ p ∈ L, SqT K H p.1 (p.2.map V.int)) ∧
  ((∀ p ∈ L, ∀ q ∈ L, p.2 = q.2) ∨ ∀ p ∈ L, 1 ≤ p.2.length) ∧
  ∀ (L' : List (Addr × List Int)) (p : Addr), L'.Perm L → (L'.map (·.2)).Nodup → L'.length < 64 → L'.Pairwise (fun q r => ltT q.2 r.2 = true) → H p = none → Q (.ref p) (upd H p (.lst (L'.map fun q => V.ref q.1)))
theorem cr_sortedV (hc : X.calm = true) (hu : X.A.units + 64 < cLine) : CallR X (.builtin "sorted") (rSortedV X.K X.prog X.w) := by
  intro pins s σ H vs us Q I r h
  obtain ⟨a, L, rfl, ha, hk, hd, q⟩ := h
  have R0 : SetT0 X.prog X.w s.heap a L := (I.hok a _ ha).1
  obtain ⟨es, ep, t, R⟩ := R0.full fun p hp => I.isT (hk p hp)
  rw [Vals.ref1 r]
  have hk1 : L.length ≤ 1 ∨ ∀ p ∈ L, 1 ≤ p.2.length := by
    rcases hd with hd | hd
    · have nd := R.nd
      match L, hd, nd with
      | [], _, _ => exact .inl (Nat.zero_le _)
      | [_], _, _ => exact .inl (Nat.le_refl _)
      | x :: y :: L, hd, nd =>
        have e := hd x List.mem_cons_self y (List.mem_cons_of_mem _ List.mem_cons_self)
        rw [List.map_cons, List.nodup_cons, List.map_cons] at nd
        exact absurd (e ▸ List.mem_cons_self) nd.1
    · exact .inr hd
  refine sorted_setV R (I.ok.hd hc) hk1 hu fun s' p out c L' k g o hp hg hout pm pw => ?_
  have hfew : L'.length < 64 := by rw [pm.length_eq]; exact R.few
  have hlen : (L'.map fun q => V.ref q.1).length ≤ sizeLine := by rw [List.length_map, sizeLine_eq]; omega
  have hn : H p = none := I.hok.fresh hp
  have hv : Vals (L'.map fun q => V.ref q.1) out.toList := by rw [hout]; exact vals_of_refs L'
  have J : Inv X pins σ (upd H p (.lst (L'.map fun q => V.ref q.1))) { s with heap := s'.heap, gens := s'.gens, drawn := s'.drawn, toks := s'.toks } :=
    I.call (ch := []) (Un.laid k hp hn) (I.hok.laid k hp ⟨hlen, out.toList, c, hv, hg⟩) (by rw [g]; exact I.bare) (fun _ z => nomatch z)
  have e : s' = { s with heap := s'.heap, gens := s'.gens, drawn := s'.drawn, toks := s'.toks } := by
    cases s'
    cases s
    cases o
    rfl
  rw [e]
  have nd' := (pm.map (·.2)).nodup_iff.mpr R.nd
  exact ⟨.ref p, _, J, rfl, q L' p pm nd' hfew ((List.Pairwise.and pw (List.pairwise_map.mp nd')).imp fun ⟨h1, h2⟩ => ltT_of h1 h2) hn⟩
/-- set(t), a tuple of ints -/
def rSetI (K : PySem.W.Frag) (w : World) : List V → Hp → VK → Prop := fun xs H Q => ∃ (l : Addr) (ns : List Int), xs = [V.ref l] ∧ SqT K H l (ns.map V.int) ∧ ns.length < 64 ∧
  ∀ a n, H a = none → n ≤ ns.length → Q (.ref a) (upd H a (SetO w a (fun j => decide (j ∈ ns)) n))
theorem cr_setI (hc : X.calm = true) : CallR X (.type "set") (rSetI X.K X.w) := by
  intro pins s σ H xs us Q I r h
  obtain ⟨l, ns, rfl, hl, hn, q⟩ := h
  rw [Vals.ref1 r]
  obtain ⟨its, rv, pt, hz⟩ := I.tuple hl
  refine call_set_tupI (P := X.prog) (w := X.w) ns (I.ok.hd hc) (show s.heap.IsTuple l its.toArray from pt) (by simpa using ints_of_vals rv) (by unfold scanBound; omega) fun h' tk c R1 hcn k => ?_
  exact ⟨.ref s.heap.objs.size, upd H s.heap.objs.size (SetO X.w s.heap.objs.size (fun j => decide (j ∈ ns)) c), I.laid (t' := tk) k (Nat.le_refl _) (setO_new R1), rfl, q _ c (I.hok.fresh (Nat.le_refl _)) hcn⟩
theorem cr_or {f : Value} {R1 R2 : List V → Hp → VK → Prop} (h1 : CallR X f R1) (h2 : CallR X f R2) : CallR X f (fun xs H Q => R1 xs H Q ∨ R2 xs H Q) := by
  intro pins s σ H xs us Q I r h
  rcases h with h | h
  · exact h1 pins s σ H xs us Q I r h
  · exact h2 pins s σ H xs us Q I r h
theorem seqS_now {K : PySem.W.Frag} {as : List Addr} {H : Hp} {st : Store} {v : V} {d : D} {ds : List D} (S : StR K as H st) (r : Rp K as H v d) (e : seqS st d = some ds) : ∃ a xs, v = .ref a ∧ (SqL K H a xs ∨ SqT K H a xs) ∧ RpL K as H xs ds := by
  cases r with
  | tup h z rl => cases e; exact ⟨_, _, rfl, .inr h, rl⟩
  | lst h n z rl =>
    obtain ⟨a, xs, ev, hq, zz, rl'⟩ := lst_now S (.lst h n z rl) e
    exact ⟨a, xs, ev, .inl hq, rl'⟩
  | frl h z rl =>
    obtain ⟨a, xs, ev, hq, zz, rl'⟩ := lst_now S (.frl h z rl) e
    exact ⟨a, xs, ev, .inl hq, rl'⟩
  | cell h =>
    obtain ⟨a, xs, ev, hq, zz, rl'⟩ := lst_now S (.cell h) e
    exact ⟨a, xs, ev, .inl hq, rl'⟩
  | _ => cases e
/-- sorted(set(e)) -/
theorem pe_srtS' {e : Expr} {np np2 p2 : Pos} {mu : Bool} {fa : Den} (hc : X.calm = true) (hu : X.A.units + 64 < cLine) (hg : Gl X "sorted") (hm : X.mg "sorted" = none) (hg2 : Gl X "set") (hm2 : X.mg "set" = none) (ha : PE X e (RE X.K X.mg W fa)) (hs : starEach [e] X.env = (false, eval e X.env) :: starEach [] X.env) :
    PE X (.Call (.Name "sorted" np) [.Call (.Name "set" np2) [e] [] p2] [] pos) (RE X.K X.mg W (dSrtS mu fa)) := by
  refine PE.re (pe_callB (cr_or (cr_sortedV hc hu) (cr_sortedSet hc)) hg hm (by decide +kernel) (pa_cons (pe_callTy (cr_or (cr_setU hc hu) (cr_setI hc)) hg2 hm2 (by decide +kernel) (pa_cons ha pa_nil hs) (he := hs)) pa_nil rfl)) fun σ H Q h => ?_
  obtain ⟨as, env, st, E, S, h⟩ := h
  refine re_then E S h fun r st1 as1 H1 v x1 E1 S1 r1 h1 => ?_
  cases e0 : keyI r with
  | some ns =>
    unfold gSrtS at h1
    rw [e0] at h1
    simp only at h1
    by_cases hn : ns.length < 64
    · rw [if_pos hn] at h1
      obtain ⟨b, ev, rb⟩ := keyI_rp r1 e0
      subst ev
      refine .inr ⟨b, ns, rfl, tup_key rb, hn, fun a n hna hnn => .inr ⟨a, _, n, rfl, upd_same, by omega, fun ms p h2 h3 h4 hpn => ?_⟩⟩
      obtain ⟨x2, S2⟩ := S1.alloc (SetO X.w a (fun j => decide (j ∈ ns)) n) hna
      have : ms = sortI ns := sorted_uniq h2 (sortI_pw ns) fun k => by rw [h3 k, sortI_mem]; simp
      subst this
      obtain ⟨rv, ee, q⟩ := fin_ok (as := as1) (H := upd H1 a (SetO X.w a (fun j => decide (j ∈ ns)) n)) (Q := Q) S2 (Out.wp_mono h1 (fun _ _ _ z => WV.ext (x1.trans x2) z) fun _ _ _ z => z)
      cases ee
      exact q p ((sortI ns).map V.int) hpn (by rw [List.length_map, sizeLine_eq]; omega) (RpL.ints _)
    · rw [if_neg hn] at h1; exact h1.elim
  | none =>
    have h1 : (fin mu (gSrtT st1 r) st1).wp (WV X.K as H Q) (WE X.K X.mg W as1 H1 σ) := by
      unfold gSrtS at h1
      rw [e0] at h1
      exact h1
    refine .inl ?_
    cases e1 : seqS st1 r with
    | none => unfold gSrtT at h1; rw [e1] at h1; exact h1.elim
    | some ds =>
      cases e2 : keysT ds with
      | none => unfold gSrtT at h1; rw [e1] at h1; simp only [e2] at h1; exact h1.elim
      | some ks =>
        cases e3 : okT ks with
        | false => unfold gSrtT at h1; rw [e1] at h1; simp only [e2, e3] at h1; exact h1.elim
        | true =>
          have eg : gSrtT st1 r = some (.newL ((sortT ks).map fun k => .tup (k.map L2.PyD.D.int))) := by
            unfold gSrtT
            rw [e1]
            simp only [e2, e3, if_true]
          rw [eg] at h1
          obtain ⟨l, xs, ev, hq, rl⟩ := seqS_now S1 r1 e1
          subst ev
          obtain ⟨L0, rfl, hks, hL0⟩ := keysT_ok rl e2
          unfold okT at e3
          rw [Bool.and_eq_true] at e3
          obtain ⟨c1, c2⟩ := e3
          have c1 := of_decide_eq_true c1
          have hlen : L0.length < 64 := by rw [← hks, List.length_map] at c1; exact c1
          have hin : ∀ p ∈ L0, p.2 ∈ ks := fun p hp => by rw [← hks]; exact List.mem_map.mpr ⟨p, hp, rfl⟩
          have c3 : (∀ x ∈ ks, ∀ y ∈ ks, x = y) ∨ ∀ k ∈ ks, 1 ≤ k.length := by
            rw [Bool.or_eq_true, decide_eq_true_eq, List.all_eq_true] at c2
            rcases c2 with c2 | c2
            · left
              match ks, c2 with
              | [], _ => exact fun _ h => (nomatch h)
              | [k], _ => exact fun x hx y hy => by rw [List.mem_singleton.mp hx, List.mem_singleton.mp hy]
            · exact .inr fun k hk => of_decide_eq_true (c2 k hk)
          refine ⟨l, L0, rfl, hq, fun p hp => tup_key (hL0 p hp), hlen, fun a L hna hL1 hL2 => ?_⟩
          obtain ⟨x2, S2⟩ := S1.alloc (SetTO X.prog X.w a L) hna
          have hR : ∀ p ∈ L, Rp X.K as1 (upd H1 a (SetTO X.prog X.w a L)) (.ref p.1) (.tup (p.2.map L2.PyD.D.int)) := fun p hp => Rp.ext x2 (hL0 p (hL1 p hp))
          refine .inl ⟨a, L, rfl, upd_same, fun p hp => tup_key (hR p hp), ?_, fun L' p pm nd hl' pw hpn => ?_⟩
          · rcases c3 with c3 | c3
            · exact .inl fun p hp q hq => c3 _ (hin p (hL1 p hp)) _ (hin q (hL1 q hq))
            · exact .inr fun p hp => c3 _ (hin p (hL1 p hp))
          have hsort : L'.map (·.2) = sortT ks := by
            refine sortT_uniq (List.pairwise_map.mpr pw) (sortT_pw ks) fun k => ?_
            rw [sortT_mem]
            constructor
            · intro hk
              obtain ⟨q, hq, rfl⟩ := List.mem_map.mp hk
              exact hin q (hL1 q (pm.mem_iff.mp hq))
            · intro hk
              rw [← hks] at hk
              obtain ⟨q, hq, rfl⟩ := List.mem_map.mp hk
              obtain ⟨q', hq', e⟩ := List.mem_map.mp (hL2 q hq)
              exact List.mem_map.mpr ⟨q', pm.mem_iff.mpr hq', e⟩
          obtain ⟨rv, ee, q⟩ := fin_ok (as := as1) (H := upd H1 a (SetTO X.prog X.w a L)) (Q := Q) S2 (Out.wp_mono h1 (fun _ _ _ z => WV.ext (x1.trans x2) z) fun _ _ _ z => z)
          cases ee
          refine q p (L'.map fun q => V.ref q.1) hpn (by rw [List.length_map, sizeLine_eq]; omega) ?_
          rw [← hsort, List.map_map]
          have rpl : ∀ M : List (Addr × List Int), (∀ q ∈ M, q ∈ L) → RpL X.K as1 (upd H1 a (SetTO X.prog X.w a L)) (M.map fun q => V.ref q.1) (M.map ((fun k : List Int => L2.PyD.D.tup (k.map L2.PyD.D.int)) ∘ fun x => x.2)) := fun M => by
            induction M with
            | nil => exact fun _ => .nil
            | cons q M ih => exact fun hM => .cons (hR q (hM q List.mem_cons_self)) (ih fun r hr => hM r (List.mem_cons_of_mem _ hr))
          exact rpl L' fun q hq => pm.mem_iff.mp hq
end
end
end L2.PyD
/-! SetW: sorted({e for t in it}), e a tuple of ints. -/
namespace L2.PyD
open PySem PySem.Spec PyProof.Rows
noncomputable section
section
variable {P : Program} {w : World} {A : Around} {E : Value → Shared → Prop} {s : Shared} {a : Addr} {L : List (Addr × List Int)} {es : Array (Int × Value)} {ep : Nat} {t : SetTable}
theorem setT_add (R : SetTR P w s.heap a L es ep t) {x : Addr} {k : List Int} (hx : IsT P w s.heap k x) (hu : A.units + 4 < cLine) (hfew : L.length + 1 < 64) {Q : Value → Shared → Prop}
    (hQ : ∀ h' L' es' ep' t', Heap.SameBut a s.heap h' → SetTR P w h' a L' es' ep' t' → (k ∈ L.map (·.2) → L' = L) → (k ∉ L.map (·.2) → L'.Perm ((x, k) :: L)) → Q .none { s with heap := h', toks := s.toks + (k.length + 1) }) :
    wpAny (model P w) A (call (.builtin "set.add") [.ref a, .ref x]) Q E s := by
  have hS : Shared.TypeIs s (.ref a) "set" := by
    obtain ⟨o, ho, hex, _⟩ := R.ob
    exact ⟨o, ho, hex.1⟩
  refine wpAny_call_entry F.slot_set_add hS F.entry_set_add ?_ (F.args_set_add_2 _ _)
  unfold Builtin.«set.add» Builtin.Frozenset.oneOther
  simp only [List.isEmpty_nil, bind_assoc]
  unfold Builtin.Frozenset.addrOf setAdd
  refine wpAny_bind (wpAny_pure ?_)
  try dsimp only
  refine wpAny_bind (wpAny_pure ?_)
  try dsimp only
  refine wpAny_bind ?_
  refine wpAny_holding ?_
  refine wpAny_bind (wpAny_pyHash_tuple (by show A.units + 1 < cLine; omega) hx ?_)
  refine add_at (s := { s with toks := s.toks + (k.length + 1) }) R hx (by show A.units + 1 < cLine; omega) hfew fun b h' L' es' ep' t' sb r c1 c2 => ?_
  show wpAny _ _ (ret Value.none) _ _ _
  exact wpAny_pure ⟨_, rfl, hQ h' L' es' ep' t' sb r c1 c2⟩
theorem setT_code {L : List (Addr × List Int)} {p : Addr} {q : Str} : SetTO P w p L ≠ LamX.CodeO p q := fun e => by
  unfold LamX.CodeO SetTO at e
  have e2 := HO.ext.inj e
  let oc : Obj := { cls := .none, data := .fields #[.none, .str q 0] }
  let h : Heap := { objs := Array.replicate (p + 1) oc }
  have hg : h.get? p = some oc := by
    unfold Heap.get?
    have : h.objs[p]? = some oc := by simp [h]
    rw [this]
  obtain ⟨⟨es, ep, t, ⟨o, ho, hex, hd⟩, _⟩⟩ := (congrFun e2 h).mpr ⟨oc, _, 0, hg, rfl, rfl⟩
  rw [hg] at ho
  rw [← Option.some.inj ho] at hd
  cases hd
end
def compST (src : Option (Nat × Cell)) (env0 : Env) (g : DenT) (c : DenB) (e : Den) : List D → List (List Int) → Store → Out (List (List Int))
  | [], acc, s => .ok acc s
  | x :: xs, acc, s => match g x env0 with
    | none => .bad
    | some e1 => (c e1 s).nox.bind fun b s1 => if b then (e e1 s1).nox.bind fun y s2 => match keyI y with
        | some k => if acc.length < 63 then gdoA src (compST src env0 g c e xs (insT k acc)) s2 else .bad
        | none => .bad
      else gdoA src (compST src env0 g c e xs acc) s1
def dSSetT (mu : Bool) (fi : DenI) (vs : List Nat) (g : DenT) (c : DenB) (e : Den) : Den := fun env st => (fi env st).bind fun it st1 => (compST it.2 (wipeE env vs) g c e it.1 [] st1).bind fun ks s => fin mu (if okT ks then some (.newL (ks.map fun k => .tup (k.map L2.PyD.D.int))) else none) s
def tSxT (K : PySem.W.Frag) (P : Program) (w : World) (wi : TI) (g : TG) (tt : TT) (te : TE) (vs : List Nat) : TE := fun σ H Q => wi σ H fun J H1 => ∀ D, H1 D = none → ∃ W : Nat → Nat → Hp → Prop, (∃ m, W 0 m (upd H1 D (SetTO P w D []))) ∧ ∀ i m H, W i m H →
  (J.stop i H ∧ Q (.ref D) H) ∨ (J.go i H ∧ ∃ N : Hp → Prop, (∀ H', N H' → ∃ m', m' < m ∧ W (i + 1) m' H') ∧ ∀ x H', J.yld i H x H' → g x (wipe σ vs) H' fun σ2 H2 => wipe σ2 vs = wipe σ vs ∧ tt σ2 H2 fun b H3 =>
    if b = true then te σ2 H3 fun y H4 => ∃ (x : Addr) (k : List Int) (L : List (Addr × List Int)), y = .ref x ∧ SqT K H4 x (k.map V.int) ∧ H4 D = some (SetTO P w D L) ∧ (∀ p ∈ L, SqT K H4 p.1 (p.2.map V.int)) ∧ L.length < 63 ∧
      ∀ L', (k ∈ L.map (·.2) → L' = L) → (k ∉ L.map (·.2) → L'.Perm ((x, k) :: L)) → N (upd H4 D (SetTO P w D L')) else N H3)
section
variable {X : Cx}
theorem sxt_core (hu : X.A.units + 64 < cLine) {pins : List (Addr × Obj)} {s : Shared} {σ : St} {H : Hp} {Q : VK} {use : Option (Value → Sem Unit)} {Qf : Value → Shared → Prop} {elt tg iter : Expr} {ifs : List Expr} {scope : Scope} {own : List (Str × Nat)} {pos pos' : Pos} {wi : TI} {g : TG} {tt : TT} {te : TE} (hc : X.calm = true) (hN : X.N.Nodup) (I : Inv X pins σ H s) (hi : PI X tg iter wi) (ok : BlkOk X.N X.env.scope scope own)
    (hg : ∀ (s : Shared) (H : Hp) (C : Addr) (cl : List (Str × Addr)) (fp : List Addr), PG (X.blk s H scope (compEnvC scope cl C X.env) fp) tg g)
    (ht : ∀ (s : Shared) (H : Hp) (C : Addr) (cl : List (Str × Addr)) (fp : List Addr), PTs (X.blk s H scope (compEnvC scope cl C X.env) fp) ifs tt)
    (he : ∀ (s : Shared) (H : Hp) (C : Addr) (cl : List (Str × Addr)) (fp : List Addr), PE (X.blk s H scope (compEnvC scope cl C X.env) fp) elt te)
    (hs : ∀ x, foldedSetIterable iter X.env x = pure x) (h : tSxT X.K X.prog X.w wi g tt te (own.map (·.2)) σ H Q)
    (last : ∀ D C s' m H', Inv X pins σ H' s' → Q (.ref D) H' → s'.heap.Ns C m → FpOk X pins H' C → compPost (model X.prog X.w) X.A X.xe use Qf (.ref D) C (.ok .next) s') :
    wpAny (model X.prog X.w) X.A (comprehension (.SetComp elt [⟨tg, iter, ifs, 0⟩] scope pos) scope X.env pos' (newSet (.type "set")) false (eval iter X.env) use) Qf X.xe s := by
  have frees : ∀ y ∈ scope.names, y.2 = .free → ∃ c, X.env.cells.lookup y.1 = some c := fun y hy e => by
    rcases ok.free y hy e with k | k <;> first | exact I.ok.has _ (.inl k) | exact I.ok.has _ (.inr k)
  refine wpAny_comprehension_free rfl hs (closure_ok frees) ok.kind (fun y hy e => by rw [ok.uniq y hy, e]) (thn (hi.run pins s σ H _ I h) fun xv sa hx => thn hx fun itv sb hb => ?_)
  obtain ⟨it, fp, tn, J, Hb, e, Ib, T, stb, fb, q⟩ := hb
  subst e
  refine PpSet.newSet_ok (newEnv_comp ?_)
  generalize hD : sb.heap.objs.size = D
  obtain ⟨W, ⟨m0, w0⟩, turn⟩ := q D (Ib.hok.fresh (Nat.le_of_eq hD))
  generalize hsc : ({ sb with heap := sb.heap.push { cls := .type "set", dict := none, data := .set #[] 0 (.fresh 0 0 (!X.w.params.followText "set-order")) } } : Shared) = sc
  have Ic : Inv X pins σ (upd Hb D (SetTO X.prog X.w D [])) sc := by
    rw [← hsc]
    refine Ib.laid (t' := sb.toks) (fun _ _ q => Heap.get?_push_of_some _ q) (Nat.le_of_eq hD) ?_
    rw [← hD]
    exact setTO_new (setTR_fresh (P := X.prog) (Heap.get?_push_size _ rfl)).t0
  have hh : sc.heap = sb.heap.push { cls := .type "set", dict := none, data := .set #[] 0 (.fresh 0 0 (!X.w.params.followText "set-order")) } := by rw [← hsc]
  have low : ∀ b ∈ fp, b < sb.heap.objs.size := fun b hb => let ⟨o, e, _⟩ := T.obj _ _ stb b hb; Heap.lt_size e
  have fc : ∀ b ∈ fp, FpOk X pins (upd Hb D (SetTO X.prog X.w D [])) b ∧ b < sc.heap.objs.size := fun b hb => by
    refine ⟨⟨?_, (fb b hb).2⟩, by rw [hh, Heap.size_push]; exact Nat.lt_succ_of_lt (low b hb)⟩
    rw [upd_ne (by rw [← hD]; exact Nat.ne_of_lt (low b hb))]
    exact (fb b hb).1
  have stc : tn 0 sc.heap := T.keep _ _ _ stb fun b _ o e => by rw [hh]; exact Heap.get?_push_of_some _ e
  have Id := block_start Ic ok hN fc
  generalize hH : upd Hb D (SetTO X.prog X.w D []) = Hc at Ic Id w0 fc
  generalize hcl : cellsFrom (sc.heap.objs.size + 1) scope.names (cloFrom X.env.cells scope.names []) = cl at Id ⊢
  have pg := hg sc Hc sc.heap.objs.size cl fp
  have pt := ht sc Hc sc.heap.objs.size cl fp
  have pe := he sc Hc sc.heap.objs.size cl fp
  show codeAny _ _ (.compStart (.SetComp elt [⟨tg, iter, ifs, 0⟩] scope pos) 0 (.ref it) (.ref D) (compEnvC scope cl sc.heap.objs.size X.env)) (compPost (model X.prog X.w) X.A X.xe use Qf (.ref D) sc.heap.objs.size) { sc with heap := pushCells (sc.heap.push { cls := .type "dict", data := .dict #[] }) scope.names }
  have none0 : ∀ b ∈ fp, Hc b = none := fun b hb => (fc b hb).1.1
  generalize hce : compEnvC scope cl sc.heap.objs.size X.env = ce at Id pg pt pe ⊢
  have cL : ce.locals = sc.heap.objs.size := by subst hce; rfl
  generalize hsd : ({ sc with heap := pushCells (sc.heap.push { cls := .type "dict", data := .dict #[] }) scope.names } : Shared) = sd at Id ⊢
  have std : tn 0 sd.heap := T.keep _ _ _ stc fun b _ o e => by rw [← hsd]; exact pushCells_keeps _ _ _ _ (Heap.get?_push_of_some _ e)
  have stat : ∀ {σ' : St} {H' : Hp} {s' : Shared}, Inv (X.blk sc Hc scope ce fp) [] σ' H' s' → (∀ b ∈ fp, H' b = none) → ∀ b ∈ fp, FpOk (X.blk sc Hc scope ce fp) [] H' b := fun {σ' H' s'} J' hn b hb =>
    ⟨hn b hb, (J'.ok.exf b hb).1, J'.ok.exfs b hb, .inl hb, fun x c e => (J'.ok.exf b hb).2 x c e, fun p hp => absurd (show p ∈ ([] : List (Addr × Obj)) ++ [] from hp) (by simp)⟩
  have loop : codeAny (model X.prog X.w) X.A (.compLoop (.SetComp elt [⟨tg, iter, ifs, 0⟩] scope pos) 0 (.ref it) (.ref D) ce) (compPost (model X.prog X.w) X.A X.xe use Qf (.ref D) sc.heap.objs.size) sd := by
    refine PpSet.compLoopS_any (fun n s' => ∃ i H', Inv (X.blk sc Hc scope ce fp) [] (wipe σ (own.map (·.2))) H' s' ∧ tn i s'.heap ∧ (∀ b ∈ fp, H' b = none) ∧ W i n H') ?_ m0 ⟨0, Hc, Id, std, none0, w0⟩
    rintro n se ⟨i, He, Ie, ste, ne, we⟩
    rcases turn i n He we with ⟨stop, fin⟩ | ⟨go, N, hNx, step⟩
    · have td := T.done (X.blk sc Hc scope ce fp) rfl rfl rfl hc i [] se _ He (fun _ _ => False) Ie (stat Ie ne) ste stop
      refine thnF td fun r sf ⟨hr, If⟩ => ?_
      subst hr
      have Ig : Inv X pins σ He sf := Ic.call' (ch := fp) If.os If.base If.hok If.bare fun b hb => ⟨(fc b hb).1.2.2.2.1, (fc b hb).1.2.1, (fc b hb).1.2.2.2.2.1, (fc b hb).1.2.2.2.2.2⟩
      have nC : He sc.heap.objs.size = none := by
        have z : He ce.locals = none := If.free
        rwa [cL] at z
      obtain ⟨m, hn, _⟩ := If.loc
      have hn : sf.heap.Ns ce.locals m := hn
      rw [cL] at hn
      exact last D sc.heap.objs.size sf m He Ig fin hn (Ic.fpOk (Nat.le_refl _) nC)
    · have ti := T.item (X.blk sc Hc scope ce fp) rfl rfl rfl hc i [] se _ He (fun _ _ => False) Ie (stat Ie ne) ste go
      refine thnF ti fun r sf ⟨u, hr, hf⟩ => ?_
      subst hr
      refine thnF hf fun _ sg ⟨x, Hg, Ig, rg, yg, stg, ng⟩ => ?_
      have Ip := Ig.pinned (stat Ig ng) (T.obj _ _ stg)
      refine thnF (pg.run _ sg _ Hg x u _ Ip rg (step x Hg yg)) fun _ sh ⟨σh, Hh, Ih, wh, qh⟩ => ?_
      refine thnF (pt.run _ sh σh Hh _ Ih qh) fun b si ⟨Hi, Ii, qi⟩ => ?_
      have back : ∀ {s' : Shared} {H' : Hp}, Inv (X.blk sc Hc scope ce fp) ([] ++ pinsAt fp sg.heap) σh H' s' → N H' → ∃ m, m < n ∧ ∃ i H', Inv (X.blk sc Hc scope ce fp) [] (wipe σ (own.map (·.2))) H' s' ∧ tn i s'.heap ∧ (∀ b ∈ fp, H' b = none) ∧ W i m H' := fun {s' H'} J' nx => by
        obtain ⟨m', hm, w'⟩ := hNx H' nx
        have pin' : ∀ b ∈ fp, ∀ o, sg.heap.get? b = some o → s'.heap.get? b = some o ∧ H' b = none := fun b hb o e => by
          obtain ⟨z1, z2, _⟩ := J'.pin (b, o) (List.mem_append_right _ (List.mem_append_right _ (mem_pinsAt hb e)))
          exact ⟨z1, z2⟩
        refine ⟨m', hm, i + 1, H', (J'.unpinned (pins := [])).weak (by rw [← wh, wipe_length]) (fun j v e => ?_), T.keep _ _ _ stg fun b hb o e => (pin' b hb o e).1, fun b hb => ?_, w'⟩
        · rw [← wh] at e
          exact (wipe_some e).1
        · obtain ⟨o, e, _⟩ := T.obj _ _ stg b hb
          exact (pin' b hb o e).2
      cases b with
      | false =>
        simp only [Bool.false_eq_true, if_false] at qi ⊢
        exact back Ii qi
      | true =>
        simp only [if_true] at qi ⊢
        refine thnF (pe.run _ si σh Hi _ Ii qi) fun zk sj ⟨yk, Hj, Ij, rj, x, k, L, ey, hx, hD2, hL, hl, nx⟩ => ?_
        subst ey
        have ez : zk = .ref x := rj
        subst ez
        have R0 : SetT0 X.prog X.w sj.heap D L := (Ij.hok D _ hD2).1
        obtain ⟨es, ep, t, R⟩ := R0.full fun p hp => Ij.isT (hL p hp)
        refine setT_add R (Ij.isT hx) (show X.A.units + 4 < cLine by omega) (by omega) fun h' L' es' ep' t' sB R' c1 c2 => ?_
        have hex : ∃ u, h'.get? D = some u := let ⟨o, ho, _⟩ := R'.ob; ⟨o, ho⟩
        have J' := Ij.write (e := D) (t' := sj.toks + (k.length + 1)) (by rw [hD2]; trivial) (.inl rfl) (fun b u hb hu => (sB.2 b hb).trans hu) hex (setTO_new (P := X.prog) (H := upd Hj D (SetTO X.prog X.w D L')) R'.t0)
        exact back J' (nx L' c1 c2)
  exact PpSet.codeAny_compStart_set loop (T.self X.A 0 _ _ _ std loop)
/-- as a value -/
theorem pe_sxt (hu : X.A.units + 64 < cLine) {elt tg iter : Expr} {ifs : List Expr} {scope : Scope} {own : List (Str × Nat)} {pos : Pos} {wi : TI} {g : TG} {tt : TT} {te : TE} (hc : X.calm = true) (hN : X.N.Nodup) (hi : PI X tg iter wi) (ok : BlkOk X.N X.env.scope scope own)
    (hg : ∀ (s : Shared) (H : Hp) (C : Addr) (cl : List (Str × Addr)) (fp : List Addr), PG (X.blk s H scope (compEnvC scope cl C X.env) fp) tg g)
    (ht : ∀ (s : Shared) (H : Hp) (C : Addr) (cl : List (Str × Addr)) (fp : List Addr), PTs (X.blk s H scope (compEnvC scope cl C X.env) fp) ifs tt)
    (he : ∀ (s : Shared) (H : Hp) (C : Addr) (cl : List (Str × Addr)) (fp : List Addr), PE (X.blk s H scope (compEnvC scope cl C X.env) fp) elt te)
    (hs : ∀ x, foldedSetIterable iter X.env x = pure x) : PE X (.SetComp elt [⟨tg, iter, ifs, 0⟩] scope pos) (tSxT X.K X.prog X.w wi g tt te (own.map (·.2))) := by
  refine ⟨fun pins s σ H Q I h => ?_⟩
  rw [PpSet.eval_SetComp]
  refine sxt_core hu hc hN I hi ok hg ht he hs h fun D C s' m H' Ig fin hn ff => ⟨m, hn, fun h2 sB => ?_⟩
  obtain ⟨g0, g1, g2, g3, g4, g5⟩ := ff
  exact ⟨.ref D, H', Ig.turned (t' := s'.toks) (fun b o hb e => (sB.2 b hb).trans e) g0 g1 g3 g4 g5, rfl, fin⟩
end
/-- within the set's making -/
theorem rc_scompT {K : PySem.W.Frag} {mg : Str → Option Value} {W : WX} {P : Program} {w : World} {mu : Bool} {fi : DenI} {vs : List Nat} {g : DenT} {c : DenB} {e : Den} {σ : St} {H : Hp} {Q : VK} (h : RE K mg W (dSSetT mu fi vs g c e) σ H Q) :
    tSxT K P w (RI K mg W fi) (RG K (some vs) g) (RT K mg Wno c) (RE K mg Wno e) vs σ H (fun v H1 => rSortedV K P w [v] H1 Q) := by
  obtain ⟨as, env, st, E, S, h⟩ := h
  refine ⟨as, env, st, E, S, Out.wp_mono (Out.wp_bind h) (fun it st1 _ h1 as1 H1 J x1 S1 g1 ok => ?_) fun _ _ _ z => z⟩
  intro D hD
  have free : D ∉ as1 := S1.free hD
  obtain ⟨xD, SD⟩ := S1.alloc (SetTO P w D []) hD
  refine ⟨fun i m H2 => m = it.1.length - i ∧ i ≤ it.1.length ∧ ∃ as2 s2 acc L, Ext as1 H1 as2 H2 ∧ D ∉ as2 ∧ H2 D = some (SetTO P w D L) ∧ acc.Pairwise (fun a b => ltT a b = true) ∧ ((∀ k, k ∈ acc ↔ k ∈ L.map (·.2)) ∧ (L.map (·.2)).Nodup ∧ ∀ p ∈ L, Rp K as2 H2 (.ref p.1) (.tup (p.2.map L2.PyD.D.int))) ∧ StR K as2 H2 s2 ∧ Gd it.2 s2 ∧
    ((compST it.2 (wipeE env vs) g c e (it.1.drop i) acc s2).bind fun ks s => fin mu (if okT ks then some (.newL (ks.map fun k => .tup (k.map L2.PyD.D.int))) else none) s).wp (WV K as H Q) (WE K mg W as H σ), ⟨_, rfl, Nat.zero_le _, as1, st1, [], [], xD, free, upd_same, List.Pairwise.nil, ⟨fun k => by simp, List.nodup_nil, fun p hp => (nomatch hp)⟩, SD, g1, h1⟩, ?_⟩
  rintro i m H2 ⟨rfl, hi, as2, s2, acc, L, x12, nD, hS, hp, ⟨hL1, hL2, hL3⟩, S2, g2, h2⟩
  have okk := (ok as2 H2 s2 x12 S2 g2).2 i
  by_cases hlt : i < it.1.length
  · right
    have ed : it.1.drop i = it.1[i] :: it.1.drop (i + 1) := List.drop_eq_getElem_cons hlt
    rw [ed] at h2
    obtain ⟨hgo, hy⟩ := okk.1 it.1[i] (List.getElem?_eq_getElem hlt)
    refine ⟨hgo, fun H' => i + 1 ≤ it.1.length ∧ ∃ as3 s3 acc L, Ext as1 H1 as3 H' ∧ D ∉ as3 ∧ H' D = some (SetTO P w D L) ∧ acc.Pairwise (fun a b => ltT a b = true) ∧ ((∀ k, k ∈ acc ↔ k ∈ L.map (·.2)) ∧ (L.map (·.2)).Nodup ∧ ∀ p ∈ L, Rp K as3 H' (.ref p.1) (.tup (p.2.map L2.PyD.D.int))) ∧ StR K as3 H' s3 ∧ Gd it.2 s3 ∧
      ((compST it.2 (wipeE env vs) g c e (it.1.drop (i + 1)) acc s3).bind fun ks s => fin mu (if okT ks then some (.newL (ks.map fun k => .tup (k.map L2.PyD.D.int))) else none) s).wp (WV K as H Q) (WE K mg W as H σ), fun H' w => ⟨it.1.length - (i + 1), by omega, rfl, w.1, w.2⟩, fun x H3 y => ?_⟩
    obtain ⟨x3, S3, r3⟩ := hy x H3 y
    unfold compST at h2
    cases eg : g it.1[i] (wipeE env vs) with
    | none => rw [eg] at h2; exact h2.elim
    | some e1 =>
      rw [eg] at h2
      simp only at h2
      rw [Out.assoc] at h2
      have stays : ∀ {as' : List Addr} {H' : Hp}, Ext as2 H2 as' H' → D ∉ as' ∧ H' D = some (SetTO P w D L) := fun {as' H'} x =>
        ⟨x.new D _ hS (fun _ z => by unfold SetTO at z; cases z) nD, x.keep D _ hS (.inl nD) (fun _ z => by unfold SetTO at z; cases z)⟩
      refine ⟨as2, wipeE env vs, it.1[i], e1, wipeE_ok (E.ext (x1.trans (x12.trans x3))) vs, r3, eg, fun σ4 E4 m4 => ⟨?_, ?_⟩⟩
      · exact Eq.trans (show wipe σ4 vs = wipe (wipe σ vs) vs from m4) (wipe_idem σ vs vs fun _ z => z)
      refine rt_nox E4 S3 h2 fun b s4 as4 H4 x4 E5 S4 h4 => ?_
      cases b with
      | false =>
        refine iteF ?_
        rw [if_neg Bool.false_ne_true] at h4
        obtain ⟨hG, h4⟩ := gdoA_wp h4
        obtain ⟨n1, n2⟩ := stays (x3.trans x4)
        exact ⟨hlt, as4, s4, acc, L, (x12.trans x3).trans x4, n1, n2, hp, ⟨hL1, hL2, fun p hp => Rp.ext (x3.trans x4) (hL3 p hp)⟩, S4, hG, h4⟩
      | true =>
        refine iteT ?_
        rw [if_pos rfl, Out.assoc] at h4
        refine re_nox E5 S4 h4 fun k s5 as5 H5 u x5 E6 S5 r5 h5 => ?_
        cases ek : keyI k with
        | none => rw [ek] at h5; exact h5.elim
        | some n =>
          rw [ek] at h5
          simp only at h5
          by_cases hl : acc.length < 63
          · rw [if_pos hl] at h5
            obtain ⟨hG, h5⟩ := gdoA_wp h5
            obtain ⟨n1, n2⟩ := stays ((x3.trans x4).trans x5)
            have x15 := ((x12.trans x3).trans x4).trans x5
            obtain ⟨b, eu, rb⟩ := keyI_rp r5 ek
            have hL5 : ∀ p ∈ L, Rp K as5 H5 (.ref p.1) (.tup (p.2.map L2.PyD.D.int)) := fun p hp => Rp.ext ((x3.trans x4).trans x5) (hL3 p hp)
            have hacc : acc.Nodup := hp.imp fun {a b} h e => by rw [e, ltT_irr] at h; cases h
            have hlen : L.length < 63 := by
              have pm : (L.map (·.2)).Perm acc := (List.perm_ext_iff_of_nodup hL2 hacc).mpr fun k => (hL1 k).symm
              have := pm.length_eq
              rw [List.length_map] at this
              omega
            refine ⟨b, n, L, eu, tup_key rb, n2, fun p hp => tup_key (hL5 p hp), hlen, fun L' c1 c2 => ?_⟩
            have n2' := n2
            unfold SetTO at n2'
            have st5 : StR K as5 (upd H5 D (SetTO P w D L')) s5 := StR.oth n2' n1 (fun q z => by rw [n2] at z; exact setT_code (Option.some.inj z)) S5
            have hx : Ext as1 H1 as5 (upd H5 D (SetTO P w D L')) := ⟨x15.pre, fun p o hpo cc nt => by
              rw [upd_ne (ne_of_none hpo hD)]
              exact x15.keep p o hpo cc nt, x15.new⟩
            refine ⟨hlt, as5, s5, insT n acc, L', hx, n1, upd_same, insT_pw n hp, ?_, st5, hG, h5⟩
            rcases Classical.em (n ∈ L.map (·.2)) with c | c
            · rw [c1 c]
              refine ⟨fun j => ?_, hL2, fun p hp => Rp.oth n2' (hL5 p hp)⟩
              rw [insT_mem, hL1 j]
              exact ⟨fun h => h.elim (fun e => e ▸ c) id, .inr⟩
            · have pm := c2 c
              refine ⟨fun j => ?_, ?_, fun p hp => Rp.oth n2' ?_⟩
              · rw [insT_mem, hL1 j, (pm.map (·.2)).mem_iff, List.map_cons, List.mem_cons]
              · rw [(pm.map (·.2)).nodup_iff, List.map_cons, List.nodup_cons]
                exact ⟨c, hL2⟩
              · rcases List.mem_cons.mp (pm.mem_iff.mp hp) with e | hp
                · rw [e]; exact rb
                · exact hL5 p hp
          · rw [if_neg hl] at h5; exact h5.elim
  · left
    have : i = it.1.length := by omega
    subst this
    rw [List.drop_length] at h2
    refine ⟨okk.2 (Nat.le_refl _), ?_⟩
    unfold compST at h2
    have h3 : (fin mu (if okT acc then some (.newL (acc.map fun k => .tup (k.map L2.PyD.D.int))) else none) s2).wp (WV K as H Q) (WE K mg W as H σ) := h2
    cases e3 : okT acc with
    | false => rw [e3] at h3; exact h3.elim
    | true =>
      rw [e3, if_pos rfl] at h3
      unfold okT at e3
      rw [Bool.and_eq_true] at e3
      obtain ⟨c0, c2⟩ := e3
      have hin : ∀ p ∈ L, p.2 ∈ acc := fun p hp => (hL1 _).mpr (List.mem_map.mpr ⟨p, hp, rfl⟩)
      have c3 : (∀ x ∈ acc, ∀ y ∈ acc, x = y) ∨ ∀ k ∈ acc, 1 ≤ k.length := by
        rw [Bool.or_eq_true, decide_eq_true_eq, List.all_eq_true] at c2
        rcases c2 with c2 | c2
        · left
          clear h2 h3 hp hL1 hin
          match acc, c2 with
          | [], _ => exact fun _ h => (nomatch h)
          | [k], _ => exact fun x hx y hy => by rw [List.mem_singleton.mp hx, List.mem_singleton.mp hy]
        · exact .inr fun k hk => of_decide_eq_true (c2 k hk)
      refine ⟨D, L, rfl, hS, fun p hp => tup_key (hL3 p hp), ?_, fun L' p pm nd hl' pw hpn => ?_⟩
      · rcases c3 with c3 | c3
        · exact .inl fun p hp q hq => c3 _ (hin p hp) _ (hin q hq)
        · exact .inr fun p hp => c3 _ (hin p hp)
      have hsort : L'.map (·.2) = acc := sortT_uniq (List.pairwise_map.mpr pw) hp fun k => by rw [hL1 k, (pm.map (·.2)).mem_iff]
      obtain ⟨rv, ee, q⟩ := fin_ok (as := as2) (H := H2) (Q := Q) S2 (Out.wp_mono h3 (fun _ _ _ z => WV.ext (x1.trans x12) z) fun _ _ _ z => z)
      cases ee
      refine q p (L'.map fun q => V.ref q.1) hpn (by rw [List.length_map, sizeLine_eq]; omega) ?_
      rw [← hsort, List.map_map]
      have rpl : ∀ M : List (Addr × List Int), (∀ q ∈ M, q ∈ L) → RpL K as2 H2 (M.map fun q => V.ref q.1) (M.map ((fun k : List Int => L2.PyD.D.tup (k.map L2.PyD.D.int)) ∘ fun x => x.2)) := fun M => by
        induction M with
        | nil => exact fun _ => .nil
        | cons q M ih => exact fun hM => .cons (hL3 q (hM q List.mem_cons_self)) (ih fun r hr => hM r (List.mem_cons_of_mem _ hr))
      exact rpl L' fun q hq => pm.mem_iff.mp hq
section
variable {X : Cx} {W : WX} {pos : Pos}
/-- sorted({.. for ..}) -/
theorem pe_ssetT' {elt tg iter : Expr} {ifs : List Expr} {scope : Scope} {own : List (Str × Nat)} {mu : Bool} {fi : DenI} {g : DenT} {c : DenB} {e : Den} {np spos : Pos} (hc : X.calm = true) (hu : X.A.units + 64 < cLine) (hN : X.N.Nodup) (hgl : Gl X "sorted") (hm : X.mg "sorted" = none) (hi : PI X tg iter (RI X.K X.mg W fi)) (ok : BlkOk X.N X.env.scope scope own)
    (hg : ∀ (s : Shared) (H : Hp) (C : Addr) (cl : List (Str × Addr)) (fp : List Addr), PG (X.blk s H scope (compEnvC scope cl C X.env) fp) tg (RG X.K (some (own.map (·.2))) g))
    (ht : ∀ (s : Shared) (H : Hp) (C : Addr) (cl : List (Str × Addr)) (fp : List Addr), PTs (X.blk s H scope (compEnvC scope cl C X.env) fp) ifs (RT X.K X.mg Wno c))
    (he : ∀ (s : Shared) (H : Hp) (C : Addr) (cl : List (Str × Addr)) (fp : List Addr), PE (X.blk s H scope (compEnvC scope cl C X.env) fp) elt (RE X.K X.mg Wno e)) (hs : ∀ x, foldedSetIterable iter X.env x = pure x) :
    PE X (.Call (.Name "sorted" np) [.SetComp elt [⟨tg, iter, ifs, 0⟩] scope spos] [] pos) (RE X.K X.mg W (dSSetT mu fi (own.map (·.2)) g c e)) := by
  refine PE.re (pe_callB (cr_sortedV hc hu) hgl hm (by decide +kernel) (pa_cons (pe_sxt hu hc hN hi ok hg ht he hs) pa_nil rfl)) fun σ H Q h => ?_
  exact rc_scompT h
end
end
end L2.PyD
/-! PyD, part 8k: raise X(); two lambdas in a list, one of them called within try .. except X. -/
namespace L2.PyD
open PySem PySem.Spec PyProof.Rows LamX
noncomputable section
/-! ### raise X(), X an own class without own __init__ -/
structure ExFact (K : PySem.W.Frag) (mg : Str → Option Value) (x : Str) : Prop where
  ex : ∃ (C : Addr) (bmB : List Value) (B newId initId : String), ExcBaseFacts B newId initId bmB ∧ PySem.W.excIn K C bmB newId = true ∧ mg x = some (.ref C) ∧ PySem.W.keepIn K (.ref C) = true ∧
    PySem.W.subIn K (.ref C) (.type "BaseException") = some true ∧ PySem.W.typeIn K (.ref C) = some (.type "type") ∧ PySem.W.exmOne K (.ref C) (.ref C) = some true
theorem pmk_own0 {X : Cx} {C : Addr} {bmB : List Value} {B newId initId : String} {x : Str} {p pos : Pos} (F : ExcBaseFacts B newId initId bmB) (q : PySem.W.excIn X.K C bmB newId = true) (gC : X.mg x = some (.ref C)) (kC : PySem.W.keepIn X.K (.ref C) = true) (r : Raises X (.ref C)) (hg : Gl X x)
    (hdb : (x == ("__debug__" : Str)) = false) : PMk X (.Call (.Name x p) [] [] pos) (fun _ H Q => Q (.ref C) none H) := by
  intro pins s σ H Q I h
  refine wpAny_Call_Name_kw (ld_glob I hg gC ?_ hdb)
  refine PySem.W.callWith_K0 I.kIn kC ?_
  show wpAny _ _ (call (.ref C) []) _ _ _
  obtain ⟨bm, N, nm, qn, bs, hdct, sn, sub, ab, col, dd, k0, k1, k2, k3, k5, mN, hC, hN, hni, T⟩ := exc_obj I.kIn q
  refine wpAny_call_exc_subT F T hC hN hni (fun h' e hm => ?_) (Nat.zero_le _)
  exact mk_of I hm r h (I.hok.gone hm.new)
def sRaise (x : Str) : DenS := fun env st => .exc env x [] st
theorem ps_raise' {X : Cx} {W : WX} {x : Str} {p pos pos' : Pos} (hc : X.calm = true) (tk : Takes X W) (F : ExFact X.K X.mg x) (hg : Gl X x) (hdb : (x == ("__debug__" : Str)) = false) :
    PS X (.Raise (some (.Call (.Name x p) [] [] pos)) none pos') (RS X.K X.mg W (sRaise x)) := by
  obtain ⟨C, bmB, B, newId, initId, F1, q, gC, kC, h1, h2, h3⟩ := F.ex
  refine PS.re (ps_raise hc tk (pmk_own0 F1 q gC kC (raises_own h1 h2) hg hdb)) fun Z σ H h => ?_
  obtain ⟨as, env, st, E, S, h⟩ := h
  exact h as H σ (.ref C) none (.refl _ _) S E ⟨gC, rfl⟩
/-! ### a lambda without parameters, made and kept -/
def FnO (q : Str) (params : Arguments) (body : Expr) (scope : Scope) (cells : List (Str × Addr)) (f c' : Addr) (pm ctv : Value) : HO := .ext fun h => h.get? f = some (PySem.W.kla_obj "<lambda>" q params body scope cells pm c' ctv)
theorem fnO_ne {q : Str} {params : Arguments} {body : Expr} {scope : Scope} {cells : List (Str × Addr)} {f c' : Addr} {pm ctv : Value} (ps : Array Value) : FnO q params body scope cells f c' pm ctv ≠ .tbl ps := fun z => by
  unfold FnO at z
  cases z
section
variable {X : Cx} {pins : List (Addr × Obj)} {σ : L2.St} {H : Hp} {s : Shared}
/-- an object at a new place is followed -/
theorem keep_fn {q : Str} {params : Arguments} {body : Expr} {scope : Scope} {cells : List (Str × Addr)} {f c' : Addr} {pm ctv : Value} {h' : Heap} {t' : Nat} (I : Inv X pins σ H s) (hs : s.heap.objs.size ≤ f) (k : ∀ b o, s.heap.get? b = some o → h'.get? b = some o)
    (hf : h'.get? f = some (PySem.W.kla_obj "<lambda>" q params body scope cells pm c' ctv)) : Inv X pins σ (upd H f (FnO q params body scope cells f c' pm ctv)) { s with heap := h', toks := t' } :=
  I.laid (fun b o e => k b o e) hs ⟨hf, ⟨_, hf⟩, fun h1 h2 a st => st _ a⟩
/-- lam_make2, with the lambda's object followed -/
theorem lam_make3 {T : List (Addr × Str)} {c P : Addr} {params : Arguments} {body : Expr} {scope : Scope} {pos : Pos} {E : Value → Shared → Prop} {Q : Value → Shared → Prop} (I : Inv X pins σ H s) (TB : TabB X.base X.mg c P) (hcode : X.env.code = .ref c)
    (hm : (P, X.env.qual ++ "<lambda>") ∈ T) (hu : ∀ p ∈ T, p.1 = P → p.2 = X.env.qual ++ "<lambda>") (hT : Tabs T H) (hdef : defaultsOf params X.env = ([], [])) (hfree : ∀ y ∈ scope.names, y.2 = .free → ∃ c, X.env.cells.lookup y.1 = some c)
    (h : ∀ (f c' : Addr) (pm ctv : Value) (H1 : Hp) (s' : Shared), Inv X pins σ H1 s' → ExtN H H1 → Tabs T H1 → H f = none → H1 f = some (FnO (X.env.qual ++ "<lambda>") params body scope (cloFrom X.env.cells scope.names []) f c' pm ctv) → H1 c' = some (CodeO c' (X.env.qual ++ "<lambda>")) → Q (.ref f) s') :
    wpAny (model X.prog X.w) X.A (eval (.Lambda params body scope pos) X.env) Q E s := by
  obtain ⟨ps, hP, ht, ha⟩ := hT _ hm
  refine PySem.W.kla_eval hdef ?_
  have bP : s.heap.BuiltinsAt X.mg P := TB.bm.keeps I.bk
  have hP' : s.heap.get? P = some { cls := .none, data := .fields ps } := I.hok P _ hP
  cases hc : codeAmong pos ps.toList with
  | none =>
    refine PySem.W.kla_makeFunction (mg := X.mg) (c := c) (P := P) (ps := ps) (closure_ok hfree) I.ok.glob (I.mod.glob.keeps I.bk) hcode (TB.code.keeps I.bk) hP' ht hc TB.gP bP fun c' ctv h' tk hx hge hlt hrec htb => ?_
    obtain ⟨c2, oc, vs, t, e2, hoc, hd, hv⟩ := hrec
    cases e2
    have hsz : s.heap.objs.size ≤ h'.objs.size := Nat.le_trans hge (Nat.le_of_lt hlt)
    have nC : H c' = none := I.hok.fresh hge
    have I0 := inv_table (t' := tk) (more := #[rawInt pos.line, rawInt pos.col, .ref c']) (h' := h') I hP (fun b o hb e => hx b o hb e) htb hge ⟨oc, vs, t, hoc, hd, hv⟩
    have hH : H h'.objs.size = none := I.hok.fresh hsz
    have n1 : h'.objs.size ≠ c' := Nat.ne_of_gt hlt
    have n2 : h'.objs.size ≠ P := Nat.ne_of_gt (Nat.lt_of_lt_of_le (Heap.lt_size hP') hsz)
    have I1 := keep_fn (t' := tk) (q := X.env.qual ++ "<lambda>") (params := params) (body := body) (scope := scope) (cells := cloFrom X.env.cells scope.names []) (c' := c') (pm := (X.mg "__name__").getD .none) (ctv := ctv)
      (h' := h'.push (PySem.W.kla_obj "<lambda>" (X.env.qual ++ "<lambda>") params body scope (cloFrom X.env.cells scope.names []) ((X.mg "__name__").getD .none) c' ctv)) I0 (Nat.le_refl _) (fun b o e => Heap.get?_push_of_some _ e) (Heap.get?_push_size _ rfl)
    have hE : ExtN H (upd (upd H P (.tbl (ps ++ #[rawInt pos.line, rawInt pos.col, .ref c']))) c' (CodeO c' (X.env.qual ++ "<lambda>"))) := fun b o e n => by
      rw [upd_ne (ne_of_none e nC), upd_ne (fun z => n ps (Option.some.inj (e.symm.trans (by rw [z]; exact hP))))]
      exact e
    have hN0 : upd (upd H P (.tbl (ps ++ #[rawInt pos.line, rawInt pos.col, .ref c']))) c' (CodeO c' (X.env.qual ++ "<lambda>")) h'.objs.size = none := by
      rw [upd_ne n1, upd_ne n2]
      exact hH
    have hE2 := fun (o : HO) => (ExtN.of fun b u (e : upd (upd H P (.tbl (ps ++ #[rawInt pos.line, rawInt pos.col, .ref c']))) c' (CodeO c' (X.env.qual ++ "<lambda>")) b = some u) => (upd_ne (o := o) (ne_of_none e hN0)).trans e)
    have eL : (ps ++ #[rawInt pos.line, rawInt pos.col, .ref c']).toList = ps.toList ++ [rawInt pos.line, rawInt pos.col, .ref c'] := by simp
    have T0 : Tabs T (upd (upd H P (.tbl (ps ++ #[rawInt pos.line, rawInt pos.col, .ref c']))) c' (CodeO c' (X.env.qual ++ "<lambda>"))) := fun p hp => by
      by_cases hb : p.1 = P
      · rw [hu p hp hb, hb]
        refine ⟨_, by rw [upd_ne (ne_of_none hP nC), upd_same], by rw [eL]; exact PySem.TriplesOk_snoc _ _ _ _ ht, fun p' cv hcv => ?_⟩
        rw [eL] at hcv
        rcases among_app _ ht hcv with z | z
        · obtain ⟨c0, e1, e2⟩ := ha p' cv z
          exact ⟨c0, e1, hE _ _ e2 codeO_ne⟩
        · exact ⟨c', z, upd_same⟩
      · obtain ⟨ps', a1, a2, a3⟩ := hT p hp
        refine ⟨ps', by rw [upd_ne (ne_of_none a1 nC), upd_ne hb]; exact a1, a2, fun p' cv hcv => ?_⟩
        obtain ⟨c0, e1, e2⟩ := a3 p' cv hcv
        exact ⟨c0, e1, hE _ _ e2 codeO_ne⟩
    refine h h'.objs.size c' ((X.mg "__name__").getD .none) ctv _ _ I1 (hE.trans (hE2 _)) (T0.ext fun b o e => (upd_ne (ne_of_none e hN0)).trans e) hH upd_same ?_
    rw [upd_ne (Ne.symm n1)]
    exact upd_same
  | some cv =>
    obtain ⟨c', e, hco⟩ := ha pos cv hc
    subst e
    refine PySem.W.kla_makeFunctionHit (mg := X.mg) (c := c) (P := P) (ps := ps) (closure_ok hfree) I.ok.glob (I.mod.glob.keeps I.bk) hcode (TB.code.keeps I.bk) hP' ht hc bP fun ctv h' tk hx hsz => ?_
    have hH : H h'.objs.size = none := I.hok.fresh hsz
    have I1 := keep_fn (t' := tk) (q := X.env.qual ++ "<lambda>") (params := params) (body := body) (scope := scope) (cells := cloFrom X.env.cells scope.names []) (c' := c') (pm := (X.mg "__name__").getD .none) (ctv := ctv)
      (h' := h'.push (PySem.W.kla_obj "<lambda>" (X.env.qual ++ "<lambda>") params body scope (cloFrom X.env.cells scope.names []) ((X.mg "__name__").getD .none) c' ctv)) I hsz (fun b o e => Heap.get?_push_of_some _ (hx b o e)) (Heap.get?_push_size _ rfl)
    exact h h'.objs.size c' ((X.mg "__name__").getD .none) ctv _ _ I1 (ExtN.of fun b u e => (upd_ne (ne_of_none e hH)).trans e) (hT.ext fun b o e => (upd_ne (ne_of_none e hH)).trans e) hH upd_same ((upd_ne (ne_of_none hco hH)).trans hco)
/-- f(), f such a lambda of the very def -/
theorem lam_call0 {W : WX} {scope : Scope} {f c' : Addr} {k : Nat} {pm ctv : Value} {params : Arguments} {body : Expr} {tb : XK → TE} {Q : VK} (I : Inv X pins σ H s) (L : LamS X.env.scope scope) (tk : Takes X W) (hr : Room (k + 1) X.A)
    (hf : s.heap.get? f = some (PySem.W.kla_obj "<lambda>" (X.env.qual ++ "<lambda>") params body scope (cloFrom X.env.cells scope.names []) pm c' ctv)) (hc : H c' = some (CodeO c' (X.env.qual ++ "<lambda>")))
    (hbind : bindArgs (PySem.W.kla_fn "<lambda>" (X.env.qual ++ "<lambda>") params body scope (cloFrom X.env.cells scope.names []) pm (.ref c') ctv) ⟨[], []⟩ = pure [])
    (hbody : ∀ (A : Around) (outer : List PySem.Env) (s : Shared) (H : Hp) (E : XK), Room k (A.deeper (lamEnv X scope s.heap.objs.size f c')) → PE (lamCx X A outer s H E scope f c') body (tb E))
    (h : tb (L2.WE W σ) σ H Q) : wpAny (model X.prog X.w) X.A (call (.ref f) []) (EP X pins σ Q) X.xe s := by
  obtain ⟨⟨oc, vs, t, hoc, hdc, hvc⟩, _, _⟩ := I.hok c' _ hc
  have e0 : Env0 X.prog X.w X.K X.mg X.base X.A X.stack s H := I.env0
  have rc : codeAny (model X.prog X.w) X.A (.call (.ref f) ⟨[], []⟩) (CR (L2.CX X.prog X.w) X.stack X.prog X.w H s Q (L2.WE W σ)) s := by
    refine PySem.W.kla_callFunE hr.depth hf rfl L.co L.gen rfl ⟨c', oc, vs, t, rfl, hoc, hdc, hvc⟩ ?_
    rw [hbind]
    refine wpAny_pure (wpAny_newFunctionEnv (fun y hy => (L.own y hy).2) (fun y hy => absurd hy (by simp)) (fun h₁ hns hsb => ⟨I.nolimit.fresh _ hsb, ?_⟩) L.kind)
    show codeAny _ _ (.expr body (lamEnv X scope s.heap.objs.size f c')) _ _
    have kp : ∀ b o, s.heap.get? b = some o → h₁.get? b = some o := fun b o e => hsb.extBut b o (Nat.ne_of_lt (Heap.lt_size e)) (Heap.get?_push_of_some _ e)
    have un : Un (frs X.stack) [] H H s.heap s.heap := Un.kept fun _ _ e => e
    have J : Inv (lamCx X X.A X.stack s H (L2.WE W σ) scope f c') [] σ H { s with heap := h₁, toks := s.toks + ([] : List (Str × Value)).length } :=
      lam_start2 I L e0 hr.hd un hns kp
    refine PySem.W.kla_codeExpr (wpAny_mono ((hbody X.A X.stack s H _ (hr.deeper _)).run [] _ _ H Q J h) (fun w s' hq => ?_) fun e s' hq => hq)
    obtain ⟨w', H', J', r', q⟩ := hq
    exact ⟨w', H', J'.os, J'.bare, J'.base, J'.hok, r', q⟩
  refine wpAny_call (codeAny_mono rc fun r s' hq => ?_)
  cases r with
  | error e => exact passAt tk σ pins H s e s' I hq
  | ok fl =>
    cases fl with
    | ret u => exact I.after hq
    | next => exact False.elim hq
    | brk => exact False.elim hq
    | cont => exact False.elim hq
end
end
end L2.PyD
/-! PyD, part 8l: works = [lambda: ..]; works.append(lambda: ..); found = False; try: works[k]() except X: found = True. -/
namespace L2.PyD
open PySem PySem.Spec PyProof.Rows LamX
noncomputable section
def tLm (T : List (Addr × Str)) (q : Str) (params : Arguments) (body : Expr) (scope : Scope) (cells : List (Str × Addr)) : TE := fun σ H Q => Tabs T H ∧ ∀ (f c' : Addr) (pm ctv : Value) (H1 : Hp), ExtN H H1 → Tabs T H1 → H f = none →
  H1 f = some (FnO q params body scope cells f c' pm ctv) → H1 c' = some (CodeO c' q) → Q (.ref f) H1
/-- a lambda of the def at X: its names, how it binds, its body's reading -/
structure LamG (X : Cx) (k : Nat) (params : Arguments) (body : Expr) (scope : Scope) (tb : XK → TE) : Prop where
  L : LamS X.env.scope scope
  deft : defaultsOf params X.env = ([], [])
  bind : ∀ (cl : List (Str × Addr)) (pm cv ctv : Value), bindArgs (PySem.W.kla_fn "<lambda>" (X.env.qual ++ "<lambda>") params body scope cl pm cv ctv) ⟨[], []⟩ = pure []
  body : ∀ (A : Around) (outer : List PySem.Env) (s : Shared) (H : Hp) (E : XK) (f c' : Addr), Room k (A.deeper (lamEnv X scope s.heap.objs.size f c')) → PE (lamCx X A outer s H E scope f c') body (tb E)
theorem LamG.tr {X : Cx} {k : Nat} {params : Arguments} {body : Expr} {scope : Scope} {tb : XK → TE} (g : LamG X k params body scope tb) (pn : List (Addr × Obj)) (xe : Value → Shared → Prop) : LamG (X.tr pn xe) k params body scope tb := ⟨g.L, g.deft, g.bind, g.body⟩
def tRunF (X : Cx) (k : Nat) (W : WX) (v : V) : TE := fun σ H Q => ∃ (params : Arguments) (body : Expr) (scope : Scope) (f c' : Addr) (pm ctv : Value) (tb : XK → TE), v = .ref f ∧ H f = some (FnO (X.env.qual ++ "<lambda>") params body scope (cloFrom X.env.cells scope.names []) f c' pm ctv) ∧
  H c' = some (CodeO c' (X.env.qual ++ "<lambda>")) ∧ LamG X k params body scope tb ∧ tb (L2.WE W σ) σ H Q
section
variable {X : Cx} {W : WX}
theorem pe_lam {k : Nat} {params : Arguments} {body : Expr} {scope : Scope} {pos : Pos} {tb : XK → TE} (LA : LamAt X) (G : LamG X k params body scope tb) :
    PE X (.Lambda params body scope pos) (tLm (tabT X.K) (X.env.qual ++ "<lambda>") params body scope (cloFrom X.env.cells scope.names [])) := by
  obtain ⟨c, P, TB, hcode, hmT, huT⟩ := LA.ex
  refine ⟨fun pins s σ H Q I h => lam_make3 I TB hcode hmT huT h.1 G.deft (G.L.has I.ok) fun f c' pm ctv H1 s' I1 e1 T1 n hf hc => ?_⟩
  exact ⟨.ref f, H1, I1, rfl, h.2 f c' pm ctv H1 e1 T1 n hf hc⟩
theorem pe_callF {k : Nat} {a b : Expr} {ta tb : TE} {p1 pos : Pos} (tk : Takes X W) (hr : Room (k + 1) X.A) (ha : PE X a ta) (hb : PE X b tb) (hs : PlainIx b) :
    PE X (.Call (.Subscript a b p1) [] [] pos) (fun σ H Q => tOp (rIxL X.K) ta tb σ H fun v H1 => tRunF X k W v σ H1 Q) := by
  refine ⟨fun pins s σ H Q I h => ?_⟩
  show wpAny _ _ (do callWith pos (← eval (.Subscript a b p1) X.env) [] (backTo pos (starEach [] X.env)) (backToKw pos (keywordEach [] X.env))) _ _ _
  refine wpAny_bind (thn ((pe_ix ix_list ha hb hs).run pins s σ H _ I h) fun u s1 ⟨v, H1, I1, r1, q1⟩ => ?_)
  obtain ⟨params, body, scope, f, c', pm, ctv, tbd, ev, hf, hc, G, q⟩ := q1
  subst ev
  obtain rfl : u = Value.ref f := r1
  have hf1 := (I1.hok f _ hf).1
  refine PySem.W.callWith_F0 ⟨_, _, _, _, hf1⟩ ?_
  exact lam_call0 I1 G.L tk hr hf1 hc (G.bind _ _ _ _) (fun A outer s H E hr2 => G.body A outer s H E f c' hr2) q
end
section
variable {X : Cx} {W : WX}
theorem pe_callT {k : Nat} {a b : Expr} {ta tb : TE} {p1 pos : Pos} {pn : List (Addr × Obj)} {xe : Value → Shared → Prop} (tk : Takes (X.tr pn xe) W) (hr : Room (k + 1) X.A) (ha : PE (X.tr pn xe) a ta) (hb : PE (X.tr pn xe) b tb) (hs : PlainIx b) :
    PE (X.tr pn xe) (.Call (.Subscript a b p1) [] [] pos) (fun σ H Q => ta σ H fun x H1 => tb σ H1 fun y H2 => ∃ (p : Addr) (xs : List V) (i : Int) (v : V), x = .ref p ∧ y = .int i ∧ SqL X.K H2 p xs ∧ atI xs i = some v ∧ tRunF X k W v σ H2 Q) := by
  refine ⟨fun pins s σ H Q I h => ?_⟩
  show wpAny _ _ (do callWith pos (← eval (.Subscript a b p1) X.env) [] (backTo pos (starEach [] X.env)) (backToKw pos (keywordEach [] X.env))) _ _ _
  refine wpAny_bind (thn ((pe_ix (X := X.tr pn xe) ix_list ha hb hs).run pins s σ H (fun v H1 => tRunF X k W v σ H1 Q) I h) fun u s1 ⟨v, H1, I1, r1, q1⟩ => ?_)
  obtain ⟨params, body, scope, f, c', pm, ctv, tbd, ev, hf, hc, G, q⟩ := q1
  subst ev
  obtain rfl : u = Value.ref f := r1
  have hf1 := (I1.hok f _ hf).1
  refine PySem.W.callWith_F0 ⟨_, _, _, _, hf1⟩ ?_
  exact lam_call0 (X := X.tr pn xe) I1 G.L tk hr hf1 hc (G.bind _ _ _ _) (fun A outer s H E hr2 => G.body A outer s H E f c' hr2) q
end
/-! ### what it does to data -/
def refV (iw jf : Nat) (b : Bool) (env : Env) : Env := (env.set iw none).set jf (some (.bl b))
def refE (iw jf : Nat) (x : Str) (env : Env) (o : Out D) : Fs := match o with
  | .ok _ st1 => .nx (refV iw jf false env) st1
  | .exc y _ st1 => if y = x then .nx (refV iw jf true env) st1 else .bad
  | .bad => .bad
def sRef (iw ik jf : Nat) (x : Str) (f1 f2 : Den) : DenS := fun env st => if iw < env.length ∧ jf < env.length then
    match env[ik]? with
    | some (some (.int k)) => if k = 0 then refE iw jf x env (f1 (refV iw jf false env) st) else if k = 1 then refE iw jf x env (f2 (refV iw jf false env) st) else .bad
    | _ => .bad
  else .bad
theorem env_cut {K : PySem.W.Frag} {as : List Addr} {H : Hp} {σ : L2.St} {env : Env} {iw jf : Nat} {v : V} {b : Bool} (E : EnvR K as H σ env) (h1 : iw < env.length) (h2 : jf < env.length) : EnvR K as H ((σ.set iw (some v)).set jf (some (.bl b))) (refV iw jf b env) := by
  have hl : σ.length = env.length := by have := E.len; omega
  refine ⟨by unfold refV; simp [hl], fun i d e => ?_⟩
  unfold refV at e
  by_cases c : jf = i
  · subst c
    rw [List.getElem?_set_self (by simpa using h2)] at e
    cases e
    exact ⟨.bl b, List.getElem?_set_self (by simp; omega), .bl b⟩
  · rw [List.getElem?_set_ne c] at e ⊢
    by_cases c2 : iw = i
    · subst c2
      rw [List.getElem?_set_self h1] at e
      cases e
    · rw [List.getElem?_set_ne c2] at e ⊢
      exact E.at_ i d e
theorem tabs_upd {T : List (Addr × Str)} {H : Hp} {p : Addr} {xs ys : List V} (t : Tabs T H) (hp : H p = some (.lst xs)) : Tabs T (upd H p (.lst ys)) := fun q hq => by
  obtain ⟨ps, h1, h2, h3⟩ := t q hq
  have ne : q.1 ≠ p := fun z => by rw [z, hp] at h1; cases h1
  refine ⟨ps, (upd_ne ne).trans h1, h2, fun pos cv hc => ?_⟩
  obtain ⟨c, e1, e2⟩ := h3 pos cv hc
  have nc : c ≠ p := fun z => by
    rw [z, hp] at e2
    unfold CodeO at e2
    cases e2
  exact ⟨c, e1, (upd_ne nc).trans e2⟩
section
variable {X : Cx} {W : WX}
theorem pss_ref {k iw ik jf : Nat} {w kd n x : Str} {pa1 pa2 : Arguments} {bo1 bo2 : Expr} {sc1 sc2 : Scope} {f1 f2 : Den} {g : DenS} {rest : List Stmt} {q1 q2 q3 q4 q5 q6 q7 q8 q9 q10 q11 q12 q13 q14 q15 q16 q17 q18 q19 q20 q21 q22 q23 : Pos} {j1 j2 : Nat}
    (hst : X.stack = X.env :: X.outer) (hfr : X.env.frame = some X.env.locals) (hkf : X.env.scope.kind = .function) (tk : Takes X W) (LA : LamAt X) (hr : Room (k + 1) X.A) (nd : X.N.Nodup) (F : ExFact X.K X.mg x) (hg : Gl X x) (hdb : (x == ("__debug__" : Str)) = false)
    (hw : X.N[iw]? = some w) (hk : X.N[ik]? = some kd) (hn : X.N[jf]? = some n) (lw : X.env.scope.names.lookup w = some .local) (lk : X.env.scope.names.lookup kd = some .local) (ln : X.env.scope.names.lookup n = some .local)
    (dbw : (w == ("__debug__" : Str)) = false ∧ (w == ("__classdict__" : Str)) = false) (dbk : (kd == ("__debug__" : Str)) = false ∧ (kd == ("__classdict__" : Str)) = false) (n1 : iw ≠ jf) (n2 : iw ≠ ik) (n3 : jf ≠ ik)
    (G1 : LamG X k pa1 bo1 sc1 fun E => RE X.K X.mg (fun cls d _ H => E cls d H) f1) (G2 : LamG X k pa2 bo2 sc2 fun E => RE X.K X.mg (fun cls d _ H => E cls d H) f2)
    (hline : (q5.endLine == q7.line) = true) (hrest : PSs X rest (RS X.K X.mg W g)) :
    PSs X (.Assign [.Name w q1] (.List [.Lambda pa1 bo1 sc1 q2] q3) q4 :: .Expr (.Call (.Attribute (.Name w q6) "append" q5) [.Lambda pa2 bo2 sc2 q8] [] q7) q9 :: .Assign [.Name n q10] (.Constant (.bool false) j1 q11) q12 ::
      .Try [.Expr (.Call (.Subscript (.Name w q13) (.Name kd q14) q15) [] [] q16) q17] [.ExceptHandler (some (.Name x q18)) none [.Assign [.Name n q19] (.Constant (.bool true) j2 q20) q21] q22] [] [] q23 :: rest)
      (RS X.K X.mg W (sSeq (sRef iw ik jf x f1 f2) g)) := by
  obtain ⟨C, bmB, B, newId, initId, F1, q, gC, kC, h1, h2, h3⟩ := F.ex
  have s1 : PS X (.Assign [.Name w q1] (.List [.Lambda pa1 bo1 sc1 q2] q3) q4) _ := ps_asg (pe_lst (pa_cons (pe_lam LA G1) pa_nil)) (pg_name nd hw (.inl lw) (.inr lw))
  have s2 : PS X (.Expr (.Call (.Attribute (.Name w q6) "append" q5) [.Lambda pa2 bo2 sc2 q8] [] q7) q9) _ := ps_expr (pe_bm PySem.F.plainAttrs_list PySem.F.slot_list_append PySem.F.type_list_append mt_append (pe_var hw (.inl lw) dbw.1 dbw.2) (pa_cons (pe_lam LA G2) pa_nil) rfl rfl hline)
  have s3 : PS X (.Assign [.Name n q10] (.Constant (.bool false) j1 q11) q12) _ := ps_asg pe_bl (pg_name nd hn (.inl ln) (.inr ln))
  have s4 := ps_try_only (X := X) (pos := q23) (pos' := q22) (np := q18) (body := [.Expr (.Call (.Subscript (.Name w q13) (.Name kd q14) q15) [] [] q16) q17]) (suite := []) (b₀ := .Assign [.Name n q19] (.Constant (.bool true) j2 q20) q21) hst hfr (c := .ref C) ⟨hg, hdb, .inl gC⟩ tk
    (fun W' pn xe tk' _ => pss_one (ps_expr (pe_callT (X := X) (pn := pn) (xe := xe) (k := k) tk' hr (pe_var (X := X.tr pn xe) hw (.inl lw) dbw.1 dbw.2) (pe_var (X := X.tr pn xe) hk (.inl lk) dbk.1 dbk.2) (fun _ _ => rfl))))
    (fun a oe cls d pn _ _ => pss_one (ps_asg pe_bl (pg_name (X := X.suite a ((a, oe) :: pn)) nd hn (.inl ln) (.inr ln))))
  refine PSs.re (pss_cons s1 (pss_cons s2 (pss_cons s3 (pss_cons s4 hrest)))) fun Z σ H h => ?_
  obtain ⟨as, env, st, E, S, h⟩ := h
  unfold sSeq sRef at h
  by_cases hlen : iw < env.length ∧ jf < env.length
  · rw [if_pos hlen] at h
    have hl : σ.length = env.length := by have := E.len; omega
    obtain ⟨hi1, hi2⟩ := hlen
    refine And.intro S.tabs fun f1' c1 pm1 ctv1 H1 e1 T1 m1 hf1 hc1 => And.intro (Nat.le_trans (Nat.succ_le_succ (Nat.zero_le 0)) (by rw [sizeLine_eq]; omega)) fun p hp => ?_
    have e1' : ExtN H1 (upd H1 p (.lst [.ref f1'])) := ExtN.of fun b o e => (upd_ne (ne_of_none e hp)).trans e
    refine Exists.intro (.ref p) (And.intro (List.getElem?_set_self (by omega)) (And.intro (.inl ⟨rfl, [.ref f1'], .inl (.inl upd_same)⟩) (And.intro (T1.ext fun b o e => (upd_ne (ne_of_none e hp)).trans e) fun f2' c2 pm2 ctv2 H2 e2 T2 m2 hf2 hc2 => ?_)))
    have hp2 : H2 p = some (.lst [.ref f1']) := e2 _ _ upd_same fun _ z => nomatch z
    refine ⟨p, [.ref f1'], .ref f2', rfl, rfl, hp2, (by show 1 < sizeLine; rw [sizeLine_eq]; omega), ?_⟩
    have T4 := tabs_upd (ys := [.ref f1', .ref f2']) T2 hp2
    have lift2 : ∀ b o, H2 b = some o → (∀ xs, o ≠ .lst xs) → upd H2 p (.lst ([.ref f1'] ++ [.ref f2'])) b = some o := fun b o e n => by
      by_cases hb : b = p
      · rw [hb, hp2] at e
        cases e
        exact absurd rfl (n _)
      · exact (upd_ne hb).trans e
    have lift1 : ∀ b o, H1 b = some o → (∀ ps, o ≠ .tbl ps) → upd H2 p (.lst ([.ref f1'] ++ [.ref f2'])) b = some o := fun b o e n => by
      have hb : b ≠ p := ne_of_none e hp
      exact (upd_ne hb).trans (e2 b o (e1' b o e n) n)
    have e4 : ExtN H (upd H2 p (.lst ([.ref f1'] ++ [.ref f2']))) := fun b o e n => lift1 b o (e1 b o e n) n
    have hf1 := lift1 _ _ hf1 fnO_ne
    have hc1 := lift1 _ _ hc1 codeO_ne
    have hf2 := lift2 _ _ hf2 fun _ z => by unfold FnO at z; cases z
    have hc2 := lift2 _ _ hc2 fun _ z => by unfold CodeO at z; cases z
    have hp4 : upd H2 p (.lst ([.ref f1'] ++ [.ref f2'])) p = some (.lst [.ref f1', .ref f2']) := upd_same
    obtain ⟨x4, S4⟩ := ext_of_N S e4 T4
    generalize upd H2 p (.lst ([.ref f1'] ++ [.ref f2'])) = H4 at hf1 hc1 hf2 hc2 hp4 x4 S4 ⊢
    have E4 := fun b => env_cut (v := .ref p) (b := b) (E.ext x4) hi1 hi2
    have hs2 : ((σ.set iw (some (.ref p))).set jf (some (.bl false)))[iw]? = some (some (.ref p)) := by
      rw [List.getElem?_set_ne (fun z => n1 z.symm), List.getElem?_set_self (by omega)]
    have ran : ∀ (f : Den) (hq : (refE iw jf x env (f (refV iw jf false env) st) = refE iw jf x env (f (refV iw jf false env) st)) → True), (Fs.wp X.K X.mg W as H Z (match refE iw jf x env (f (refV iw jf false env) st) with | .nx e st1 => g e st1 | o => o)) →
        RE X.K X.mg (fun cls d _ H' => wOnly X.K (Value.ref C) (fun a cls d => tAsg (tC (V.bl true)) (gName jf)) W { Z with nx := fun σ' H' => RS X.K X.mg W g Z σ' H' } cls d ((σ.set iw (some (.ref p))).set jf (some (.bl false))) H') f
          ((σ.set iw (some (.ref p))).set jf (some (.bl false))) H4 (fun _ H5 => RS X.K X.mg W g Z ((σ.set iw (some (.ref p))).set jf (some (.bl false))) H5) := fun f _ hh => by
      refine ⟨as, refV iw jf false env, st, E4 false, S4, ?_⟩
      generalize f (refV iw jf false env) st = o at hh ⊢
      cases o with
      | ok d st1 =>
        have hh : (g (refV iw jf false env) st1).wp X.K X.mg W as H Z := hh
        exact fun as' H' v x' S' r' => ⟨as', refV iw jf false env, st1, (E4 false).ext x', S', Fs.ext (x4.trans x') hh⟩
      | exc y fs st1 =>
        by_cases hy : y = x
        · subst hy
          have hh : (match (if y = y then Fs.nx (refV iw jf true env) st1 else Fs.bad) with | .nx e st1 => g e st1 | o => o).wp X.K X.mg W as H Z := hh
          rw [if_pos rfl] at hh
          intro as' H' C' d' x' S' r'
          have eC : C' = .ref C := by
            have := r'.1
            rw [gC] at this
            exact (Option.some.inj this).symm
          subst eC
          refine ⟨true, h3, fun _ a na => ?_, fun z => nomatch z⟩
          refine ⟨as', refV iw jf true env, st1, ?_, S', Fs.ext (x4.trans x') hh⟩
          rw [List.set_set]
          exact (E4 true).ext x'
        · have hh : (match (if y = x then Fs.nx (refV iw jf true env) st1 else Fs.bad) with | .nx e st1 => g e st1 | o => o).wp X.K X.mg W as H Z := hh
          rw [if_neg hy] at hh
          exact hh.elim
      | bad => exact hh.elim
    refine Exists.intro (.ref p) (And.intro hs2 ?_)
    cases hk0 : env[ik]? with
    | none => rw [hk0] at h; exact h.elim
    | some ok =>
    cases ok with
    | none => rw [hk0] at h; exact h.elim
    | some dk =>
    cases dk with
    | int kk =>
      obtain ⟨vk, hv1, hv2⟩ := E.at_ ik _ hk0
      cases hv2
      have hk2 : ((σ.set iw (some (.ref p))).set jf (some (.bl false)))[ik]? = some (some (.int kk)) := by
        rw [List.getElem?_set_ne n3, List.getElem?_set_ne n2, hv1]
      rw [hk0] at h
      simp only at h
      refine Exists.intro (.int kk) (And.intro hk2 ?_)
      by_cases k0 : kk = 0
      · subst k0
        rw [if_pos rfl] at h
        exact ⟨p, _, 0, .ref f1', rfl, rfl, .inl (.inl hp4), rfl, pa1, bo1, sc1, f1', c1, pm1, ctv1, _, rfl, hf1, hc1, G1, ran f1 (fun _ => trivial) h⟩
      · rw [if_neg k0] at h
        by_cases k1 : kk = 1
        · subst k1
          rw [if_pos rfl] at h
          exact ⟨p, _, 1, .ref f2', rfl, rfl, .inl (.inl hp4), rfl, pa2, bo2, sc2, f2', c2, pm2, ctv2, _, rfl, hf2, hc2, G2, ran f2 (fun _ => trivial) h⟩
        · rw [if_neg k1] at h
          exact h.elim
    | _ => rw [hk0] at h; exact h.elim
  · rw [if_neg hlen] at h
    exact h.elim
end
end
end L2.PyD
/-! PyD, part 9: short forms of expressions and statements; what they do; when a text has such a form. -/
namespace L2.PyD
open PySem PySem.Spec PyProof.Rows
noncomputable section

/-- built-in functions -/
inductive Bi where
  | len | int | abs | max2 | min2 | gcd | comb | sum | any | all | tuple | list | isi | sorted | max1 | min1
  deriving DecidableEq
def Bi.g : Bi → GC
  | .len => g1 gLen
  | .int => g1 gInt
  | .abs => g1 gAbs
  | .max2 => g2 (gI yes fun i j => if j > i then j else i)
  | .min2 => g2 (gI yes fun i j => if j < i then j else i)
  | .gcd => g2 (gI yes gcdI)
  | .comb => g2 (gI combOk PySem.W.mcComb)
  | .sum => g1 gSum2
  | .sorted => g1 gSrt
  | .max1 => g1 gMax1
  | .min1 => g1 gMin1
  | .any => g1 gAny
  | .all => g1 gAll
  | .tuple => g1 gTup
  | .list => g1 gList
  | .isi => g2 gIsi
/-- its name; whether it is imported; its value -/
def Bi.name : Bi → Str
  | .len => "len"
  | .int => "int"
  | .abs => "abs"
  | .max2 => "max"
  | .min2 => "min"
  | .gcd => "gcd"
  | .comb => "comb"
  | .sum => "sum"
  | .any => "any"
  | .all => "all"
  | .tuple => "tuple"
  | .list => "list"
  | .isi => "isinstance"
  | .sorted => "sorted"
  | .max1 => "max"
  | .min1 => "min"
inductive Bk where
  | fn (id : String) | ty (id : String) | im (id : String)
def Bi.kind : Bi → Bk
  | .len => .fn "len"
  | .int => .ty "int"
  | .abs => .fn "abs"
  | .max2 => .fn "max"
  | .min2 => .fn "min"
  | .gcd => .im "math.gcd"
  | .comb => .im "math.comb"
  | .sum => .fn "sum"
  | .any => .fn "any"
  | .all => .fn "all"
  | .tuple => .ty "tuple"
  | .list => .ty "list"
  | .isi => .fn "isinstance"
  | .sorted => .fn "sorted"
  | .max1 => .fn "max"
  | .min1 => .fn "min"
def Bk.val : Bk → Value
  | .fn id => .builtin id
  | .ty id => .type id
  | .im id => .builtin id
theorem Bi.ok {X : Cx} (hc : X.calm = true) (hu : X.A.units + 64 < cLine) : ∀ b : Bi, CallR X b.kind.val (RC X.K b.g)
  | .len => call_len'
  | .int => call_int'
  | .abs => call_abs'
  | .max2 => call_max2' hc
  | .min2 => call_min2' hc
  | .gcd => call_gcd'
  | .comb => call_comb'
  | .sum => call_sum2 hc
  | .any => call_any' hc
  | .all => call_all' hc
  | .tuple => call_tuple'
  | .list => call_list' hc
  | .isi => call_isi'
  | .sorted => call_sorted' hu
  | .max1 => call_max1' hc
  | .min1 => call_min1' hc
theorem Bi.boot : ∀ b : Bi, (∀ id, b.kind ≠ .im id) → bootBuiltins b.name = some b.kind.val
  | .len, _ => by decide +kernel
  | .int, _ => by decide +kernel
  | .abs, _ => by decide +kernel
  | .max2, _ => by decide +kernel
  | .min2, _ => by decide +kernel
  | .gcd, h => absurd rfl (h _)
  | .comb, h => absurd rfl (h _)
  | .sum, _ => by decide +kernel
  | .any, _ => by decide +kernel
  | .all, _ => by decide +kernel
  | .tuple, _ => by decide +kernel
  | .list, _ => by decide +kernel
  | .isi, _ => by decide +kernel
  | .sorted, _ => by decide +kernel
  | .max1, _ => by decide +kernel
  | .min1, _ => by decide +kernel
/-- methods -/
inductive Mt where
  | append
  deriving DecidableEq
def Mt.T : Mt → String
  | .append => "list"
def Mt.name : Mt → Str
  | .append => "append"
def Mt.g : Mt → GMet
  | .append => mAppend
structure MtFact (X : Cx) (T : String) (name : Str) (g : GMet) : Prop where
  ex : ∃ id, PlainAttrs T ∧ Slot T name id ∧ typeOf (.builtin id) = pure (.type "method_descriptor") ∧ MtR X id (RM X.K g)
theorem Mt.ok {X : Cx} : ∀ m : Mt, MtFact X m.T m.name m.g
  | .append => ⟨_, PySem.F.plainAttrs_list, PySem.F.slot_list_append, PySem.F.type_list_append, mt_append'⟩

/-- targets -/
inductive T where
  | nm (i : Nat)
  | tup (is : List Nat)
def tgNames : List Nat → DenTs
  | [] => tgNil
  | i :: is => tgCons (tgName i) (tgNames is)
def tg : T → DenT
  | .nm i => tgName i
  | .tup is => tgTup is.length (tgNames is)

mutual
inductive E where
  | con (d : D)
  | var (i : Nat)
  | glb (j : Nat)
  | tyn (n : String)
  | tup (as : Es)
  | lst (mu : Bool) (as : Es)
  | bin (mu : Bool) (o : Operator) (a b : E)
  | neg (a : E)
  | cmp (o : CmpOp) (a b : E)
  | cmp2 (o o' : CmpOp) (a b c : E)
  | and (a b : E)
  | or (a b : E)
  | not (a : E)
  | ite (t a b : E)
  | ix (a b : E)
  | slc (mu : Bool) (a : E) (lo hi : O)
  | rev (mu : Bool) (a : E)
  | call (f : Nat) (as : Es)
  | blt (mu : Bool) (b : Bi) (as : Es)
  | met (m : Mt) (o : E) (as : Es)
  | comp (mu : Bool) (it : I) (own : List (Str × Nat)) (t : T) (e : E)
  | compIf (mu : Bool) (it : I) (own : List (Str × Nat)) (t : T) (c e : E)
  | srtK (mu rev : Bool) (a : E) (j : Nat) (y : Str) (b : E)
  | comp2 (mu : Bool) (it : I) (own : List (Str × Nat)) (t : T) (it1 : I) (vs1 : List Nat) (t1 : T) (e : E)
  | maxD (a d : E)
  | sset (mu : Bool) (it : I) (own : List (Str × Nat)) (t : T) (e : E)
  | ssetT (mu : Bool) (it : I) (own : List (Str × Nat)) (t : T) (e : E)
  | srtS (mu : Bool) (a : E)
  | dnew
  | dget (o k x : E)
  | dpop (o k : E)
  | dcomp (it : I) (own : List (Str × Nat)) (t : T) (k v : E)
  | dcompIf (it : I) (own : List (Str × Nat)) (t : T) (c k v : E)
inductive Es where
  | nil
  | cons (e : E) (es : Es)
inductive I where
  | val (e : E)
  | rng (as : Es)
  | enu (as : Es)
  | zip (as : Es)
  | rng3 (as : Es)
  | keys (e : E)
  | items (e : E)
inductive O where
  | no
  | yes (e : E)
end
/-- what an expression does: as a value, as a bool, as a test -/
structure Tri where
  v : Den
  b : DenB
  t : DenB
def triV (f : Den) : Tri := ⟨f, bVal f, bTru f⟩
def triB (b t : DenB) : Tri := ⟨dOf b, b, t⟩
def badB : DenB := fun _ _ => .bad
structure Pr where
  C : Nat → Cal
  G : Nat → D
  CL : Nat → Cal
/-- within a lambda -/
def Pr.low (p : Pr) : Pr := ⟨p.CL, p.G, fun _ _ _ => .bad⟩
def binG' (o : Operator) : G2 := (binG o).getD fun _ _ _ => none
def cmpG' (o : CmpOp) : C2 := (cmpG o).getD fun _ _ _ => none
def bYes : DenB := fun _ st => .ok true st
mutual
noncomputable def ev (p : Pr) : E → Tri
  | .con d => triV (dCon d)
  | .var i => triV (dVar i)
  | .glb j => triV (dCon (p.G j))
  | .tyn n => triV (dCon (.ty n))
  | .tup as => triV (dTup (evs p as))
  | .lst mu as => triV (dLst mu (evs p as))
  | .bin mu o a b => triV (dBin mu (binG' o) (ev p a).v (ev p b).v)
  | .neg a => triV (dUn false gNeg (ev p a).v)
  | .cmp o a b => triB (bCmp (cmpG' o) (ev p a).v (ev p b).v) (bCmp (cmpG' o) (ev p a).v (ev p b).v)
  | .cmp2 o o' a b c => triB (bChain (cmpG' o) (cmpG' o') (ev p a).v (ev p b).v (ev p c).v) (bChain (cmpG' o) (cmpG' o') (ev p a).v (ev p b).v (ev p c).v)
  | .and a b => triB (bAnd (ev p a).b (ev p b).b) (bAnd (ev p a).t (ev p b).t)
  | .or a b => triB (bOr (ev p a).b (ev p b).b) (bOr (ev p a).t (ev p b).t)
  | .not a => triB (bNot (ev p a).b) (bNot (ev p a).t)
  | .ite t a b => ⟨dIte (ev p t).t (ev p a).v (ev p b).v, bVal (dIte (ev p t).t (ev p a).v (ev p b).v), badB⟩
  | .ix a b => triV (dBin false gIx (ev p a).v (ev p b).v)
  | .slc mu a lo hi => triV (dSlc mu (ev p a).v (evO p lo) (evO p hi))
  | .rev mu a => triV (dUn mu gRv (ev p a).v)
  | .call f as => triV (dCall (p.C f) (evs p as))
  | .blt mu b as => triV (dCl mu b.g (evs p as))
  | .met m o as => triV (dMet m.T m.g (ev p o).v (evs p as))
  | .comp mu it own t e => triV (dComp mu (evI p it) (own.map (·.2)) (tg t) bYes (ev p e).v)
  | .compIf mu it own t c e => triV (dComp mu (evI p it) (own.map (·.2)) (tg t) (ev p c).t (ev p e).v)
  | .srtK mu rev a j y b => triV (dSrtK mu rev j (ev p a).v (ev p.low b).v)
  | .comp2 mu it own t it1 vs1 t1 e => triV (dComp2 mu (evI p it) (own.map (·.2)) (tg t) bYes (evI p it1) vs1 (tg t1) bYes (ev p e).v)
  | .maxD a d => triV (dMaxD (ev p a).v (ev p d).v)
  | .sset mu it own t e => triV (dSSet mu (evI p it) (own.map (·.2)) (tg t) bYes (ev p e).v)
  | .ssetT mu it own t e => triV (dSSetT mu (evI p it) (own.map (·.2)) (tg t) bYes (ev p e).v)
  | .srtS mu a => triV (dSrtS mu (ev p a).v)
  | .dnew => triV dNew
  | .dget o k x => triV (dGet (ev p o).v (ev p k).v (ev p x).v)
  | .dpop o k => triV (dPop (ev p o).v (ev p k).v)
  | .dcomp it own t k v => triV (dDComp (evI p it) (own.map (·.2)) (tg t) bYes (ev p k).v (ev p v).v)
  | .dcompIf it own t c k v => triV (dDComp (evI p it) (own.map (·.2)) (tg t) (ev p c).t (ev p k).v (ev p v).v)
noncomputable def evs (p : Pr) : Es → DenA
  | .nil => aNil
  | .cons e es => aCons (ev p e).v (evs p es)
noncomputable def evI (p : Pr) : I → DenI
  | .val e => iVal (ev p e).v
  | .rng as => iRng (evs p as)
  | .enu as => iEnu (evs p as)
  | .zip as => iZp (evs p as)
  | .rng3 as => iRng3' (evs p as)
  | .keys e => iKy (ev p e).v
  | .items e => iIt (ev p e).v
noncomputable def evO (p : Pr) : O → DenO
  | .no => oNo
  | .yes e => oYes (ev p e).v
end
def Es.len : Es → Nat
  | .nil => 0
  | .cons _ es => es.len + 1

/-! ### when a text has such a form -/
/-- where one stands -/
structure Mc where
  N : List Str
  sc : Scope
  st : Str → Bool
  fns : List (Str × Nat × Nat)
  gls : List (Str × Nat)
  blt : List Str
  imp : List (Str × String)
  exs : List Str
  lam : Bool
def notStar : Expr → Bool
  | .Starred .. => false
  | _ => true
def notSlice : Expr → Bool
  | .Slice .. => false
  | _ => true
def notSet : Expr → Bool
  | .Set .. => false
  | _ => true
def notSuper : Expr → Bool
  | .Call (.Name _ _) [] [] _ => false
  | _ => true
def plainT : Expr → Bool
  | .UnaryOp .Not _ _ => false
  | .BoolOp .. => false
  | .IfExp .. => false
  | .Compare .. => false
  | _ => true
def visB (sc : Scope) (x : Str) : Bool := match sc.names.lookup x with
  | some .local => true
  | some .cell => true
  | some .free => true
  | _ => false
def glB (sc : Scope) (x : Str) : Bool := match sc.names.lookup x with
  | some .globalImplicit => true
  | _ => false
def okName (x : Str) : Bool := !(x == ("__debug__" : Str)) && !(x == ("__classdict__" : Str)) && !(x == ("__name__" : Str))
def conB : Const → D → Bool
  | .int i, .int j => decide (i = j)
  | .bool a, .bl b => a == b
  | .none, .non => true
  | .str a, .str b => decide (a = b)
  | _, _ => false
section
variable {env : PySem.Env}
theorem star1 {e : Expr} {es : List Expr} (h : notStar e = true) : starEach (e :: es) env = (false, eval e env) :: starEach es env := by
  cases e <;> first | rfl | cases h
theorem stars {pos : Pos} : ∀ {es : List Expr}, es.all notStar = true → (backTo pos (starEach es env)).any (·.1) = false
  | [], _ => rfl
  | e :: es, h => by
    rw [List.all_cons, Bool.and_eq_true] at h
    rw [star1 h.1]
    show (false || (backTo pos (starEach es env)).any (·.1)) = false
    rw [stars h.2]
    rfl
theorem starsA {pos : Pos} : ∀ {es : List Expr}, es.all notStar = true → (backTo pos (starEach es env)).all (fun x => !x.1) = true
  | [], _ => rfl
  | e :: es, h => by
    rw [List.all_cons, Bool.and_eq_true] at h
    rw [star1 h.1]
    show (!false && (backTo pos (starEach es env)).all (fun x => !x.1)) = true
    rw [starsA h.2]
    rfl
theorem plainIx_of {b : Expr} (h : notSlice b = true) : PlainIx b := fun o i => by
  cases b <;> first | rfl | cases h
theorem fold_of {e : Expr} (h : notSet e = true) : ∀ x, foldedSetIterable e env x = pure x := fun x => by
  cases e <;> first | rfl | cases h
theorem plainT_of {e : Expr} (h : plainT e = true) : ∀ whole, isTrue e env whole = (do let v ← whole; standAt e.pos; holding [v] (truthy v)) := fun whole => by
  cases e with
  | UnaryOp o x p => cases o <;> first | rfl | cases h
  | _ => first | rfl | cases h
theorem base_of {o : Expr} {a : Str} {whole : Sem Value} (h : notSuper o = true) : attributeBase o a env whole = whole := by
  unfold attributeBase
  split
  · cases h
  · rfl
end
def tynB (n : String) (x : Str) : Bool := match n with
  | "int" => decide (x = ("int" : Str))
  | "bool" => decide (x = ("bool" : Str))
  | "str" => decide (x = ("str" : Str))
  | "tuple" => decide (x = ("tuple" : Str))
  | "list" => decide (x = ("list" : Str))
  | "dict" => decide (x = ("dict" : Str))
  | _ => false
theorem tyn_ok {n : String} {x : Str} (h : tynB n x = true) : bootBuiltins x = some (.type n) := by
  unfold tynB at h
  split at h
  · rw [of_decide_eq_true h]; decide +kernel
  · rw [of_decide_eq_true h]; decide +kernel
  · rw [of_decide_eq_true h]; decide +kernel
  · rw [of_decide_eq_true h]; decide +kernel
  · rw [of_decide_eq_true h]; decide +kernel
  · rw [of_decide_eq_true h]; decide +kernel
  · cases h
def locB (sc : Scope) (x : Str) : Bool := match sc.names.lookup x with
  | some .local => true
  | some .cell => true
  | _ => false
def owB (ow : Option (List Nat)) (i : Nat) : Bool := match ow with
  | none => true
  | some vs => vs.contains i
def mNm (m : Mc) (ow : Option (List Nat)) (i : Nat) (x : Str) : Bool := decide (m.N[i]? = some x) && locB m.sc x && m.st x && owB ow i
def mNms (m : Mc) (ow : Option (List Nat)) : List Nat → List Expr → Bool
  | [], [] => true
  | i :: is, .Name x _ :: es => mNm m ow i x && mNms m ow is es
  | _, _ => false
def mT (m : Mc) (ow : Option (List Nat)) : T → Expr → Bool
  | .nm i, .Name x _ => mNm m ow i x
  | .tup is, .Tuple es _ _ => mNms m ow is es
  | _, _ => false
def Mc.blk (m : Mc) (scope : Scope) : Mc := { m with lam := false, sc := relS scope m.sc, st := fun x => (scope.names.lookup x == some .cell) || ((relS scope m.sc).names.lookup x == some .local) }
def tupT : Expr → Bool
  | .Tuple .. => true
  | _ => false
theorem tupT_ok {e : Expr} (h : tupT e = true) : ∃ elts kk p, e = .Tuple elts kk p := by
  cases e <;> first | exact ⟨_, _, _, rfl⟩ | cases h
/-- within a lambda -/
def Mc.low (m : Mc) (scope : Scope) : Mc := { m with sc := scope, st := fun _ => false, lam := false }
/-- one plain parameter -/
def par1B (params : Arguments) (y : Str) : Bool := match params with
  | { posonlyargs := [], args := [{ arg := x, annotation := none, pos := _ }], vararg := none, kwonlyargs := [], kw_defaults := [], kwarg := none, defaults := [] } => decide (x = y)
  | _ => false
def mBlt (m : Mc) (b : Bi) (x : Str) : Bool := decide (b.name = x) && match b.kind with
  | .im id => decide (m.imp.lookup x = some id)
  | _ => m.blt.contains x
/-- what stands behind key= -/
def revB (rev : Bool) (rest : List Keyword) : Bool := match rest with
  | [] => !rev
  | [⟨some r, .Constant (.bool true) _ _, _⟩] => rev && decide (r = ("reverse" : Str))
  | _ => false
mutual
def mL (m : Mc) (k : Option BoolOp) : E → List Expr → Bool
  | .con d, xs => match xs with
    | [.Constant c _ _] => conB c d
    | _ => false
  | .var i, xs => match xs with
    | [.Name x _] => decide (m.N[i]? = some x) && visB m.sc x && okName x
    | _ => false
  | .glb j, xs => match xs with
    | [.Name x _] => decide (m.gls.lookup x = some j) && glB m.sc x && okName x
    | _ => false
  | .tyn n, xs => match xs with
    | [.Name x _] => tynB n x && m.blt.contains x && glB m.sc x && okName x
    | _ => false
  | .tup as, xs => match xs with
    | [.Tuple es _ _] => mEs m as es && es.all notStar
    | _ => false
  | .lst _ as, xs => match xs with
    | [.List es _] => mEs m as es && es.all notStar
    | _ => false
  | .bin _ o a b, xs => match xs with
    | [.BinOp x o' y _] => decide (o = o') && (binG o).isSome && mL m none a [x] && mL m none b [y]
    | _ => false
  | .neg a, xs => match xs with
    | [.UnaryOp .USub x _] => mL m none a [x]
    | _ => false
  | .cmp o a b, xs => match xs with
    | [.Compare x [o'] [y] _] => decide (o = o') && mL m none a [x] && mL m none b [y] && !behindInMarks o y
    | _ => false
  | .cmp2 o o2 a b c, xs => match xs with
    | [.Compare x [p, p'] [y, z] _] => decide (o = p) && decide (o2 = p') && mL m none a [x] && mL m none b [y] && mL m none c [z] && !lastMarks [o, o2] [y, z]
    | _ => false
  | .and a b, xs => match xs with
    | [.BoolOp .And (x :: y :: r) _] => mL m none a [x] && mL m (some .And) b (y :: r)
    | x :: y :: r => (match k with | some .And => true | _ => false) && mL m none a [x] && mL m (some .And) b (y :: r)
    | _ => false
  | .or a b, xs => match xs with
    | [.BoolOp .Or (x :: y :: r) _] => mL m none a [x] && mL m (some .Or) b (y :: r)
    | x :: y :: r => (match k with | some .Or => true | _ => false) && mL m none a [x] && mL m (some .Or) b (y :: r)
    | _ => false
  | .not a, xs => match xs with
    | [.UnaryOp .Not x _] => mL m none a [x]
    | _ => false
  | .ite t a b, xs => match xs with
    | [.IfExp c x y _] => mL m none t [c] && mL m none a [x] && mL m none b [y]
    | _ => false
  | .ix a b, xs => match xs with
    | [.Subscript x y _] => mL m none a [x] && mL m none b [y] && notSlice y
    | _ => false
  | .slc _ a lo hi, xs => match xs with
    | [.Subscript x (.Slice l h none _) _] => mL m none a [x] && mO m lo l && mO m hi h
    | _ => false
  | .rev _ a, xs => match xs with
    | [.Subscript x (.Slice none none (some (.UnaryOp .USub (.Constant (.int 1) _ _) _)) _) _] => mL m none a [x]
    | _ => false
  | .call f as, xs => match xs with
    | [.Call (.Name x _) es [] _] => decide (m.fns.lookup x = some (f, es.length)) && glB m.sc x && okName x && mEs m as es && es.all notStar && !es.isEmpty
    | _ => false
  | .blt _ b as, xs => match xs with
    | [.Call (.Name x _) es [] _] => mBlt m b x && glB m.sc x && okName x && mEs m as es && es.all notStar && !es.isEmpty
    | _ => false
  | .met mt o as, xs => match xs with
    | [.Call (.Attribute y name ap) es [] cp] => decide (mt.name = name) && mL m none o [y] && mEs m as es && es.all notStar && !es.isEmpty && notSuper y && decide (es.length < 30) && (ap.endLine == cp.line)
    | _ => false
  | .comp _ it own t e, xs => match xs with
    | [.ListComp x [⟨tgt, iter, [], a⟩] scope _] => decide (a = 0) && mI m (tupT tgt) it iter && blkC m.N m.sc scope own && mT (m.blk scope) (some (own.map (·.2))) t tgt && notSet iter && mL (m.blk scope) none e [x]
    | _ => false
  | .compIf _ it own t c e, xs => match xs with
    | [.ListComp x [⟨tgt, iter, [c'], a⟩] scope _] => decide (a = 0) && mI m (tupT tgt) it iter && blkC m.N m.sc scope own && mT (m.blk scope) (some (own.map (·.2))) t tgt && notSet iter && mL (m.blk scope) none c [c'] && mL (m.blk scope) none e [x]
    | _ => false
  | .srtK _ rev a j y b, xs => match xs with
    | [.Call (.Name x _) [e1] (⟨some kn, .Lambda params body scope _, _⟩ :: rest) _] => revB rev rest && decide (x = ("sorted" : Str)) && m.blt.contains x && glB m.sc x && mL m none a [e1] && notStar e1 && decide (kn = ("key" : Str)) && m.lam && decide (m.N[j]? = some y) && lam1B m.sc scope y && par1B params y && mL (m.low scope) none b [body]
    | _ => false
  | .comp2 _ it own t it1 vs1 t1 e, xs => match xs with
    | [.ListComp x [⟨tgt, iter, [], a⟩, ⟨tgt1, iter1, [], a1⟩] scope _] => decide (a = 0) && decide (a1 = 0) && mI m (tupT tgt) it iter && blkC m.N m.sc scope own && mT (m.blk scope) (some (own.map (·.2))) t tgt && notSet iter && (vs1.all fun i => (own.map (·.2)).contains i) && mI (m.blk scope) (tupT tgt1) it1 iter1 && mT (m.blk scope) (some vs1) t1 tgt1 && notSet iter1 && mL (m.blk scope) none e [x]
    | _ => false
  | .maxD a d, xs => match xs with
    | [.Call (.Name x _) [e1] [⟨some kn, v, _⟩] _] => decide (x = ("max" : Str)) && m.blt.contains x && glB m.sc x && mL m none a [e1] && notStar e1 && decide (kn = ("default" : Str)) && mL m none d [v]
    | _ => false
  | .sset _ it own t e, xs => match xs with
    | [.Call (.Name n _) [.SetComp x [⟨tgt, iter, [], a⟩] scope _] [] _] => decide (n = ("sorted" : Str)) && m.blt.contains n && glB m.sc n && decide (a = 0) && mI m (tupT tgt) it iter && blkC m.N m.sc scope own && mT (m.blk scope) (some (own.map (·.2))) t tgt && notSet iter && mL (m.blk scope) none e [x]
    | _ => false
  | .ssetT _ it own t e, xs => match xs with
    | [.Call (.Name n _) [.SetComp x [⟨tgt, iter, [], a⟩] scope _] [] _] => decide (n = ("sorted" : Str)) && m.blt.contains n && glB m.sc n && decide (a = 0) && mI m (tupT tgt) it iter && blkC m.N m.sc scope own && mT (m.blk scope) (some (own.map (·.2))) t tgt && notSet iter && mL (m.blk scope) none e [x]
    | _ => false
  | .srtS _ a, xs => match xs with
    | [.Call (.Name n _) [.Call (.Name n2 _) [e1] [] _] [] _] => decide (n = ("sorted" : Str)) && decide (n2 = ("set" : Str)) && m.blt.contains n && glB m.sc n && m.blt.contains n2 && glB m.sc n2 && mL m none a [e1] && notStar e1
    | _ => false
  | .dnew, xs => match xs with
    | [.Dict [] [] _] => true
    | _ => false
  | .dget o k x, xs => match xs with
    | [.Call (.Attribute y name ap) [e, f] [] cp] => decide (name = ("get" : Str)) && mL m none o [y] && mL m none k [e] && mL m none x [f] && notStar e && notStar f && notSuper y && (ap.endLine == cp.line)
    | _ => false
  | .dpop o k, xs => match xs with
    | [.Call (.Attribute y name ap) [e] [] cp] => decide (name = ("pop" : Str)) && mL m none o [y] && mL m none k [e] && notStar e && notSuper y && (ap.endLine == cp.line)
    | _ => false
  | .dcomp it own t k v, xs => match xs with
    | [.DictComp x y [⟨tgt, iter, [], a⟩] scope _] => decide (a = 0) && mI m (tupT tgt) it iter && blkC m.N m.sc scope own && mT (m.blk scope) (some (own.map (·.2))) t tgt && notSet iter && mL (m.blk scope) none k [x] && mL (m.blk scope) none v [y]
    | _ => false
  | .dcompIf it own t c k v, xs => match xs with
    | [.DictComp x y [⟨tgt, iter, [c'], a⟩] scope _] => decide (a = 0) && mI m (tupT tgt) it iter && blkC m.N m.sc scope own && mT (m.blk scope) (some (own.map (·.2))) t tgt && notSet iter && mL (m.blk scope) none c [c'] && mL (m.blk scope) none k [x] && mL (m.blk scope) none v [y]
    | _ => false
def mEs (m : Mc) : Es → List Expr → Bool
  | .nil, xs => xs.isEmpty
  | .cons e es, xs => match xs with
    | x :: r => mL m none e [x] && mEs m es r
    | [] => false
def mI (m : Mc) (tp : Bool) : I → Expr → Bool
  | .val e, x => mL m none e [x]
  | .keys e, x => mL m none e [x]
  | .items e, x => match x with
    | .Call (.Attribute y name ap) [] [] cp => tp && decide (name = ("items" : Str)) && mL m none e [y] && notSuper y && (ap.endLine == cp.line)
    | _ => false
  | .enu as, x => match x with
    | .Call (.Name n _) es [] _ => tp && decide (n = ("enumerate" : Str)) && m.blt.contains n && glB m.sc n && mEs m as es && es.all notStar && decide (es.length = 1)
    | _ => false
  | .zip as, x => match x with
    | .Call (.Name n _) es [] _ => tp && decide (n = ("zip" : Str)) && m.blt.contains n && glB m.sc n && mEs m as es && es.all notStar && decide (es.length = 2)
    | _ => false
  | .rng3 as, x => match x with
    | .Call (.Name n _) es [] _ => decide (n = ("range" : Str)) && m.blt.contains n && glB m.sc n && mEs m as es && es.all notStar && decide (es.length = 3)
    | _ => false
  | .rng as, x => match x with
    | .Call (.Name n _) es [] _ => decide (n = ("range" : Str)) && m.blt.contains n && glB m.sc n && mEs m as es && es.all notStar && (decide (es.length = 1) || decide (es.length = 2))
    | _ => false
def mO (m : Mc) : O → Option Expr → Bool
  | .no, x => x.isNone
  | .yes e, x => match x with
    | some y => mL m none e [y]
    | none => false
end
/-- what stands behind the names where one stands -/
structure Cok (X : Cx) (m : Mc) (p : Pr) : Prop where
  N : X.N = m.N
  sc : X.env.scope = m.sc
  nd : m.N.Nodup
  calm : X.calm = true
  hu : X.A.units + 64 < cLine
  st : ∀ x, m.st x = true → X.fn x = true ∨ X.env.scope.names.lookup x = some .local
  fns : ∀ x i n, m.fns.lookup x = some (i, n) → ∃ (k : Nat) (f : Addr) (fd : FuncData) (ps : List Str), FnOk X.prog X.w X.K X.mg X.base (L2.CX X.prog X.w) k f fd ps (spI X.K X.mg n (p.C i)) ∧ Room k X.A ∧ X.mg x = some (.ref f) ∧ PySem.W.keepIn X.K (.ref f) = true ∧ Binds X.K fd ps []
  gls : ∀ x j, m.gls.lookup x = some j → ∃ (v : V) (u : Value), X.mg x = some u ∧ RelV v u ∧ ∀ as H, Rp X.K as H v (p.G j)
  blt : ∀ x, m.blt.contains x = true → X.mg x = none
  imp : ∀ x id, m.imp.lookup x = some id → X.mg x = some (.builtin id)
  exs : ∀ x, m.exs.contains x = true → ExFact X.K X.mg x
  lam : m.lam = true → LamAt X ∧ ∃ k, Room (k + 3) X.A ∧ ∀ x i n, m.fns.lookup x = some (i, n) → ∃ (f : Addr) (fd : FuncData) (ps : List Str), FnOk X.prog X.w X.K X.mg X.base (L2.CX X.prog X.w) k f fd ps (spI X.K X.mg n (p.CL i)) ∧ X.mg x = some (.ref f) ∧ PySem.W.keepIn X.K (.ref f) = true ∧ Binds X.K fd ps []
theorem Cok.low {X : Cx} {m : Mc} {p : Pr} (c : Cok X m p) {k : Nat} (hk : ∀ x i n, m.fns.lookup x = some (i, n) → ∃ (f : Addr) (fd : FuncData) (ps : List Str), FnOk X.prog X.w X.K X.mg X.base (L2.CX X.prog X.w) k f fd ps (spI X.K X.mg n (p.CL i)) ∧ X.mg x = some (.ref f) ∧ PySem.W.keepIn X.K (.ref f) = true ∧ Binds X.K fd ps [])
    {scope : Scope} {A : Around} {outer : List PySem.Env} {s : Shared} {H : Hp} {E : XK} {f c' : Addr} (hr : Room k (A.deeper (LamX.lamEnv X scope s.heap.objs.size f c'))) : Cok (LamX.lamCx X A outer s H E scope f c') (m.low scope) p.low := by
  refine ⟨c.N, rfl, c.nd, rfl, ?_, fun x h => (nomatch (show false = true from h)), fun x i n h => ?_, c.gls, c.blt, c.imp, c.exs, fun h => (nomatch (show false = true from h))⟩
  · have := hr.un
    show (A.deeper (LamX.lamEnv X scope s.heap.objs.size f c')).units + 64 < cLine
    omega
  · obtain ⟨g, fd, ps, h1, h2, h3, h4⟩ := hk x i n h
    exact ⟨k, g, fd, ps, h1, hr, h2, h3, h4⟩
theorem Cok.blk {X : Cx} {m : Mc} {p : Pr} (c : Cok X m p) {scope : Scope} (s : Shared) (H : Hp) (C : Addr) (cl : List (Str × Addr)) (fp : List Addr) : Cok (X.blk s H scope (compEnvC scope cl C X.env) fp) (m.blk scope) p := by
  have hs : (compEnvC scope cl C X.env).scope = relS scope m.sc := by rw [← c.sc]; rfl
  refine ⟨c.N, hs, c.nd, c.calm, c.hu, fun x h => ?_, c.fns, c.gls, c.blt, c.imp, c.exs, fun h => (nomatch (show false = true from h))⟩
  have h' : ((scope.names.lookup x == some .cell) || ((relS scope m.sc).names.lookup x == some .local)) = true := h
  rw [Bool.or_eq_true] at h'
  rcases h' with h' | h'
  · exact .inl h'
  · refine .inr ?_
    show (compEnvC scope cl C X.env).scope.names.lookup x = some .local
    rw [hs]
    exact eq_of_beq h'
theorem evs_len {p : Pr} : ∀ (as : Es) {env : Env} {st st' : Store} {ds : List D}, evs p as env st = .ok ds st' → ds.length = as.len
  | .nil, _, _, _, _, h => by unfold evs aNil at h; cases h; rfl
  | .cons e es, env, st, st', ds, h => by
    unfold evs aCons at h
    cases e1 : (ev p e).v env st with
    | ok x st1 =>
      rw [e1] at h
      simp only [Out.bind] at h
      cases e2 : evs p es env st1 with
      | ok xs st2 =>
        rw [e2] at h
        cases h
        rw [List.length_cons, evs_len es e2]
        rfl
      | _ => rw [e2] at h; cases h
    | _ => rw [e1] at h; cases h
theorem mEs_len {m : Mc} : ∀ (as : Es) {xs : List Expr}, mEs m as xs = true → xs.length = as.len
  | .nil, xs, h => by unfold mEs at h; cases xs with | nil => rfl | cons _ _ => cases h
  | .cons e es, xs, h => by
    cases xs with
    | nil => unfold mEs at h; cases h
    | cons x r =>
      unfold mEs at h
      rw [Bool.and_eq_true] at h
      rw [List.length_cons, mEs_len es h.2]
      rfl
end
end L2.PyD
/-! PyD, part 10: an expression that has such a form does what the form does. -/
namespace L2.PyD
open PySem PySem.Spec PyProof.Rows
noncomputable section

structure Good (X : Cx) (W : WX) (x : Expr) (t : Tri) : Prop where
  pe : PE X x (RE X.K X.mg W t.v)
  pb : PE X x (RE X.K X.mg W (dOf t.b))
  pt : PT X x (RT X.K X.mg W t.t)
structure GoodB (X : Cx) (W : WX) (op : BoolOp) (xs : List Expr) (t : Tri) : Prop where
  pb : ∀ pos, PE X (.BoolOp op xs pos) (RE X.K X.mg W (dOf t.b))
  pw : ∀ pos, PW X (.BoolOp op xs pos) (RT X.K X.mg W t.t)
/-- a list of parts of an and, an or; or one expression alone -/
def GoodL (X : Cx) (W : WX) (k : Option BoolOp) (xs : List Expr) (t : Tri) : Prop := match k with
  | none => ∃ x, xs = [x] ∧ Good X W x t
  | some op => GoodB X W op xs t
section
variable {X : Cx} {W : WX}
theorem goodV {x : Expr} {f : Den} (h : PE X x (RE X.K X.mg W f)) (c : plainT x = true) : Good X W x (triV f) := ⟨h, pe_bVal h, pt_val' h (plainT_of c)⟩
theorem oneB {x : Expr} {t : Tri} (g : Good X W x t) : ∀ op : BoolOp, GoodB X W op [x] t
  | .And => ⟨fun _ => pe_one g.pb, fun _ => pw_and1' g.pt⟩
  | .Or => ⟨fun _ => pe_one g.pb, fun _ => pw_or1' g.pt⟩
theorem goodL1 {x : Expr} {t : Tri} (g : Good X W x t) : ∀ k : Option BoolOp, GoodL X W k [x] t
  | none => ⟨x, rfl, g⟩
  | some op => oneB g op
theorem GoodL.one {x : Expr} {t : Tri} (g : GoodL X W none [x] t) : Good X W x t := by
  obtain ⟨y, e, g⟩ := g
  cases e
  exact g
theorem vis_of {sc : Scope} {x : Str} (h : visB sc x = true) : Vis sc x := by
  unfold visB at h
  split at h
  · exact .inl (by assumption)
  · exact .inr (.inl (by assumption))
  · exact .inr (.inr (by assumption))
  · cases h
theorem loc_of {sc : Scope} {x : Str} (h : locB sc x = true) : Loc sc x := by
  unfold locB at h
  split at h
  · exact .inl (by assumption)
  · exact .inr (by assumption)
  · cases h
theorem gl_of {m : Mc} {p : Pr} {x : Str} (c : Cok X m p) (h : glB m.sc x = true) : Gl X x := by
  unfold glB at h
  split at h
  · rename_i e
    show X.env.scope.names.lookup x = some .globalImplicit
    rw [c.sc]
    exact e
  · cases h
theorem okName_of {x : Str} (h : okName x = true) : (x == ("__debug__" : Str)) = false ∧ (x == ("__classdict__" : Str)) = false ∧ x ≠ "__name__" := by
  unfold okName at h
  simp only [Bool.and_eq_true, Bool.not_eq_true'] at h
  exact ⟨h.1.1, h.1.2, fun e => by rw [e] at h; exact absurd h.2 (by decide)⟩
theorem binG_some {o : Operator} (h : (binG o).isSome = true) : OpR X (binaryOp o) (RB X.K (binG' o)) := by
  unfold binG'
  cases e : binG o with
  | none => rw [e] at h; cases h
  | some g => exact binG_ok e
theorem cmpG_some {m : Mc} {p : Pr} (c : Cok X m p) (o : CmpOp) : OpR X (compareOp o) (RCm X.K (cmpG' o)) := by
  unfold cmpG'
  cases e : cmpG o with
  | none => cases o <;> cases e
  | some g => exact cmpG_ok c.hu e
/-! ### targets -/
theorem ow_of {ow : Option (List Nat)} {i : Nat} (h : owB ow i = true) : Ow ow i := by
  cases ow with
  | none => trivial
  | some vs => exact List.contains_iff_mem.mp h
theorem mNm_ok {m : Mc} {p : Pr} {ow : Option (List Nat)} {i : Nat} {x : Str} {pos : Pos} (c : Cok X m p) (h : mNm m ow i x = true) : PG X (.Name x pos) (RG X.K ow (tgName i)) := by
  unfold mNm at h
  simp only [Bool.and_eq_true] at h
  obtain ⟨⟨⟨h1, h2⟩, h3⟩, h4⟩ := h
  exact pg_name' (ow_of h4) (by rw [c.N]; exact c.nd) (by rw [c.N]; exact of_decide_eq_true h1) (by rw [c.sc]; exact loc_of h2) (c.st x h3)
theorem mNms_ok {m : Mc} {p : Pr} {ow : Option (List Nat)} (c : Cok X m p) : ∀ {is : List Nat} {es : List Expr}, mNms m ow is es = true → PGs X es (RGs X.K ow (tgNames is)) ∧ (assignEach es X.env).length = is.length ∧ (assignEach es X.env).findIdx? (·.1) = none
  | [], [], _ => ⟨pgs_nil', rfl, rfl⟩
  | i :: is, e :: es, h => by
    cases e with
    | Name x pos =>
      unfold mNms at h
      rw [Bool.and_eq_true] at h
      obtain ⟨h1, h2, h3⟩ := mNms_ok c h.2
      refine ⟨pgs_cons' (mNm_ok c h.1) h1 rfl, ?_, ?_⟩
      · show (assignEach es X.env).length + 1 = is.length + 1
        rw [h2]
      · show List.findIdx? (·.1) ((false, assign (.Name x pos) X.env) :: assignEach es X.env) = none
        rw [List.findIdx?_cons]
        simp only [Bool.false_eq_true, if_false, h3, Option.map_none]
    | _ => unfold mNms at h; cases h
  | [], e :: es, h => by unfold mNms at h; cases h
  | i :: is, [], h => by unfold mNms at h; cases h
theorem mT_ok {m : Mc} {p : Pr} {ow : Option (List Nat)} (c : Cok X m p) : ∀ {t : T} {e : Expr}, mT m ow t e = true → PG X e (RG X.K ow (tg t))
  | .nm i, e, h => by
    cases e with
    | Name x pos => exact mNm_ok c h
    | _ => unfold mT at h; cases h
  | .tup is, e, h => by
    cases e with
    | Tuple es k pos =>
      obtain ⟨h1, h2, h3⟩ := mNms_ok c (show mNms m ow is es = true from h)
      exact pg_tup' c.calm h1 h2 h3
    | _ => unfold mT at h; cases h
/-! ### calls of built-ins -/
theorem blt_ok {m : Mc} {p : Pr} {b : Bi} {x : Str} {q pos : Pos} {e : Expr} {es : List Expr} {mu : Bool} {fa : DenA} (c : Cok X m p) (h : mBlt m b x = true) (hg : glB m.sc x = true) (hn : okName x = true) (ha : PA X (e :: es) (RA X.K X.mg W fa)) (hs : (e :: es).all notStar = true) :
    PE X (.Call (.Name x q) (e :: es) [] pos) (RE X.K X.mg W (dCl mu b.g fa)) := by
  obtain ⟨n1, n2, n3⟩ := okName_of hn
  unfold mBlt at h
  rw [Bool.and_eq_true] at h
  have hx := of_decide_eq_true h.1
  rw [List.all_cons, Bool.and_eq_true] at hs
  have he := star1 (env := X.env) (es := es) hs.1
  have hpl := stars (env := X.env) (pos := pos) hs.2
  have hc := Bi.ok (X := X) c.calm c.hu b
  refine PE.re (t := tCB (RC X.K b.g) (RA X.K X.mg W fa)) ?_ fun _ _ _ z => rc_call z
  obtain ⟨_, h2⟩ := h
  cases ek : b.kind with
  | fn id =>
    rw [ek] at h2 hc
    have hv := Bi.boot b (fun id e => by rw [ek] at e; cases e)
    rw [ek, hx] at hv
    exact pe_callB hc (gl_of c hg) (c.blt x h2) hv ha n3 n1 he hpl
  | ty id =>
    rw [ek] at h2 hc
    have hv := Bi.boot b (fun id e => by rw [ek] at e; cases e)
    rw [ek, hx] at hv
    exact pe_callTy hc (gl_of c hg) (c.blt x h2) hv ha n3 n1 he hpl
  | im id =>
    rw [ek] at h2 hc
    exact pe_callBfun hc (gl_of c hg) (c.imp x id (of_decide_eq_true h2)) ha n1 he hpl
theorem con_ok {k : Const} {d : D} {j : Nat} {pos : Pos} (h : conB k d = true) : PE X (.Constant k j pos) (RE X.K X.mg W (dCon d)) := by
  unfold conB at h
  split at h
  · rw [of_decide_eq_true h]; exact pe_int'
  · rw [eq_of_beq h]; exact pe_bl'
  · exact pe_non'
  · rw [of_decide_eq_true h]; exact pe_str'
  · cases h
end

theorem par1_ok {X : Cx} {params : Arguments} {y : Str} {body : Expr} {scope : Scope} (h : par1B params y = true) : defaultsOf params X.env = ([], []) ∧ ∀ (cl : List (Str × Addr)) (pm cv ctv u : Value), bindArgs (PySem.W.kla_fn "<lambda>" (X.env.qual ++ "<lambda>") params body scope cl pm cv ctv) ⟨[u], []⟩ = pure [(y, u)] := by
  unfold par1B at h
  split at h
  · have := of_decide_eq_true h
    subst this
    refine ⟨rfl, fun cl pm cv ctv u => ?_⟩
    have e0 : (seqItems? Value.none : Sem (Option (Array Value))) = pure none := rfl
    simp [bindArgs, PySem.W.kla_fn, e0]
  · cases h
mutual
theorem mL_ok : ∀ (e : E) {p : Pr} {X : Cx} {m : Mc} {W : WX} {k : Option BoolOp} {xs : List Expr}, mL m k e xs = true → Cok X m p → Takes X W → GoodL X W k xs (ev p e)
  | .con d, p, X, m, W, k, xs, h, c, tk => by
    unfold mL at h
    split at h
    · exact goodL1 (goodV (con_ok h) rfl) k
    · cases h
  | .var i, p, X, m, W, k, xs, h, c, tk => by
    unfold mL at h
    split at h
    · simp only [Bool.and_eq_true] at h
      obtain ⟨⟨h1, h2⟩, h3⟩ := h
      obtain ⟨n1, n2, n3⟩ := okName_of h3
      exact goodL1 (goodV (pe_var' (by rw [c.N]; exact of_decide_eq_true h1) (by rw [c.sc]; exact vis_of h2) n1 n2) rfl) k
    · cases h
  | .glb j, p, X, m, W, k, xs, h, c, tk => by
    unfold mL at h
    split at h
    · simp only [Bool.and_eq_true] at h
      obtain ⟨⟨h1, h2⟩, h3⟩ := h
      obtain ⟨n1, n2, n3⟩ := okName_of h3
      obtain ⟨v, u, g1, g2, g3⟩ := c.gls _ _ (of_decide_eq_true h1)
      exact goodL1 (goodV (pe_glob' (gl_of c h2) g1 g2 g3 n1) rfl) k
    · cases h
  | .tyn n, p, X, m, W, k, xs, h, c, tk => by
    unfold mL at h
    split at h
    · simp only [Bool.and_eq_true] at h
      obtain ⟨⟨⟨h1, h2⟩, h3⟩, h4⟩ := h
      obtain ⟨n1, n2, n3⟩ := okName_of h4
      exact goodL1 (goodV (pe_bltn' (v := .ty n) (gl_of c h3) (c.blt _ h2) (tyn_ok h1) rfl (fun _ _ => .ty n) n3 n1) rfl) k
    · cases h
  | .tup as, p, X, m, W, k, xs, h, c, tk => by
    unfold mL at h
    split at h
    · rw [Bool.and_eq_true] at h
      exact goodL1 (goodV (pe_tup' (mEs_ok as h.1 h.2 c tk)) rfl) k
    · cases h
  | .lst mu as, p, X, m, W, k, xs, h, c, tk => by
    unfold mL at h
    split at h
    · rw [Bool.and_eq_true] at h
      exact goodL1 (goodV (pe_lst' (mEs_ok as h.1 h.2 c tk)) rfl) k
    · cases h
  | .bin mu o a b, p, X, m, W, k, xs, h, c, tk => by
    unfold mL at h
    split at h
    · simp only [Bool.and_eq_true] at h
      obtain ⟨⟨⟨h1, h2⟩, h3⟩, h4⟩ := h
      rw [← of_decide_eq_true h1]
      exact goodL1 (goodV (pe_bin' (binG_some h2) (mL_ok a h3 c tk).one.pe (mL_ok b h4 c tk).one.pe) rfl) k
    · cases h
  | .neg a, p, X, m, W, k, xs, h, c, tk => by
    unfold mL at h
    split at h
    · exact goodL1 (goodV (pe_un' op_neg' (mL_ok a h c tk).one.pe) rfl) k
    · cases h
  | .cmp o a b, p, X, m, W, k, xs, h, c, tk => by
    unfold mL at h
    split at h
    · simp only [Bool.and_eq_true, Bool.not_eq_true'] at h
      obtain ⟨⟨⟨h1, h2⟩, h3⟩, h4⟩ := h
      rw [← of_decide_eq_true h1]
      have g1 := (mL_ok a h2 c tk).one.pe
      have g2 := (mL_ok b h3 c tk).one.pe
      exact goodL1 ⟨pe_cmp' (cmpG_some c o) g1 g2 h4, pe_cmp' (cmpG_some c o) g1 g2 h4, pt_cmp' (cmpG_some c o) g1 g2 h4⟩ k
    · cases h
  | .cmp2 o o2 a b d, p, X, m, W, k, xs, h, c, tk => by
    unfold mL at h
    split at h
    · simp only [Bool.and_eq_true, Bool.not_eq_true'] at h
      obtain ⟨⟨⟨⟨⟨h1, h1'⟩, h2⟩, h3⟩, h3'⟩, h4⟩ := h
      rw [← of_decide_eq_true h1, ← of_decide_eq_true h1']
      have g1 := (mL_ok a h2 c tk).one.pe
      have g2 := (mL_ok b h3 c tk).one.pe
      have g3 := (mL_ok d h3' c tk).one.pe
      exact goodL1 ⟨pe_chain' (cmpG_some c o) (cmpG_some c o2) g1 g2 g3 h4, pe_chain' (cmpG_some c o) (cmpG_some c o2) g1 g2 g3 h4, pt_chain' (cmpG_some c o) (cmpG_some c o2) g1 g2 g3 h4⟩ k
    · cases h
  | .and a b, p, X, m, W, k, xs, h, c, tk => by
    unfold mL at h
    split at h
    · rw [Bool.and_eq_true] at h
      have g1 := (mL_ok a h.1 c tk).one
      have g2 : GoodB X W .And _ (ev p b) := mL_ok b h.2 c tk
      exact goodL1 ⟨pe_and' g1.pb (g2.pb _), pe_and' g1.pb (g2.pb _), (pw_and' g1.pt (g2.pw _)).pt⟩ k
    · simp only [Bool.and_eq_true] at h
      obtain ⟨⟨h0, h1⟩, h2⟩ := h
      split at h0
      · have g1 := (mL_ok a h1 c tk).one
        have g2 : GoodB X W .And _ (ev p b) := mL_ok b h2 c tk
        exact ⟨fun pos => pe_and' g1.pb (g2.pb pos), fun pos => pw_and' g1.pt (g2.pw pos)⟩
      · cases h0
    · cases h
  | .or a b, p, X, m, W, k, xs, h, c, tk => by
    unfold mL at h
    split at h
    · rw [Bool.and_eq_true] at h
      have g1 := (mL_ok a h.1 c tk).one
      have g2 : GoodB X W .Or _ (ev p b) := mL_ok b h.2 c tk
      exact goodL1 ⟨pe_or' g1.pb (g2.pb _), pe_or' g1.pb (g2.pb _), (pw_or' g1.pt (g2.pw _)).pt⟩ k
    · simp only [Bool.and_eq_true] at h
      obtain ⟨⟨h0, h1⟩, h2⟩ := h
      split at h0
      · have g1 := (mL_ok a h1 c tk).one
        have g2 : GoodB X W .Or _ (ev p b) := mL_ok b h2 c tk
        exact ⟨fun pos => pe_or' g1.pb (g2.pb pos), fun pos => pw_or' g1.pt (g2.pw pos)⟩
      · cases h0
    · cases h
  | .not a, p, X, m, W, k, xs, h, c, tk => by
    unfold mL at h
    split at h
    · have g := (mL_ok a h c tk).one
      exact goodL1 ⟨pe_not' g.pb, pe_not' g.pb, pt_not' g.pt⟩ k
    · cases h
  | .ite t a b, p, X, m, W, k, xs, h, c, tk => by
    unfold mL at h
    split at h
    · simp only [Bool.and_eq_true] at h
      obtain ⟨⟨h1, h2⟩, h3⟩ := h
      have g := pe_ite' (pos := by assumption) (mL_ok t h1 c tk).one.pt (mL_ok a h2 c tk).one.pe (mL_ok b h3 c tk).one.pe
      refine goodL1 ⟨g, pe_bVal g, ⟨fun pins s σ H Q I q => ?_⟩⟩ k
      obtain ⟨_, _, _, _, _, q⟩ := q
      exact False.elim q
    · cases h
  | .ix a b, p, X, m, W, k, xs, h, c, tk => by
    unfold mL at h
    split at h
    · simp only [Bool.and_eq_true] at h
      obtain ⟨⟨h1, h2⟩, h3⟩ := h
      exact goodL1 (goodV (pe_ix' (ix_ok (by have := c.hu; omega)) (mL_ok a h1 c tk).one.pe (mL_ok b h2 c tk).one.pe (plainIx_of h3)) rfl) k
    · cases h
  | .slc mu a lo hi, p, X, m, W, k, xs, h, c, tk => by
    unfold mL at h
    split at h
    · simp only [Bool.and_eq_true] at h
      obtain ⟨⟨h1, h2⟩, h3⟩ := h
      exact goodL1 (goodV (pe_slc' (mL_ok a h1 c tk).one.pe (mO_ok lo h2 c tk) (mO_ok hi h3 c tk)) rfl) k
    · cases h
  | .rev mu a, p, X, m, W, k, xs, h, c, tk => by
    unfold mL at h
    split at h
    · exact goodL1 (goodV (pe_rev' (mL_ok a h c tk).one.pe) rfl) k
    · cases h
  | .call f as, p, X, m, W, k, xs, h, c, tk => by
    unfold mL at h
    split at h
    · rename_i x q es pos
      simp only [Bool.and_eq_true, Bool.not_eq_true'] at h
      obtain ⟨⟨⟨⟨⟨h1, h2⟩, h3⟩, h4⟩, h5⟩, h6⟩ := h
      cases es with
      | nil => cases h6
      | cons e es =>
        obtain ⟨n1, n2, n3⟩ := okName_of h3
        obtain ⟨j, fa, fd, ps, F, hr, hm, hk, hb⟩ := c.fns _ _ _ (of_decide_eq_true h1)
        have ha := mEs_ok as h4 h5 c tk
        have hs := h5
        rw [List.all_cons, Bool.and_eq_true] at hs
        refine goodL1 (goodV (pe_call' F hr (gl_of c h2) hm hk hb tk ha (fun env st ds st' z => ?_) n1 (star1 hs.1) (stars hs.2)) rfl) k
        rw [evs_len as z, mEs_len as h4]
    · cases h
  | .blt mu b as, p, X, m, W, k, xs, h, c, tk => by
    unfold mL at h
    split at h
    · rename_i x q es pos
      simp only [Bool.and_eq_true, Bool.not_eq_true'] at h
      obtain ⟨⟨⟨⟨⟨h1, h2⟩, h3⟩, h4⟩, h5⟩, h6⟩ := h
      cases es with
      | nil => cases h6
      | cons e es => exact goodL1 (goodV (blt_ok c h1 h2 h3 (mEs_ok as h4 h5 c tk) h5) rfl) k
    · cases h
  | .met mt o as, p, X, m, W, k, xs, h, c, tk => by
    unfold mL at h
    split at h
    · rename_i y name ap es cp
      simp only [Bool.and_eq_true, Bool.not_eq_true'] at h
      obtain ⟨⟨⟨⟨⟨⟨⟨h1, h2⟩, h3⟩, h4⟩, h5⟩, h6⟩, h7⟩, h8⟩ := h
      cases es with
      | nil => cases h5
      | cons e es =>
        obtain ⟨id, f1, f2, f3, f4⟩ := (Mt.ok (X := X) mt).ex
        rw [of_decide_eq_true h1] at f2
        have hs := h4
        rw [List.all_cons, Bool.and_eq_true] at hs
        refine goodL1 (goodV (pe_met' f1 f2 f3 f4 (mL_ok o h2 c tk).one.pe (mEs_ok as h3 h4 c tk) (base_of h6) ?_ h8 (star1 hs.1) (stars hs.2)) rfl) k
        rw [starsA h4]
        have hl := of_decide_eq_true h7
        simp only [List.isEmpty_nil, if_true, List.length_nil, Nat.add_zero, Bool.true_and]
        rw [decide_eq_true hl]
        rfl
    · cases h
  | .comp mu it own t e, p, X, m, W, k, xs, h, c, tk => by
    unfold mL at h
    split at h
    · rename_i x tgt iter a scope pos
      simp only [Bool.and_eq_true] at h
      obtain ⟨⟨⟨⟨⟨h1, h2⟩, h3⟩, h4⟩, h5⟩, h6⟩ := h
      rw [of_decide_eq_true h1]
      refine goodL1 (goodV (pe_comp' c.calm (by rw [c.N]; exact c.nd) (mI_ok it h2 c tk) (by rw [c.N, c.sc]; exact blkOk_by h3)
        (fun s H C cl fp => mT_ok (c.blk s H C cl fp) h4) (fun s H C cl fp => ?_) (fun s H C cl fp => (mL_ok e h6 (c.blk s H C cl fp) takes0).one.pe) (fold_of h5)) rfl) k
      exact ⟨fun pins s σ H Q I q => (pts_nil).run pins s σ H Q I (by
        obtain ⟨as, env, st, E, S, q⟩ := q
        exact q as H (.refl _ _) S)⟩
    · cases h
  | .compIf mu it own t d e, p, X, m, W, k, xs, h, c, tk => by
    unfold mL at h
    split at h
    · rename_i x tgt iter c' a scope pos
      simp only [Bool.and_eq_true] at h
      obtain ⟨⟨⟨⟨⟨⟨h1, h2⟩, h3⟩, h4⟩, h5⟩, h6⟩, h7⟩ := h
      rw [of_decide_eq_true h1]
      exact goodL1 (goodV (pe_comp' c.calm (by rw [c.N]; exact c.nd) (mI_ok it h2 c tk) (by rw [c.N, c.sc]; exact blkOk_by h3)
        (fun s H C cl fp => mT_ok (c.blk s H C cl fp) h4) (fun s H C cl fp => pts_one (mL_ok d h6 (c.blk s H C cl fp) takes0).one.pt) (fun s H C cl fp => (mL_ok e h7 (c.blk s H C cl fp) takes0).one.pe) (fold_of h5)) rfl) k
    · cases h
  | .srtK mu rev a j y b, p, X, m, W, k, xs, h, c, tk => by
    unfold mL at h
    split at h
    · rename_i x np e1 kn params body scope lpos kp rest pos
      simp only [Bool.and_eq_true] at h
      obtain ⟨⟨⟨⟨⟨⟨⟨⟨⟨⟨⟨h0, h1⟩, h2⟩, h3⟩, h4⟩, h5⟩, h6⟩, h7⟩, h8⟩, h9⟩, h10⟩, h11⟩ := h
      have hx := of_decide_eq_true h1
      have hk := of_decide_eq_true h6
      subst hx hk
      obtain ⟨LA, kk, hr, hF⟩ := c.lam h7
      have hL : Lam1 X.env.scope scope y := by rw [c.sc]; exact lam1_by h9
      obtain ⟨hdef, hbind⟩ := par1_ok (X := X) (body := body) (scope := scope) h10
      unfold revB at h0
      split at h0
      · have hv : rev = false := by rw [Bool.not_eq_true'] at h0; exact h0
        subst hv
        exact goodL1 (goodV (pe_srtK (gl_of c h3) (c.blt _ h2) LA c.hu (by rw [c.N]; exact of_decide_eq_true h8) (by rw [c.N]; exact c.nd) hL hr hdef hbind
          (fun A outer s H E f c' hr' => (mL_ok b h11 (c.low hF hr') takes0).one.pe) (mL_ok a h4 c tk).one.pe (star1 h5)) rfl) k
      · rename_i r rn rp kp2
        rw [Bool.and_eq_true] at h0
        have hr2 := of_decide_eq_true h0.2
        have hv : rev = true := h0.1
        subst hr2 hv
        exact goodL1 (goodV (pe_srtKR (gl_of c h3) (c.blt _ h2) LA c.hu (by rw [c.N]; exact of_decide_eq_true h8) (by rw [c.N]; exact c.nd) hL hr hdef hbind
          (fun A outer s H E f c' hr' => (mL_ok b h11 (c.low hF hr') takes0).one.pe) (mL_ok a h4 c tk).one.pe (star1 h5)) rfl) k
      · cases h0
    · cases h
  | .comp2 mu it own t it1 vs1 t1 e, p, X, m, W, k, xs, h, c, tk => by
    unfold mL at h
    split at h
    · rename_i x tgt iter a tgt1 iter1 a1 scope pos
      simp only [Bool.and_eq_true] at h
      obtain ⟨⟨⟨⟨⟨⟨⟨⟨⟨⟨h1, h1'⟩, h2⟩, h3⟩, h4⟩, h5⟩, hv⟩, h6⟩, h7⟩, h8⟩, h9⟩ := h
      rw [of_decide_eq_true h1, of_decide_eq_true h1']
      have hv' : ∀ i ∈ vs1, i ∈ own.map (·.2) := fun i hi => List.contains_iff_mem.mp ((List.all_eq_true.mp hv) i hi)
      have yes : ∀ (s : Shared) (H : Hp) (C : Addr) (cl : List (Str × Addr)) (fp : List Addr), PTs (X.blk s H scope (compEnvC scope cl C X.env) fp) [] (RT X.K X.mg Wno bYes) := fun s H C cl fp => ⟨fun pins s σ H Q I q => (pts_nil).run pins s σ H Q I (by
        obtain ⟨as, env, st, E, S, q⟩ := q
        exact q as H (.refl _ _) S)⟩
      exact goodL1 (goodV (pe_comp2' c.calm (by rw [c.N]; exact c.nd) (mI_ok it h2 c tk) (by rw [c.N, c.sc]; exact blkOk_by h3) hv'
        (fun s H C cl fp => mT_ok (c.blk s H C cl fp) h4) yes (fun s H C cl fp => mI_ok it1 h6 (c.blk s H C cl fp) takes0) (fun s H C cl fp => mT_ok (c.blk s H C cl fp) h7) yes (fun s H C cl fp => (mL_ok e h9 (c.blk s H C cl fp) takes0).one.pe) (fold_of h5) (fun env => fold_of h8)) rfl) k
    · cases h
  | .maxD a d, p, X, m, W, k, xs, h, c, tk => by
    unfold mL at h
    split at h
    · rename_i x np e1 kn v kp pos
      simp only [Bool.and_eq_true] at h
      obtain ⟨⟨⟨⟨⟨⟨h1, h2⟩, h3⟩, h4⟩, h5⟩, h6⟩, h7⟩ := h
      have hx := of_decide_eq_true h1
      have hk := of_decide_eq_true h6
      subst hx hk
      exact goodL1 (goodV (pe_maxD' c.calm c.hu (gl_of c h3) (c.blt _ h2) (mL_ok a h4 c tk).one.pe (mL_ok d h7 c tk).one.pe (star1 h5)) rfl) k
    · cases h
  | .sset mu it own t e, p, X, m, W, k, xs, h, c, tk => by
    unfold mL at h
    split at h
    · rename_i n np x tgt iter a scope spos pos
      simp only [Bool.and_eq_true] at h
      obtain ⟨⟨⟨⟨⟨⟨⟨⟨h1, h2⟩, h3⟩, h4⟩, h5⟩, h6⟩, h7⟩, h8⟩, h9⟩ := h
      have hx := of_decide_eq_true h1
      subst hx
      rw [of_decide_eq_true h4]
      refine goodL1 (goodV (pe_sset' c.calm (by rw [c.N]; exact c.nd) (gl_of c h3) (c.blt _ h2) (mI_ok it h5 c tk) (by rw [c.N, c.sc]; exact blkOk_by h6)
        (fun s H C cl fp => mT_ok (c.blk s H C cl fp) h7) (fun s H C cl fp => ?_) (fun s H C cl fp => (mL_ok e h9 (c.blk s H C cl fp) takes0).one.pe) (fold_of h8)) rfl) k
      exact ⟨fun pins s σ H Q I q => (pts_nil).run pins s σ H Q I (by
        obtain ⟨as, env, st, E, S, q⟩ := q
        exact q as H (.refl _ _) S)⟩
    · cases h
  | .ssetT mu it own t e, p, X, m, W, k, xs, h, c, tk => by
    unfold mL at h
    split at h
    · rename_i n np x tgt iter a scope spos pos
      simp only [Bool.and_eq_true] at h
      obtain ⟨⟨⟨⟨⟨⟨⟨⟨h1, h2⟩, h3⟩, h4⟩, h5⟩, h6⟩, h7⟩, h8⟩, h9⟩ := h
      have hx := of_decide_eq_true h1
      subst hx
      rw [of_decide_eq_true h4]
      refine goodL1 (goodV (pe_ssetT' c.calm c.hu (by rw [c.N]; exact c.nd) (gl_of c h3) (c.blt _ h2) (mI_ok it h5 c tk) (by rw [c.N, c.sc]; exact blkOk_by h6)
        (fun s H C cl fp => mT_ok (c.blk s H C cl fp) h7) (fun s H C cl fp => ?_) (fun s H C cl fp => (mL_ok e h9 (c.blk s H C cl fp) takes0).one.pe) (fold_of h8)) rfl) k
      exact ⟨fun pins s σ H Q I q => (pts_nil).run pins s σ H Q I (by
        obtain ⟨as, env, st, E, S, q⟩ := q
        exact q as H (.refl _ _) S)⟩
    · cases h
  | .srtS mu a, p, X, m, W, k, xs, h, c, tk => by
    unfold mL at h
    split at h
    · rename_i n np n2 np2 e1 p2 pos
      simp only [Bool.and_eq_true] at h
      obtain ⟨⟨⟨⟨⟨⟨⟨h1, h2⟩, h3⟩, h4⟩, h5⟩, h6⟩, h7⟩, h8⟩ := h
      have hx := of_decide_eq_true h1
      have hy := of_decide_eq_true h2
      subst hx hy
      exact goodL1 (goodV (pe_srtS' c.calm c.hu (gl_of c h4) (c.blt _ h3) (gl_of c h6) (c.blt _ h5) (mL_ok a h7 c tk).one.pe (star1 h8)) rfl) k
    · cases h
  | .dnew, p, X, m, W, k, xs, h, c, tk => by
    unfold mL at h
    split at h
    · exact goodL1 (goodV pe_dnew' rfl) k
    · cases h
  | .dget o i d, p, X, m, W, k, xs, h, c, tk => by
    unfold mL at h
    split at h
    · rename_i y name ap e f cp
      simp only [Bool.and_eq_true] at h
      obtain ⟨⟨⟨⟨⟨⟨⟨h1, h2⟩, h3⟩, h4⟩, h5⟩, h6⟩, h7⟩, h8⟩ := h
      have hn := of_decide_eq_true h1
      subst hn
      have hs := starsA (env := X.env) (pos := cp) (es := [e, f]) (by simp [h5, h6])
      exact goodL1 (goodV (pe_dget' (by have := c.hu; omega) (mL_ok o h2 c tk).one.pe (mL_ok i h3 c tk).one.pe (mL_ok d h4 c tk).one.pe ⟨base_of h7, by rw [hs]; rfl, h8, by rw [star1 h5, star1 h6]; rfl⟩) rfl) k
    · cases h
  | .dpop o i, p, X, m, W, k, xs, h, c, tk => by
    unfold mL at h
    split at h
    · rename_i y name ap e cp
      simp only [Bool.and_eq_true] at h
      obtain ⟨⟨⟨⟨⟨h1, h2⟩, h3⟩, h5⟩, h7⟩, h8⟩ := h
      have hn := of_decide_eq_true h1
      subst hn
      have hs := starsA (env := X.env) (pos := cp) (es := [e]) (by simp [h5])
      exact goodL1 (goodV (pe_dpop' (by have := c.hu; omega) (mL_ok o h2 c tk).one.pe (mL_ok i h3 c tk).one.pe ⟨base_of h7, by rw [hs]; rfl, h8, by rw [star1 h5]; rfl⟩) rfl) k
    · cases h
  | .dcomp it own t kx vx, p, X, m, W, k, xs, h, c, tk => by
    unfold mL at h
    split at h
    · rename_i x y tgt iter a scope pos
      simp only [Bool.and_eq_true] at h
      obtain ⟨⟨⟨⟨⟨⟨h1, h2⟩, h3⟩, h4⟩, h5⟩, h6⟩, h7⟩ := h
      rw [of_decide_eq_true h1]
      refine goodL1 (goodV (pe_dcomp' (by have := c.hu; omega) c.calm (by rw [c.N]; exact c.nd) (mI_ok it h2 c tk) (by rw [c.N, c.sc]; exact blkOk_by h3)
        (fun s H C cl fp => mT_ok (c.blk s H C cl fp) h4) (fun s H C cl fp => ?_) (fun s H C cl fp => (mL_ok kx h6 (c.blk s H C cl fp) takes0).one.pe) (fun s H C cl fp => (mL_ok vx h7 (c.blk s H C cl fp) takes0).one.pe) (fold_of h5)) rfl) k
      exact ⟨fun pins s σ H Q I q => (pts_nil).run pins s σ H Q I (by
        obtain ⟨as, env, st, E, S, q⟩ := q
        exact q as H (.refl _ _) S)⟩
    · cases h
  | .dcompIf it own t d kx vx, p, X, m, W, k, xs, h, c, tk => by
    unfold mL at h
    split at h
    · rename_i x y tgt iter c' a scope pos
      simp only [Bool.and_eq_true] at h
      obtain ⟨⟨⟨⟨⟨⟨⟨h1, h2⟩, h3⟩, h4⟩, h5⟩, h6⟩, h7⟩, h8⟩ := h
      rw [of_decide_eq_true h1]
      exact goodL1 (goodV (pe_dcomp' (by have := c.hu; omega) c.calm (by rw [c.N]; exact c.nd) (mI_ok it h2 c tk) (by rw [c.N, c.sc]; exact blkOk_by h3)
        (fun s H C cl fp => mT_ok (c.blk s H C cl fp) h4) (fun s H C cl fp => pts_one (mL_ok d h6 (c.blk s H C cl fp) takes0).one.pt) (fun s H C cl fp => (mL_ok kx h7 (c.blk s H C cl fp) takes0).one.pe) (fun s H C cl fp => (mL_ok vx h8 (c.blk s H C cl fp) takes0).one.pe) (fold_of h5)) rfl) k
    · cases h
theorem mEs_ok : ∀ (as : Es) {p : Pr} {X : Cx} {m : Mc} {W : WX} {xs : List Expr}, mEs m as xs = true → xs.all notStar = true → Cok X m p → Takes X W → PA X xs (RA X.K X.mg W (evs p as))
  | .nil, p, X, m, W, xs, h, hs, c, tk => by
    cases xs with
    | nil => exact pa_nil'
    | cons _ _ => unfold mEs at h; cases h
  | .cons e es, p, X, m, W, xs, h, hs, c, tk => by
    cases xs with
    | nil => unfold mEs at h; cases h
    | cons x r =>
      unfold mEs at h
      rw [Bool.and_eq_true] at h
      rw [List.all_cons, Bool.and_eq_true] at hs
      exact pa_cons' (mL_ok e h.1 c tk).one.pe (mEs_ok es h.2 hs.2 c tk) (star1 hs.1)
theorem mI_ok : ∀ (it : I) {p : Pr} {X : Cx} {m : Mc} {W : WX} {x : Expr} {tgt : Expr}, mI m (tupT tgt) it x = true → Cok X m p → Takes X W → PI X tgt x (RI X.K X.mg W (evI p it))
  | .val e, p, X, m, W, x, tgt, h, c, tk => pi_val' (mL_ok e (by unfold mI at h; exact h) c tk).one.pe
  | .keys e, p, X, m, W, x, tgt, h, c, tk => pi_keys' (mL_ok e (by unfold mI at h; exact h) c tk).one.pe
  | .items e, p, X, m, W, x, tgt, h, c, tk => by
    unfold mI at h
    split at h
    · rename_i y name ap cp
      simp only [Bool.and_eq_true] at h
      obtain ⟨⟨⟨⟨h0, h1⟩, h2⟩, h3⟩, h4⟩ := h
      have hn := of_decide_eq_true h1
      subst hn
      obtain ⟨elts, kk, tp, et⟩ := tupT_ok h0
      subst et
      exact pi_items' (mL_ok e h2 c tk).one.pe (base_of h3) h4
    · cases h
  | .enu as, p, X, m, W, x, tgt, h, c, tk => by
    unfold mI at h
    split at h
    · rename_i n q es pos
      simp only [Bool.and_eq_true] at h
      obtain ⟨⟨⟨⟨⟨⟨h0, h1⟩, h2⟩, h3⟩, h4⟩, h5⟩, h6⟩ := h
      have hn := of_decide_eq_true h1
      subst hn
      obtain ⟨elts, kk, tp, et⟩ := tupT_ok h0
      subst et
      have ha := mEs_ok as h4 h5 c tk
      match es, h5, h6, ha with
      | [a], h5, _, ha =>
        rw [List.all_cons, Bool.and_eq_true] at h5
        exact pi_enum' (gl_of c h3) (c.blt _ h2) ha (star1 h5.1)
      | [], _, h6, _ => simp at h6
      | _ :: _ :: _, _, h6, _ => simp at h6
    · cases h
  | .zip as, p, X, m, W, x, tgt, h, c, tk => by
    unfold mI at h
    split at h
    · rename_i n q es pos
      simp only [Bool.and_eq_true] at h
      obtain ⟨⟨⟨⟨⟨⟨h0, h1⟩, h2⟩, h3⟩, h4⟩, h5⟩, h6⟩ := h
      have hn := of_decide_eq_true h1
      subst hn
      obtain ⟨elts, kk, tp, et⟩ := tupT_ok h0
      subst et
      have ha := mEs_ok as h4 h5 c tk
      match es, h5, h6, ha with
      | [a, b], h5, _, ha =>
        rw [List.all_cons, Bool.and_eq_true] at h5
        exact pi_zip' (gl_of c h3) (c.blt _ h2) ha (star1 h5.1) (stars h5.2)
      | [], _, h6, _ => simp at h6
      | [_], _, h6, _ => simp at h6
      | _ :: _ :: _ :: _, _, h6, _ => simp at h6
    · cases h
  | .rng3 as, p, X, m, W, x, tgt, h, c, tk => by
    unfold mI at h
    split at h
    · rename_i n q es pos
      simp only [Bool.and_eq_true] at h
      obtain ⟨⟨⟨⟨⟨h1, h2⟩, h3⟩, h4⟩, h5⟩, h6⟩ := h
      have hn := of_decide_eq_true h1
      subst hn
      have ha := mEs_ok as h4 h5 c tk
      match es, h5, h6, ha with
      | [a, b, d], h5, _, ha =>
        rw [List.all_cons, Bool.and_eq_true] at h5
        exact pi_range3' (gl_of c h3) (c.blt _ h2) ha (star1 h5.1) (stars h5.2)
      | [], _, h6, _ => simp at h6
      | [_], _, h6, _ => simp at h6
      | [_, _], _, h6, _ => simp at h6
      | _ :: _ :: _ :: _ :: _, _, h6, _ => simp at h6
    · cases h
  | .rng as, p, X, m, W, x, tgt, h, c, tk => by
    unfold mI at h
    split at h
    · rename_i n q es pos
      simp only [Bool.and_eq_true] at h
      obtain ⟨⟨⟨⟨⟨h1, h2⟩, h3⟩, h4⟩, h5⟩, h6⟩ := h
      have hn := of_decide_eq_true h1
      subst hn
      have ha := mEs_ok as h4 h5 c tk
      have hl := mEs_len as h4
      match es, h5, h6, ha, hl with
      | [a], h5, _, ha, hl =>
        rw [List.all_cons, Bool.and_eq_true] at h5
        exact pi_range1' (gl_of c h3) (c.blt _ h2) ha (star1 h5.1) fun ds env st st1 z => by rw [evs_len as z, ← hl]; rfl
      | [a, b], h5, _, ha, hl =>
        rw [List.all_cons, List.all_cons, Bool.and_eq_true, Bool.and_eq_true] at h5
        exact pi_range2' (gl_of c h3) (c.blt _ h2) ha (by rw [star1 h5.1, star1 h5.2.1]; rfl) (star1 h5.2.1) fun ds env st st1 z => by rw [evs_len as z, ← hl]; rfl
      | [], _, h6, _, _ => simp at h6
      | _ :: _ :: _ :: _, _, h6, _, _ => simp at h6
    · cases h
theorem mO_ok : ∀ (o : O) {p : Pr} {X : Cx} {m : Mc} {W : WX} {x : Option Expr}, mO m o x = true → Cok X m p → Takes X W → PO X x (RO X.K X.mg W (evO p o))
  | .no, p, X, m, W, x, h, c, tk => by
    unfold mO at h
    cases x with
    | none => exact po_no'
    | some y => cases h
  | .yes e, p, X, m, W, x, h, c, tk => by
    unfold mO at h
    cases x with
    | none => cases h
    | some y => exact po_yes' (mL_ok e h c tk).one.pe
end
end
end L2.PyD
/-! PyD, part 11: forms of statements; a program as a table of them. -/
namespace L2.PyD
open PySem PySem.Spec PyProof.Rows
noncomputable section

inductive S where
  | skip
  | seq (a b : S)
  | asg (t : T) (e : E)
  | asgC (i : Nat) (e : E)
  | par (i j : Nat) (as : Es)
  | par3 (i j l : Nat) (as : Es)
  | setix (o i e : E)
  | aug (i : Nat) (sub : Bool) (e : E)
  | expr (e : E)
  | ifs (t : E) (a b : S)
  | whl (t : E) (b : S)
  | fors (t : T) (it : I) (b : S)
  | ret (e : E)
  | retN
  | brk
  | ct
  | pass
  | dead
  | lock (i : Nat) (s : S)
  | rais (x : Str)
  | refu (iw ik jf : Nat) (x : Str) (e1 e2 : E) (b : S)
def sPar3 (i j l : Nat) (f : DenA) : DenS := fun env st => (f env st).then env fun ds st1 => match ds with
  | [u, v, w] => .nx (((env.set i (some u)).set j (some v)).set l (some w)) st1
  | _ => .bad
def sBad : DenS := fun _ _ => .bad
noncomputable def ex (p : Pr) : S → DenS
  | .skip => sSkip
  | .seq a b => sSeq (ex p a) (ex p b)
  | .asg t e => sAsg (ev p e).v (tg t)
  | .asgC i e => sAsg (ev p e).v (tgName i)
  | .par i j as => sPar i j (evs p as)
  | .par3 i j l as => sPar3 i j l (evs p as)
  | .setix o i e => sSet gSet (ev p o).v (ev p i).v (ev p e).v
  | .aug i sub e => sAug i (gI yes fun a b => if sub then a - b else a + b) (ev p e).v
  | .expr e => sExpr (ev p e).v
  | .ifs t a b => sIf (ev p t).t (ex p a) (ex p b)
  | .whl t b => sWhile (ev p t).t (ex p b)
  | .fors t it b => sFor (evI p it) (tg t) (ex p b)
  | .ret e => sRet (ev p e).v
  | .retN => sRetN
  | .brk => sBrk
  | .ct => sCt
  | .pass => sSkip
  | .dead => sBad
  | .lock i s => sLock i (ex p s)
  | .rais x => sRaise x
  | .refu iw ik jf x e1 e2 b => sSeq (sRef iw ik jf x (ev p.low e1).v (ev p.low e2).v) (ex p b)

/-! ### the machine's marks at stores, by the text -/
def isComp : Expr → Bool
  | .ListComp .. => true
  | .SetComp .. => true
  | .DictComp .. => true
  | _ => false
def compNames : Expr → List (Str × NameKind)
  | .ListComp _ _ s _ => s.names
  | .SetComp _ _ s _ => s.names
  | .DictComp _ _ _ s _ => s.names
  | _ => []
def swB (sc : Scope) (tgt : Expr) (e : Expr) : Bool := isComp e && match tgt with
  | .Name t pos => (sc.names.lookup t == some .local) && (pos.line == e.pos.line) && !((compNames e).any fun (n, k) => n == t && (k == .local || k == .cell))
  | _ => false
theorem block_of {env : PySem.Env} (hk : env.scope.kind = .function) : env.blockKind = .function := by
  unfold Env.blockKind
  rw [hk]
  rfl
theorem swB_ok {env : PySem.Env} {tgt e : Expr} {line : Nat} (hk : env.scope.kind = .function) : swapsWithSole [tgt] e line env = pure (swB env.scope tgt e) := by
  show swapsWith e (some tgt) line env = _
  unfold swapsWith swB
  have hb := block_of hk
  cases e <;> first | rfl | (cases tgt <;> first | rfl | (simp only [hb, isComp, compNames]; rfl))
theorem swN_ok {env : PySem.Env} {e : Expr} {line : Nat} (h : isComp e = false) : swapsWith e none line env = pure false := by
  cases e <;> first | rfl | cases h
def stB : Expr → Bool
  | .Starred .. => true
  | _ => false
def nmOf (sc : Scope) (line : Nat) : Expr → Option Str
  | .Name id pos => if sc.names.lookup id == some .local && pos.line == line then some id else none
  | _ => none
def line0 (ts : List Expr) : Nat := (ts.head?.map (·.pos.line)).getD 0
/-- none: not known; some none: stored in order; some ns: plain names, stored from the right -/
def swT (sc : Scope) (ts vs : List Expr) : Option (Option (List Str)) :=
  if !(ts.length == 2 || ts.length == 3) || vs.length != ts.length then some none
  else if vs.any stB then some none
  else if (ts.filterMap (nmOf sc (line0 ts))).length != ts.length || (ts.filterMap (nmOf sc (line0 ts))).eraseDups.length != (ts.filterMap (nmOf sc (line0 ts))).length then some none
  else if vs.all (foldedForSure 8) then some none
  else if vs.all (constantsAlone 8) then none
  else some (some (ts.filterMap (nmOf sc (line0 ts))))
def swG (sc : Scope) (ts vs : List Expr) : Sem (Option (List Str)) :=
  if !(ts.length == 2 || ts.length == 3) || vs.length != ts.length then pure none
  else if vs.any stB then pure none
  else if (ts.filterMap (nmOf sc (line0 ts))).length != ts.length || (ts.filterMap (nmOf sc (line0 ts))).eraseDups.length != (ts.filterMap (nmOf sc (line0 ts))).length then pure none
  else if vs.all (foldedForSure 8) then pure none
  else if vs.all (constantsAlone 8) then unsupported "assign.tuple-of-constant-expressions:order-of-the-stores" >>= fun (_ : Unit) => pure (some (ts.filterMap (nmOf sc (line0 ts))))
  else pure (some (ts.filterMap (nmOf sc (line0 ts))))
def swO (sc : Scope) (tgt : Expr) (e : Expr) : Option (Option (List Str)) := match tgt, e with
  | .Tuple ts _ _, .Tuple vs _ _ => swT sc ts vs
  | .List .., .Tuple .. => none
  | _, _ => some none
theorem swT_ok {sc : Scope} {ts vs : List Expr} {r : Option (List Str)} (h : swT sc ts vs = some r) : swG sc ts vs = pure r := by
  unfold swT at h
  unfold swG
  split at h
  · rename_i c; rw [if_pos c]; cases h; rfl
  · rename_i c; rw [if_neg c]
    split at h
    · rename_i c; rw [if_pos c]; cases h; rfl
    · rename_i c; rw [if_neg c]
      split at h
      · rename_i c; rw [if_pos c]; cases h; rfl
      · rename_i c; rw [if_neg c]
        split at h
        · rename_i c; rw [if_pos c]; cases h; rfl
        · rename_i c; rw [if_neg c]
          split at h
          · cases h
          · rename_i c; rw [if_neg c]; cases h; rfl
theorem swO_ok {env : PySem.Env} {tgt e : Expr} {r : Option (List Str)} (hk : env.scope.kind = .function) (h : swO env.scope tgt e = some r) : swappedStores [tgt] e env = pure r := by
  have hb := block_of hk
  cases tgt with
  | Tuple ts k1 p1 =>
    cases e with
    | Tuple vs k2 p2 =>
      have hne : (ScopeKind.function != ScopeKind.function) = false := by decide
      refine Eq.trans ?_ (swT_ok (show swT env.scope ts vs = some r from h))
      unfold swappedStores
      simp only [hb, hne, Bool.or_false]
      rfl
    | _ => cases h; rfl
  | List ts p1 =>
    cases e with
    | Tuple vs k2 p2 => cases h
    | _ => cases h; rfl
  | _ => cases h; rfl
def locN (m : Mc) (i : Nat) (x : Str) : Bool := decide (m.N[i]? = some x) && decide (m.sc.names.lookup x = some .local)
/-- no parameter -/
def par0B (params : Arguments) : Bool := match params with
  | { posonlyargs := [], args := [], vararg := none, kwonlyargs := [], kw_defaults := [], kwarg := none, defaults := [] } => true
  | _ => false
theorem par0_ok {X : Cx} {params : Arguments} {body : Expr} {scope : Scope} (h : par0B params = true) : defaultsOf params X.env = ([], []) ∧ ∀ (cl : List (Str × Addr)) (pm cv ctv : Value), bindArgs (PySem.W.kla_fn "<lambda>" (X.env.qual ++ "<lambda>") params body scope cl pm cv ctv) ⟨[], []⟩ = pure [] := by
  unfold par0B at h
  split at h
  · refine ⟨rfl, fun cl pm cv ctv => ?_⟩
    have e0 : (seqItems? Value.none : Sem (Option (Array Value))) = pure none := rfl
    simp [bindArgs, PySem.W.kla_fn, e0]
  · cases h
def rf1 : Stmt → Option (Str × Arguments × Expr × Scope)
  | .Assign [.Name w _] (.List [.Lambda pa bo sc _] _) _ => some (w, pa, bo, sc)
  | _ => none
def rf2 : Stmt → Option (Str × Str × Arguments × Expr × Scope × Bool)
  | .Expr (.Call (.Attribute (.Name w _) ap q5) [.Lambda pa bo sc _] [] q7) _ => some (w, ap, pa, bo, sc, q5.endLine == q7.line)
  | _ => none
def rf3 : Stmt → Option Str
  | .Assign [.Name n _] (.Constant (.bool false) _ _) _ => some n
  | _ => none
def rfA : Stmt → Option (Str × Str)
  | .Expr (.Call (.Subscript (.Name w _) (.Name kd _) _) [] [] _) _ => some (w, kd)
  | _ => none
def rfB : Stmt → Option Str
  | .Assign [.Name n _] (.Constant (.bool true) _ _) _ => some n
  | _ => none
def rf4 : Stmt → Option (Stmt × Str × Stmt)
  | .Try [a] [.ExceptHandler (some (.Name x _)) none [b] _] [] [] _ => some (a, x, b)
  | _ => none
theorem rf1_ok {st : Stmt} {q : Str × Arguments × Expr × Scope} (h : rf1 st = some q) : ∃ p1 p2 p3 p4, st = .Assign [.Name q.1 p1] (.List [.Lambda q.2.1 q.2.2.1 q.2.2.2 p2] p3) p4 := by
  unfold rf1 at h
  split at h
  · cases h; exact ⟨_, _, _, _, rfl⟩
  · cases h
theorem rf2_ok {st : Stmt} {q : Str × Str × Arguments × Expr × Scope × Bool} (h : rf2 st = some q) : ∃ p1 q5 p2 q7 p3, st = .Expr (.Call (.Attribute (.Name q.1 p1) q.2.1 q5) [.Lambda q.2.2.1 q.2.2.2.1 q.2.2.2.2.1 p2] [] q7) p3 ∧ q.2.2.2.2.2 = (q5.endLine == q7.line) := by
  unfold rf2 at h
  split at h
  · cases h; exact ⟨_, _, _, _, _, rfl, rfl⟩
  · cases h
theorem rf3_ok {st : Stmt} {n : Str} (h : rf3 st = some n) : ∃ p1 j p2 p3, st = .Assign [.Name n p1] (.Constant (.bool false) j p2) p3 := by
  unfold rf3 at h
  split at h
  · cases h; exact ⟨_, _, _, _, rfl⟩
  · cases h
theorem rfA_ok {st : Stmt} {q : Str × Str} (h : rfA st = some q) : ∃ p1 p2 p3 p4 p5, st = .Expr (.Call (.Subscript (.Name q.1 p1) (.Name q.2 p2) p3) [] [] p4) p5 := by
  unfold rfA at h
  split at h
  · cases h; exact ⟨_, _, _, _, _, rfl⟩
  · cases h
theorem rfB_ok {st : Stmt} {n : Str} (h : rfB st = some n) : ∃ p1 j p2 p3, st = .Assign [.Name n p1] (.Constant (.bool true) j p2) p3 := by
  unfold rfB at h
  split at h
  · cases h; exact ⟨_, _, _, _, rfl⟩
  · cases h
theorem rf4_ok {st : Stmt} {q : Stmt × Str × Stmt} (h : rf4 st = some q) : ∃ p1 p2 p3, st = .Try [q.1] [.ExceptHandler (some (.Name q.2.1 p1)) none [q.2.2] p2] [] [] p3 := by
  unfold rf4 at h
  split at h
  · cases h; exact ⟨_, _, _, rfl⟩
  · cases h
def mRef (m : Mc) (iw ik jf : Nat) (x : Str) (e1 e2 : E) (s1 s2 s3 s4 : Stmt) : Bool := match rf1 s1, rf2 s2, rf3 s3, rf4 s4 with
  | some q1, some q2, some n, some q4 => (match rfA q4.1, rfB q4.2.2 with
    | some a, some b => decide (q2.1 = q1.1) && decide (q2.2.1 = ("append" : Str)) && q2.2.2.2.2.2 && decide (a.1 = q1.1) && decide (b = n) && decide (q4.2.1 = x) && locN m iw q1.1 && locN m ik a.2 && locN m jf n && okName q1.1 && okName a.2 && okName x &&
        decide (iw ≠ jf) && decide (iw ≠ ik) && decide (jf ≠ ik) && m.lam && m.exs.contains x && glB m.sc x && LamX.lamSB m.sc q1.2.2.2 && LamX.lamSB m.sc q2.2.2.2.2.1 && par0B q1.2.1 && par0B q2.2.2.1 && mL (m.low q1.2.2.2) none e1 [q1.2.2.1] && mL (m.low q2.2.2.2.2.1) none e2 [q2.2.2.2.1]
    | _, _ => false)
  | _, _, _, _ => false
mutual
def mS (m : Mc) : S → Stmt → Bool
  | .asg t e, st => match st with
    | .Assign [tgt] x _ => mT m none t tgt && mL m none e [x] && !swB m.sc tgt x && decide (swO m.sc tgt x = some none)
    | _ => false
  | .asgC i e, st => match st with
    | .Assign [.Name y py] x _ => locN m i y && mL m none e [x] && swB m.sc (.Name y py) x
    | _ => false
  | .par i j as, st => match st with
    | .Assign [.Tuple [.Name x px, .Name y py] kt pt] (.Tuple [a, b] k2 p2) _ => locN m i x && locN m j y && decide (i ≠ j) && mEs m as [a, b] && [a, b].all notStar && decide (swO m.sc (.Tuple [.Name x px, .Name y py] kt pt) (.Tuple [a, b] k2 p2) = some (some [x, y]))
    | _ => false
  | .par3 i j l as, st => match st with
    | .Assign [.Tuple [.Name x px, .Name y py, .Name z pz] kt pt] (.Tuple [a, b, c] k2 p2) _ => locN m i x && locN m j y && locN m l z && decide (i ≠ j) && decide (i ≠ l) && decide (j ≠ l) && mEs m as [a, b, c] && [a, b, c].all notStar &&
      decide (swO m.sc (.Tuple [.Name x px, .Name y py, .Name z pz] kt pt) (.Tuple [a, b, c] k2 p2) = some (some [x, y, z]))
    | _ => false
  | .setix o i e, st => match st with
    | .Assign [.Subscript x y _] z _ => mL m none o [x] && mL m none i [y] && mL m none e [z] && notSlice y
    | _ => false
  | .aug i sub e, st => match st with
    | .AugAssign (.Name x _) op z _ => decide (m.N[i]? = some x) && locB m.sc x && m.st x && decide (op = if sub then .Sub else .Add) && mL m none e [z]
    | _ => false
  | .expr e, st => match st with
    | .Expr x _ => mL m none e [x] && !isComp x
    | _ => false
  | .ifs t a b, st => match st with
    | .If c x y _ => mL m none t [c] && mSs m a x && mSs m b y
    | _ => false
  | .whl t b, st => match st with
    | .While c x [] _ => mL m none t [c] && mSs m b x
    | _ => false
  | .fors t it b, st => match st with
    | .For tgt iter x [] _ => mT m none t tgt && mI m (tupT tgt) it iter && notSet iter && mSs m b x
    | _ => false
  | .ret e, st => match st with
    | .Return (some x) _ => mL m none e [x]
    | _ => false
  | .retN, st => match st with
    | .Return none _ => true
    | _ => false
  | .brk, st => match st with
    | .Break _ => true
    | _ => false
  | .ct, st => match st with
    | .Continue _ => true
    | _ => false
  | .pass, st => match st with
    | .Pass _ => true
    | _ => false
  | .dead, _ => true
  | .lock _ s, st => mS m s st
  | .skip, _ => false
  | .seq _ _, _ => false
  | .refu .., _ => false
  | .rais x, st => match st with
    | .Raise (some (.Call (.Name y _) [] [] _)) none _ => decide (y = x) && m.exs.contains x && glB m.sc x && okName x
    | _ => false
def mSs (m : Mc) : S → List Stmt → Bool
  | .skip, l => l.isEmpty
  | .seq a b, l => match l with
    | st :: r => mS m a st && mSs m b r
    | [] => false
  | .refu iw ik jf x e1 e2 b, l => match l with
    | s1 :: s2 :: s3 :: s4 :: r => mRef m iw ik jf x e1 e2 s1 s2 s3 s4 && mSs m b r
    | _ => false
  | _, _ => false
end
/-- a def's own level -/
structure Sok (X : Cx) (m : Mc) (p : Pr) (W : WX) : Prop where
  c : Cok X m p
  kind : X.env.scope.kind = .function
  po : PassesOwn (model X.prog X.w) X.A X.env X.xe
  tk : Takes X W
  stk : X.stack = X.env :: X.outer
  frm : X.env.frame = some X.env.locals
section
variable {X : Cx} {m : Mc} {p : Pr} {W : WX}
theorem comp_set {i : Nat} {y : Str} {py spos : Pos} {x : Expr} (s : Sok X m p W) (hl : locN m i y = true) (hw : swB m.sc (.Name y py) x = true) : ∀ {e : E}, mL m none e [x] = true → PS X (.Assign [.Name y py] x spos) (RS X.K X.mg W (sAsg (ev p e).v (tgName i))) := by
  intro e h
  have c := s.c
  have tk := s.tk
  have hlx := hl
  unfold locN at hlx
  rw [Bool.and_eq_true] at hlx
  have hy : X.N[i]? = some y := by rw [c.N]; exact of_decide_eq_true hlx.1
  have hyl : X.env.scope.names.lookup y = some .local := by rw [c.sc]; exact of_decide_eq_true hlx.2
  have hsw : swapsWith x (some (.Name y py)) spos.line X.env = pure true := by
    have := swB_ok (tgt := .Name y py) (e := x) (line := spos.line) s.kind
    rw [c.sc, hw] at this
    exact this
  have ic : isComp x = true := by
    unfold swB at hw
    rw [Bool.and_eq_true] at hw
    exact hw.1
  cases e with
  | comp mu it own t e =>
    unfold mL at h
    split at h
    · rename_i xe hx
      cases hx
      simp only [Bool.and_eq_true] at h
      obtain ⟨⟨⟨⟨⟨h1, h2⟩, h3⟩, h4⟩, h5⟩, h6⟩ := h
      have h1 := of_decide_eq_true h1
      subst h1
      exact ps_setcomp' c.calm (by rw [c.N]; exact c.nd) hy hyl hsw (mI_ok it h2 c tk) (by rw [c.N, c.sc]; exact blkOk_by h3)
        (fun s H C cl fp => mT_ok (c.blk s H C cl fp) h4) (fun s H C cl fp => ⟨fun pins s σ H Q I q => (pts_nil).run pins s σ H Q I (by
          obtain ⟨as, env, st, E, S, q⟩ := q
          exact q as H (.refl _ _) S)⟩) (fun s H C cl fp => (mL_ok e h6 (c.blk s H C cl fp) takes0).one.pe) (fold_of h5)
    · cases h
  | compIf mu it own t d e =>
    unfold mL at h
    split at h
    · rename_i xe hx
      cases hx
      simp only [Bool.and_eq_true] at h
      obtain ⟨⟨⟨⟨⟨⟨h1, h2⟩, h3⟩, h4⟩, h5⟩, h6⟩, h7⟩ := h
      have h1 := of_decide_eq_true h1
      subst h1
      exact ps_setcomp' c.calm (by rw [c.N]; exact c.nd) hy hyl hsw (mI_ok it h2 c tk) (by rw [c.N, c.sc]; exact blkOk_by h3)
        (fun s H C cl fp => mT_ok (c.blk s H C cl fp) h4) (fun s H C cl fp => pts_one (mL_ok d h6 (c.blk s H C cl fp) takes0).one.pt) (fun s H C cl fp => (mL_ok e h7 (c.blk s H C cl fp) takes0).one.pe) (fold_of h5)
    · cases h
  | comp2 mu it own t it1 vs1 t1 e =>
    unfold mL at h
    split at h
    · rename_i xe hx
      cases hx
      simp only [Bool.and_eq_true] at h
      obtain ⟨⟨⟨⟨⟨⟨⟨⟨⟨⟨h1, h1'⟩, h2⟩, h3⟩, h4⟩, h5⟩, hv⟩, h6⟩, h7⟩, h8⟩, h9⟩ := h
      have h1 := of_decide_eq_true h1
      have h1' := of_decide_eq_true h1'
      subst h1 h1'
      have hv' : ∀ i ∈ vs1, i ∈ own.map (·.2) := fun i hi => List.contains_iff_mem.mp ((List.all_eq_true.mp hv) i hi)
      exact ps_setcomp2' c.calm (by rw [c.N]; exact c.nd) hy hyl hsw (mI_ok it h2 c tk) (by rw [c.N, c.sc]; exact blkOk_by h3) hv'
        (fun s H C cl fp => mT_ok (c.blk s H C cl fp) h4) (fun s H C cl fp => ⟨fun pins s σ H Q I q => (pts_nil).run pins s σ H Q I (by
          obtain ⟨as, env, st, E, S, q⟩ := q
          exact q as H (.refl _ _) S)⟩) (fun s H C cl fp => mI_ok it1 h6 (c.blk s H C cl fp) takes0) (fun s H C cl fp => mT_ok (c.blk s H C cl fp) h7) (fun s H C cl fp => ⟨fun pins s σ H Q I q => (pts_nil).run pins s σ H Q I (by
          obtain ⟨as, env, st, E, S, q⟩ := q
          exact q as H (.refl _ _) S)⟩) (fun s H C cl fp => (mL_ok e h9 (c.blk s H C cl fp) takes0).one.pe) (fold_of h5) (fun env => fold_of h8)
    · cases h
  | dcomp it own t kx vx =>
    unfold mL at h
    split at h
    · rename_i xk xv tgt iter a scope pos hx
      cases hx
      simp only [Bool.and_eq_true] at h
      obtain ⟨⟨⟨⟨⟨⟨h1, h2⟩, h3⟩, h4⟩, h5⟩, h6⟩, h7⟩ := h
      have h1 := of_decide_eq_true h1
      subst h1
      exact ps_setdcomp' (by have := c.hu; omega) c.calm (by rw [c.N]; exact c.nd) hy hyl hsw (mI_ok it h2 c tk) (by rw [c.N, c.sc]; exact blkOk_by h3)
        (fun s H C cl fp => mT_ok (c.blk s H C cl fp) h4) (fun s H C cl fp => ⟨fun pins s σ H Q I q => (pts_nil).run pins s σ H Q I (by
          obtain ⟨as, env, st, E, S, q⟩ := q
          exact q as H (.refl _ _) S)⟩) (fun s H C cl fp => (mL_ok kx h6 (c.blk s H C cl fp) takes0).one.pe) (fun s H C cl fp => (mL_ok vx h7 (c.blk s H C cl fp) takes0).one.pe) (fold_of h5)
    · cases h
  | dcompIf it own t d kx vx =>
    unfold mL at h
    split at h
    · rename_i xk xv tgt iter c' a scope pos hx
      cases hx
      simp only [Bool.and_eq_true] at h
      obtain ⟨⟨⟨⟨⟨⟨⟨h1, h2⟩, h3⟩, h4⟩, h5⟩, h6⟩, h7⟩, h8⟩ := h
      have h1 := of_decide_eq_true h1
      subst h1
      exact ps_setdcomp' (by have := c.hu; omega) c.calm (by rw [c.N]; exact c.nd) hy hyl hsw (mI_ok it h2 c tk) (by rw [c.N, c.sc]; exact blkOk_by h3)
        (fun s H C cl fp => mT_ok (c.blk s H C cl fp) h4) (fun s H C cl fp => pts_one (mL_ok d h6 (c.blk s H C cl fp) takes0).one.pt) (fun s H C cl fp => (mL_ok kx h7 (c.blk s H C cl fp) takes0).one.pe) (fun s H C cl fp => (mL_ok vx h8 (c.blk s H C cl fp) takes0).one.pe) (fold_of h5)
    · cases h
  | _ =>
    exfalso
    cases x <;> first | (cases ic; done) | (unfold mL at h; simp at h; done)
theorem mT_star {ow : Option (List Nat)} {t : T} {x : Expr} (h : mT m ow t x = true) : notStar x = true := by
  cases t <;> cases x <;> first | rfl | (cases h; done)
theorem asg_one {tgt : Expr} (h : notStar tgt = true) : (assignEach [tgt] X.env).map (·.2) = [assign tgt X.env] := by
  cases tgt <;> first | rfl | cases h
theorem rs_par3 {K : PySem.W.Frag} {mg : Str → Option Value} {f : DenA} {i j l : Nat} {Z : Ends} {σ : St} {H : Hp} (h : RS K mg W (sPar3 i j l f) Z σ H) : tPar3 i j l (RA K mg W f) Z σ H := by
  obtain ⟨as, env, st, E, S, h⟩ := h
  refine ra_thenS E S h fun r st1 as1 H1 v x E1 S1 r1 h1 => ?_
  match r, r1, h1 with
  | [_, _, _], .cons ra (.cons rb (.cons rc .nil)), h1 => exact ⟨_, _, _, rfl, h1 as1 H1 _ (.refl _ _) S1 (((E1.set ra i).set rb j).set rc l)⟩
  | [], _, h1 => exact h1.elim
  | [_], _, h1 => exact h1.elim
  | [_, _], _, h1 => exact h1.elim
  | _ :: _ :: _ :: _ :: _, _, h1 => exact h1.elim
theorem locN_ok {i : Nat} {x : Str} (c : Cok X m p) (h : locN m i x = true) : X.N[i]? = some x ∧ X.env.scope.names.lookup x = some .local := by
  unfold locN at h
  rw [Bool.and_eq_true] at h
  exact ⟨by rw [c.N]; exact of_decide_eq_true h.1, by rw [c.sc]; exact of_decide_eq_true h.2⟩
theorem sw_ok {tgt x : Expr} {line : Nat} (s : Sok X m p W) (h : swB m.sc tgt x = false) : swapsWithSole [tgt] x line X.env = pure false := by
  rw [swB_ok s.kind, s.c.sc, h]
theorem so_ok {tgt x : Expr} {r : Option (List Str)} (s : Sok X m p W) (h : swO m.sc tgt x = some r) : swappedStores [tgt] x X.env = pure r := swO_ok s.kind (by rw [s.c.sc]; exact h)
theorem sub_asg {o i : Expr} {pos : Pos} {env : PySem.Env} (h : notSlice i = true) : ∀ v, assign (.Subscript o i pos) env v = (do
      let ov ← holding [v] (eval o env)
      let iv ← holding [v, ov] (eval i env)
      standAt pos
      holding [v, ov, iv] (setItem ov iv v)
      release [v, ov, iv] []) := fun v => by
  cases i <;> first | rfl | cases h
theorem nostB {sc : Scope} {ts : List Expr} {k1 k2 : Nat} {p1 p2 : Pos} {vs : List Expr} : swB sc (.Tuple ts k1 p1) (.Tuple vs k2 p2) = false := rfl

theorem ok_dbg {x : Str} (h : okName x = true) : (x == ("__debug__" : Str)) = false := by
  unfold okName at h
  simp only [Bool.and_eq_true, Bool.not_eq_true'] at h
  exact h.1.1
theorem ok_cls {x : Str} (h : okName x = true) : (x == ("__debug__" : Str)) = false ∧ (x == ("__classdict__" : Str)) = false := by
  unfold okName at h
  simp only [Bool.and_eq_true, Bool.not_eq_true'] at h
  exact h.1
theorem ref_ok {iw ik jf : Nat} {x : Str} {e1 e2 : E} {g : DenS} {s1 s2 s3 s4 : Stmt} {r : List Stmt} (s : Sok X m p W) (h : mRef m iw ik jf x e1 e2 s1 s2 s3 s4 = true) (hr : PSs X r (RS X.K X.mg W g)) :
    PSs X (s1 :: s2 :: s3 :: s4 :: r) (RS X.K X.mg W (sSeq (sRef iw ik jf x (ev p.low e1).v (ev p.low e2).v) g)) := by
  have c := s.c
  unfold mRef at h
  cases q1 : rf1 s1 with
  | none => rw [q1] at h; cases h
  | some t1 =>
  cases q2 : rf2 s2 with
  | none => rw [q1, q2] at h; cases h
  | some t2 =>
  cases q3 : rf3 s3 with
  | none => rw [q1, q2, q3] at h; cases h
  | some t3 =>
  cases q4 : rf4 s4 with
  | none => rw [q1, q2, q3, q4] at h; cases h
  | some t4 =>
  rw [q1, q2, q3, q4] at h
  simp only at h
  cases qa : rfA t4.1 with
  | none => rw [qa] at h; cases h
  | some ta =>
  cases qb : rfB t4.2.2 with
  | none => rw [qa, qb] at h; cases h
  | some tb =>
  rw [qa, qb] at h
  simp only [Bool.and_eq_true] at h
  obtain ⟨⟨⟨⟨⟨⟨⟨⟨⟨⟨⟨⟨⟨⟨⟨⟨⟨⟨⟨⟨⟨⟨⟨h1, h2⟩, h3⟩, h4⟩, h5⟩, h6⟩, h7⟩, h8⟩, h9⟩, h10⟩, h11⟩, h12⟩, h13⟩, h14⟩, h15⟩, h16⟩, h17⟩, h18⟩, h19⟩, h20⟩, h21⟩, h22⟩, h23⟩, h24⟩ := h
  obtain ⟨w1, pa1, bo1, sc1⟩ := t1
  obtain ⟨w2, ap, pa2, bo2, sc2, ln⟩ := t2
  obtain ⟨sa, x4, sb⟩ := t4
  obtain ⟨w4, kd⟩ := ta
  simp only at h1 h2 h3 h4 h5 h6 h7 h8 h9 h10 h11 h12 h16 h19 h20 h21 h22 h23 h24 qa qb
  have h1 := of_decide_eq_true h1
  have h2 := of_decide_eq_true h2
  have h4 := of_decide_eq_true h4
  have h5 := of_decide_eq_true h5
  have h6 := of_decide_eq_true h6
  subst h1 h2 h4 h5 h6
  obtain ⟨p1, p2, p3, p4, e1'⟩ := rf1_ok q1
  obtain ⟨p5, q5, p6, q7, p7, e2', e2l⟩ := rf2_ok q2
  obtain ⟨p8, j1, p9, p10, e3'⟩ := rf3_ok q3
  obtain ⟨p11, p12, p13, e4'⟩ := rf4_ok q4
  obtain ⟨p14, p15, p16, p17, p18, ea'⟩ := rfA_ok qa
  obtain ⟨p19, j2, p20, p21, eb'⟩ := rfB_ok qb
  simp only at e1' e2' e2l e4' ea' eb'
  subst ea' eb' e1' e2' e3' e4'
  rw [e2l] at h3
  obtain ⟨a1, a2⟩ := locN_ok c h7
  obtain ⟨b1, b2⟩ := locN_ok c h8
  obtain ⟨c1, c2⟩ := locN_ok c h9
  obtain ⟨LA, k, hrm, hF⟩ := c.lam h16
  obtain ⟨d1, d2⟩ := par0_ok (X := X) (body := bo1) (scope := sc1) h21
  obtain ⟨f1, f2⟩ := par0_ok (X := X) (body := bo2) (scope := sc2) h22
  have L1 : LamX.LamS X.env.scope sc1 := by rw [c.sc]; exact LamX.lamS_by h19
  have L2' : LamX.LamS X.env.scope sc2 := by rw [c.sc]; exact LamX.lamS_by h20
  exact pss_ref s.stk s.frm s.kind s.tk LA (hrm.mono (by omega)) (by rw [c.N]; exact c.nd) (c.exs _ h17) (gl_of c h18) (ok_dbg h12) a1 b1 c1 a2 b2 c2 (ok_cls h10) (ok_cls h11) (of_decide_eq_true h13) (of_decide_eq_true h14) (of_decide_eq_true h15)
    ⟨L1, d1, d2, fun A outer s H E f c' hr' => (mL_ok e1 h23 (c.low hF hr') (takes_of rfl rfl rfl rfl)).one.pe⟩ ⟨L2', f1, f2, fun A outer s H E f c' hr' => (mL_ok e2 h24 (c.low hF hr') (takes_of rfl rfl rfl rfl)).one.pe⟩ h3 hr

mutual
theorem mS_ok : ∀ (f : S) {st : Stmt}, mS m f st = true → Sok X m p W → PS X st (RS X.K X.mg W (ex p f))
  | .asg t e, st, h, s => by
    unfold mS at h
    split at h
    · simp only [Bool.and_eq_true, Bool.not_eq_true'] at h
      obtain ⟨⟨⟨h1, h2⟩, h3⟩, h4⟩ := h
      exact ps_asg' (mL_ok e h2 s.c s.tk).one.pe (mT_ok s.c h1) (sw_ok s h3) (so_ok s (of_decide_eq_true h4)) (asg_one (mT_star h1))
    · cases h
  | .asgC i e, st, h, s => by
    unfold mS at h
    split at h
    · simp only [Bool.and_eq_true] at h
      obtain ⟨⟨h1, h2⟩, h3⟩ := h
      exact comp_set s h1 h3 h2
    · cases h
  | .par i j as, st, h, s => by
    unfold mS at h
    split at h
    · simp only [Bool.and_eq_true] at h
      obtain ⟨⟨⟨⟨⟨h1, h2⟩, h3⟩, h4⟩, h5⟩, h6⟩ := h
      obtain ⟨a1, a2⟩ := locN_ok s.c h1
      obtain ⟨b1, b2⟩ := locN_ok s.c h2
      exact PS.re (ps_par s.c.calm (by rw [s.c.N]; exact s.c.nd) a1 b1 (of_decide_eq_true h3) a2 b2 (mEs_ok as h4 h5 s.c s.tk) (so_ok s (of_decide_eq_true h6)) (sw_ok s nostB)) fun _ _ _ z => rs_par z
    · cases h
  | .par3 i j l as, st, h, s => by
    unfold mS at h
    split at h
    · simp only [Bool.and_eq_true] at h
      obtain ⟨⟨⟨⟨⟨⟨⟨⟨h1, h2⟩, h3⟩, h4⟩, h5⟩, h6⟩, h7⟩, h8⟩, h9⟩ := h
      obtain ⟨a1, a2⟩ := locN_ok s.c h1
      obtain ⟨b1, b2⟩ := locN_ok s.c h2
      obtain ⟨c1, c2⟩ := locN_ok s.c h3
      exact PS.re (ps_par3 s.c.calm (by rw [s.c.N]; exact s.c.nd) a1 b1 c1 (of_decide_eq_true h4) (of_decide_eq_true h5) (of_decide_eq_true h6) a2 b2 c2 (mEs_ok as h7 h8 s.c s.tk) (so_ok s (of_decide_eq_true h9)) (sw_ok s nostB)) fun _ _ _ z => rs_par3 z
    · cases h
  | .setix o i e, st, h, s => by
    unfold mS at h
    split at h
    · simp only [Bool.and_eq_true] at h
      obtain ⟨⟨⟨h1, h2⟩, h3⟩, h4⟩ := h
      refine ps_setix' (mL_ok o h1 s.c s.tk).one.pe (mL_ok i h2 s.c s.tk).one.pe (mL_ok e h3 s.c s.tk).one.pe (set_ok2 (by have := s.c.hu; omega)) (sub_asg h4) (sw_ok s ?_) (so_ok s rfl) rfl
      unfold swB
      rw [Bool.and_false]
    · cases h
  | .aug i sub e, st, h, s => by
    unfold mS at h
    split at h
    · simp only [Bool.and_eq_true] at h
      obtain ⟨⟨⟨⟨h1, h2⟩, h3⟩, h4⟩, h5⟩ := h
      rw [of_decide_eq_true h4]
      refine ps_aug' (by rw [s.c.N]; exact s.c.nd) (by rw [s.c.N]; exact of_decide_eq_true h1) (by rw [s.c.sc]; exact loc_of h2) (mL_ok e h5 s.c s.tk).one.pe ?_ (s.c.st _ h3)
      cases sub with
      | true => exact ip_sub
      | false => exact ip_add
    · cases h
  | .expr e, st, h, s => by
    unfold mS at h
    split at h
    · simp only [Bool.and_eq_true, Bool.not_eq_true'] at h
      exact ps_expr' (mL_ok e h.1 s.c s.tk).one.pe (swN_ok h.2)
    · cases h
  | .ifs t a b, st, h, s => by
    unfold mS at h
    split at h
    · simp only [Bool.and_eq_true] at h
      obtain ⟨⟨h1, h2⟩, h3⟩ := h
      exact ps_if' (mL_ok t h1 s.c s.tk).one.pt (mSs_ok a h2 s) (mSs_ok b h3 s)
    · cases h
  | .whl t b, st, h, s => by
    unfold mS at h
    split at h
    · simp only [Bool.and_eq_true] at h
      exact ps_while' s.po (mL_ok t h.1 s.c s.tk).one.pt (mSs_ok b h.2 s)
    · cases h
  | .fors t it b, st, h, s => by
    unfold mS at h
    split at h
    · simp only [Bool.and_eq_true] at h
      obtain ⟨⟨⟨h1, h2⟩, h3⟩, h4⟩ := h
      exact ps_for' s.po s.c.calm (mI_ok it h2 s.c s.tk) (mT_ok s.c h1) (mSs_ok b h4 s) (fold_of h3)
    · cases h
  | .ret e, st, h, s => by
    unfold mS at h
    split at h
    · exact ps_ret' (mL_ok e h s.c s.tk).one.pe
    · cases h
  | .retN, st, h, s => by
    unfold mS at h
    split at h
    · exact ps_retN'
    · cases h
  | .brk, st, h, s => by
    unfold mS at h
    split at h
    · exact ps_break'
    · cases h
  | .ct, st, h, s => by
    unfold mS at h
    split at h
    · exact ps_continue'
    · cases h
  | .pass, st, h, s => by
    unfold mS at h
    split at h
    · exact ps_pass'
    · cases h
  | .dead, st, h, s => PS.re ps_never fun Z σ H q => by
    obtain ⟨_, _, _, _, _, q⟩ := q
    exact q
  | .lock i b, st, h, s => ps_lock' (mS_ok b (by unfold mS at h; exact h) s)
  | .skip, st, h, s => by unfold mS at h; cases h
  | .seq _ _, st, h, s => by unfold mS at h; cases h
  | .refu .., st, h, s => by unfold mS at h; cases h
  | .rais x, st, h, s => by
    unfold mS at h
    split at h
    · simp only [Bool.and_eq_true] at h
      obtain ⟨⟨⟨h1, h2⟩, h3⟩, h4⟩ := h
      have h1 := of_decide_eq_true h1
      subst h1
      exact ps_raise' s.c.calm s.tk (s.c.exs _ h2) (gl_of s.c h3) (ok_dbg h4)
    · cases h
theorem mSs_ok : ∀ (f : S) {l : List Stmt}, mSs m f l = true → Sok X m p W → PSs X l (RS X.K X.mg W (ex p f))
  | .skip, l, h, s => by
    cases l with
    | nil => exact pss_nil'
    | cons _ _ => unfold mSs at h; cases h
  | .seq a b, l, h, s => by
    cases l with
    | nil => unfold mSs at h; cases h
    | cons st r =>
      unfold mSs at h
      rw [Bool.and_eq_true] at h
      exact pss_cons' (mS_ok a h.1 s) (mSs_ok b h.2 s)
  | .refu iw ik jf x e1 e2 b, l, h, s => by
    match l, h with
    | [], h => unfold mSs at h; cases h
    | [_], h => unfold mSs at h; cases h
    | [_, _], h => unfold mSs at h; cases h
    | [_, _, _], h => unfold mSs at h; cases h
    | s1 :: s2 :: s3 :: s4 :: r, h =>
      unfold mSs at h
      rw [Bool.and_eq_true] at h
      exact ref_ok s h.1 (mSs_ok b h.2 s)
  | .rais _, l, h, s => by unfold mSs at h; cases h
  | .lock _ _, l, h, s => by unfold mSs at h; cases h
  | .asg _ _, l, h, s => by unfold mSs at h; cases h
  | .asgC _ _, l, h, s => by unfold mSs at h; cases h
  | .par _ _ _, l, h, s => by unfold mSs at h; cases h
  | .par3 _ _ _ _, l, h, s => by unfold mSs at h; cases h
  | .setix _ _ _, l, h, s => by unfold mSs at h; cases h
  | .aug _ _ _, l, h, s => by unfold mSs at h; cases h
  | .expr _, l, h, s => by unfold mSs at h; cases h
  | .ifs _ _ _, l, h, s => by unfold mSs at h; cases h
  | .whl _ _, l, h, s => by unfold mSs at h; cases h
  | .fors _ _ _, l, h, s => by unfold mSs at h; cases h
  | .ret _, l, h, s => by unfold mSs at h; cases h
  | .retN, l, h, s => by unfold mSs at h; cases h
  | .brk, l, h, s => by unfold mSs at h; cases h
  | .ct, l, h, s => by unfold mSs at h; cases h
  | .pass, l, h, s => by unfold mSs at h; cases h
  | .dead, l, h, s => by unfold mSs at h; cases h
end
end
end
end L2.PyD
/-! PyD, part 12: a text as a table of defs; what its law gives. -/
namespace L2.PyD
open PySem PySem.Spec PyProof.Rows
noncomputable section

/-- a def: its name, its names by slot (parameters first), how many parameters, its body -/
structure Fd where
  name : Str
  N : List Str
  ps : List Str
  body : S
def badC : Nat → Cal := fun _ _ _ => .bad
/-- one level, by the level before and by that three levels before it -/
noncomputable def stepC (G : Nat → D) (tbl : List Fd) (C CL : Nat → Cal) (i : Nat) : Cal := match tbl[i]? with
  | some f => dBody f.N.length (ex ⟨C, G, CL⟩ f.body)
  | none => fun _ _ => .bad
/-- four levels -/
structure Lv where
  a : Nat → Cal
  b : Nat → Cal
  c : Nat → Cal
  d : Nat → Cal
noncomputable def lvN (G : Nat → D) (tbl : List Fd) : Nat → Lv
  | 0 => ⟨badC, badC, badC, badC⟩
  | k + 1 => ⟨stepC G tbl (lvN G tbl k).a (lvN G tbl k).d, (lvN G tbl k).a, (lvN G tbl k).b, (lvN G tbl k).c⟩
noncomputable def callN (G : Nat → D) (tbl : List Fd) (k : Nat) : Nat → Cal := (lvN G tbl k).a
/-- what a def's body calls, at depth k; within a lambda three less -/
noncomputable def prN (G : Nat → D) (tbl : List Fd) (k : Nat) : Pr := ⟨callN G tbl k, G, (lvN G tbl k).d⟩
@[simp] theorem prN_C (G : Nat → D) (tbl : List Fd) (k : Nat) : (prN G tbl k).C = callN G tbl k := rfl
@[simp] theorem prN_G (G : Nat → D) (tbl : List Fd) (k : Nat) : (prN G tbl k).G = G := rfl
theorem lvN_d (G : Nat → D) (tbl : List Fd) (k : Nat) : (lvN G tbl (k + 3)).d = callN G tbl k := rfl
theorem callN_body {G : Nat → D} {tbl : List Fd} {k i : Nat} {f : Fd} (h : tbl[i]? = some f) : callN G tbl (k + 1) i = dBody f.N.length (ex (prN G tbl k) f.body) := by
  show stepC G tbl (callN G tbl k) (lvN G tbl k).d i = _
  unfold stepC
  rw [h]
  rfl
def fnsGo : Nat → List Fd → List (Str × Nat × Nat)
  | _, [] => []
  | i, f :: r => (f.name, i, f.ps.length) :: fnsGo (i + 1) r
theorem fnsGo_ok : ∀ (l : List Fd) (i : Nat) {x : Str} {j n : Nat}, (fnsGo i l).lookup x = some (j, n) → ∃ f, i ≤ j ∧ l[j - i]? = some f ∧ f.name = x ∧ f.ps.length = n
  | [], _, _, _, _, h => by cases h
  | f :: r, i, x, j, n, h => by
    unfold fnsGo at h
    rw [List.lookup_cons] at h
    split at h
    · rename_i e
      cases h
      exact ⟨f, Nat.le_refl _, by simp, (eq_of_beq e).symm, rfl⟩
    · obtain ⟨g, h1, h2, h3, h4⟩ := fnsGo_ok r (i + 1) h
      refine ⟨g, by omega, ?_, h3, h4⟩
      have : j - i = (j - (i + 1)) + 1 := by omega
      rw [this]
      simpa using h2
/-- what else the text knows by name: constants, built-ins that no name hides, imported ones -/
structure Gn where
  gls : List (Str × D)
  blt : List Str
  imp : List (Str × String)
  exs : List Str
def glsGo : Nat → List (Str × D) → List (Str × Nat)
  | _, [] => []
  | i, f :: r => (f.1, i) :: glsGo (i + 1) r
theorem glsGo_ok : ∀ (l : List (Str × D)) (i : Nat) {x : Str} {j : Nat}, (glsGo i l).lookup x = some j → ∃ d, i ≤ j ∧ l[j - i]? = some (x, d)
  | [], _, _, _, h => by cases h
  | f :: r, i, x, j, h => by
    unfold glsGo at h
    rw [List.lookup_cons] at h
    split at h
    · rename_i e
      cases h
      exact ⟨f.2, Nat.le_refl _, by rw [eq_of_beq e]; simp⟩
    · obtain ⟨g, h1, h2⟩ := glsGo_ok r (i + 1) h
      refine ⟨g, by omega, ?_⟩
      have : j - i = (j - (i + 1)) + 1 := by omega
      rw [this]
      simpa using h2
def Gn.G (g : Gn) (j : Nat) : D := match g.gls[j]? with
  | some p => p.2
  | none => .non
def mcOf (g : Gn) (tbl : List Fd) (f : Fd) (st : Stmt) : Mc := ⟨f.N, defScope st, fun _ => true, fnsGo 0 tbl, glsGo 0 g.gls, g.blt, g.imp, g.exs, lamDefs.contains f.name⟩
def nodupB : List Str → Bool
  | [] => true
  | x :: r => !r.contains x && nodupB r
theorem nodupB_ok : ∀ {l : List Str}, nodupB l = true → l.Nodup
  | [], _ => .nil
  | x :: r, h => by
    unfold nodupB at h
    rw [Bool.and_eq_true, Bool.not_eq_true'] at h
    refine List.nodup_cons.mpr ⟨fun m => ?_, nodupB_ok h.2⟩
    rw [List.contains_iff_mem.mpr m] at h
    cases h.1
def scopeB (N ps : List Str) (sc : Scope) : Bool := (match sc.kind with | .function => true | _ => false) && !sc.isCoroutine && !sc.isGenerator && nodupB N && decide (N.take ps.length = ps) && ps.all (locB sc) && sc.names.all fun y => !(y.2 == .free)
theorem scopeB_ok {N ps : List Str} {sc : Scope} (h : scopeB N ps sc = true) : FnScope N ps sc := by
  unfold scopeB at h
  simp only [Bool.and_eq_true, Bool.not_eq_true', List.all_eq_true] at h
  obtain ⟨⟨⟨⟨⟨⟨h1, h2⟩, h3⟩, h4⟩, h5⟩, h6⟩, h7⟩ := h
  refine ⟨?_, h2, h3, nodupB_ok h4, of_decide_eq_true h5, fun x hx => loc_of (h6 x hx), fun y hy e => ?_⟩
  · split at h1
    · assumption
    · cases h1
  · have := h7 y hy
    rw [e] at this
    cases this
/-- a def of the table stands in the text as it is told -/
def defB (g : Gn) (tbl : List Fd) (f : Fd) (st : Stmt) : Bool := scopeB f.N f.ps (defScope st) && mSs (mcOf g tbl f st) f.body (defBody st)
section
variable {P : Program} {w : World} {K : PySem.W.Frag} {mg : Str → Option Value} {base : Heap}
/-- how a def's arguments bind -/
def BA (fd : FuncData) (ps : List Str) : Prop := ∀ us : List Value, us.length = ps.length → bindArgs fd ⟨us, []⟩ = pure (ps.zip us)
/-- where a def stands behind the top -/
def DefAt (K : PySem.W.Frag) (mg : Str → Option Value) (f : Fd) (st : Stmt) : Prop :=
  ∃ (a : Addr) (fd : FuncData), Fun K f.name f.name st a fd ∧ mg f.name = some (.ref a) ∧ BA fd f.ps
/-- the tables of the defs that hold lambdas -/
def LamOk (K : PySem.W.Frag) (mg : Str → Option Value) (base : Heap) : Prop := ∀ x ∈ lamDefs, ∀ f : Addr, mg x = some (.ref f) → ∃ c P : Addr, LamX.TabB base mg c P ∧ CdAt K f (.ref c) ∧ (P, x ++ (".<locals>." : Str) ++ ("<lambda>" : Str)) ∈ tabT K ∧ ∀ p ∈ tabT K, p.1 = P → p.2 = x ++ (".<locals>." : Str) ++ ("<lambda>" : Str)
structure TextOk (K : PySem.W.Frag) (mg : Str → Option Value) (g : Gn) (tbl : List Fd) (sts : List Stmt) : Prop where
  defs : ∀ (i : Nat) (f : Fd) (st : Stmt), tbl[i]? = some f → sts[i]? = some st → DefAt K mg f st
  len : tbl.length = sts.length
  gls : ∀ (j : Nat) (x : Str) (d : D), g.gls[j]? = some (x, d) → ∃ (v : V) (u : Value), mg x = some u ∧ RelV v u ∧ ∀ as H, Rp K as H v d
  blt : ∀ x, g.blt.contains x = true → mg x = none
  imp : ∀ x id, g.imp.lookup x = some id → mg x = some (.builtin id)
  exs : ∀ x, g.exs.contains x = true → ExFact K mg x
/-- every def keeps what its table row says -/
def AllOk (P : Program) (w : World) (K : PySem.W.Frag) (mg : Str → Option Value) (base : Heap) (g : Gn) (tbl : List Fd) (k : Nat) : Prop :=
  ∀ (i : Nat) (f : Fd), tbl[i]? = some f → ∃ (a : Addr) (fd : FuncData), mg f.name = some (.ref a) ∧ (∃ st, Fun K f.name f.name st a fd) ∧ BA fd f.ps ∧ FnOk P w K mg base (L2.CX P w) (k + 3) a fd f.ps (spI K mg f.ps.length (callN g.G tbl k i))
theorem bad_ok {a : Addr} {fd : FuncData} {ps : List Str} {n k : Nat} : FnOk P w K mg base (L2.CX P w) k a fd ps (spI K mg n (fun _ _ => .bad)) := by
  refine ⟨fun vs H Q E h => ?_, fun A outer s H args us vs Q E hr e0 hb r h => ?_⟩
  · obtain ⟨_, _, _, _, _, _, h⟩ := h
    exact h.elim
  · obtain ⟨_, _, _, _, _, _, h⟩ := h
    exact h.elim
theorem lvN_low {G : Nat → D} {tbl : List Fd} {k : Nat} (h : k < 3) : (lvN G tbl k).d = badC := by
  match k, h with
  | 0, _ => rfl
  | 1, _ => rfl
  | 2, _ => rfl
theorem all_ok {g : Gn} {tbl : List Fd} {sts : List Stmt} (T : TextOk K mg g tbl sts) (L : LamOk K mg base) (hb : ∀ (i : Nat) (f : Fd) (st : Stmt), tbl[i]? = some f → sts[i]? = some st → defB g tbl f st = true) : ∀ k, AllOk P w K mg base g tbl k := fun k => by
  induction k using Nat.strongRecOn with
  | ind k ih =>
  cases k with
  | zero =>
    intro i f e
    have hi : i < sts.length := by rw [← T.len]; exact (List.getElem?_eq_some_iff.mp e).1
    obtain ⟨a, fd, F, hm, B⟩ := T.defs i f _ e (List.getElem?_eq_getElem hi)
    exact ⟨a, fd, hm, ⟨_, F⟩, B, bad_ok⟩
  | succ k =>
    intro i f e
    have hi : i < sts.length := by rw [← T.len]; exact (List.getElem?_eq_some_iff.mp e).1
    have es := List.getElem?_eq_getElem hi
    obtain ⟨a, fd, F, hm, B⟩ := T.defs i f _ e es
    have hB := hb i f _ e es
    unfold defB at hB
    rw [Bool.and_eq_true] at hB
    have Sc := scopeB_ok hB.1
    have ec := callN_body (G := g.G) (k := k) e
    rw [ec]
    refine ⟨a, fd, hm, ⟨_, F⟩, B, fn_ok F Sc rfl fun cdv A outer s H E hcd hr => ?_⟩
    have c : Cok (cxOf (L2.CX P w) P w K mg base f.N f.name (defScope sts[i]) a cdv A outer s H E) (mcOf g tbl f sts[i]) (prN g.G tbl k) := by
      refine ⟨rfl, rfl, Sc.nd, rfl, hr.units, fun _ _ => .inl rfl, fun x j n h => ?_, fun x j h => ?_, T.blt, T.imp, T.exs, fun h => ?_⟩
      · obtain ⟨f', h1, h2, h3, h4⟩ := fnsGo_ok tbl 0 h
        obtain ⟨a', fd', m1, m2, m3, m4⟩ := ih k (Nat.lt_succ_self k) j f' (by simpa using h2)
        rw [h4] at m4
        exact ⟨k + 3, a', fd', f'.ps, m4, hr, by rw [← h3]; exact m1, (by obtain ⟨_, m2⟩ := m2; exact m2.kp), .all m3⟩
      · obtain ⟨d, h1, h2⟩ := glsGo_ok g.gls 0 h
        have h2 : g.gls[j]? = some (x, d) := by simpa using h2
        obtain ⟨v, u, m1, m2, m3⟩ := T.gls j x d h2
        refine ⟨v, u, m1, m2, fun as H => ?_⟩
        have : g.G j = d := by unfold Gn.G; rw [h2]
        show Rp K as H v (g.G j)
        rw [this]
        exact m3 as H
      · have hn : f.name ∈ lamDefs := List.contains_iff_mem.mp h
        obtain ⟨c, P', t1, ⟨oc, od, fd1, osl, lk1, hc1⟩, t3, t4⟩ := L _ hn _ hm
        obtain ⟨oc2, od2, fd2, osl2, lk2, hc2⟩ := hcd
        rw [lk1] at lk2
        cases lk2
        have ecd : cdv = .ref c := by rw [← hc2, hc1]
        subst ecd
        refine ⟨⟨c, P', t1, rfl, t3, t4⟩, k, hr, fun x j n h => ?_⟩
        obtain ⟨f', h1, h2, h3, h4⟩ := fnsGo_ok tbl 0 h
        by_cases hk : k < 3
        · obtain ⟨a', fd', m1, m2, m3, m4⟩ := ih k (Nat.lt_succ_self k) j f' (by simpa using h2)
          refine ⟨a', fd', f'.ps, ?_, by rw [← h3]; exact m1, (by obtain ⟨_, m2⟩ := m2; exact m2.kp), .all m3⟩
          show FnOk _ _ _ _ _ _ _ _ _ _ (spI K mg n ((lvN g.G tbl k).d j))
          rw [lvN_low hk]
          exact bad_ok
        · obtain ⟨a', fd', m1, m2, m3, m4⟩ := ih (k - 3) (by omega) j f' (by simpa using h2)
          have e3 : k - 3 + 3 = k := by omega
          rw [h4, e3] at m4
          refine ⟨a', fd', f'.ps, ?_, by rw [← h3]; exact m1, (by obtain ⟨_, m2⟩ := m2; exact m2.kp), .all m3⟩
          show FnOk _ _ _ _ _ _ _ _ _ _ (spI K mg n ((lvN g.G tbl k).d j))
          rw [← e3, lvN_d, e3]
          exact m4
    exact mSs_ok f.body hB.2 ⟨c, Sc.kind, passes_of rfl, takes_of rfl rfl rfl rfl, rfl, rfl⟩
/-- what the law's def is to give -/
def spLaw (K : PySem.W.Frag) : Sp := fun vs H Q _ => ∃ (a : Addr) (ns : List Int), vs = [.ref a] ∧ FixL K [] H a (ns.map V.int) ∧ LamX.Tabs (tabT K) H ∧ ns.length ≤ 63 ∧ ∀ H', Q (.bl true) H'
theorem law_ok {g : Gn} {tbl : List Fd} {k i : Nat} {f : Fd} {fa : Addr} (A : AllOk P w K mg base g tbl k) (e : tbl[i]? = some f) (hp : f.ps = (["script"] : List Str)) (hm : mg f.name = some (.ref fa)) (h : ∀ ns : List Int, ns.length ≤ 63 → callN g.G tbl k i [.frl (ns.map D.int)] [] = .ok (.bl true) []) :
    ∃ fd : FuncData, (∃ st, Fun K f.name f.name st fa fd) ∧ FnOk P w K mg base (L2.CX P w) (k + 3) fa fd ["script"] (spLaw K) := by
  obtain ⟨a, fd, m1, m2, m3, m4⟩ := A i f e
  rw [hm] at m1
  cases m1
  rw [hp] at m4
  refine ⟨fd, m2, m4.imp fun vs H Q E q => ?_⟩
  obtain ⟨a, ns, ev, hF, hT, hl, q⟩ := q
  refine ⟨[], [], [.frl (ns.map D.int)], ⟨rfl, .nil, fun i p c z _ => (by cases i <;> cases z), hT⟩, ?_, by rw [ev]; rfl, ?_⟩
  · rw [ev]
    refine .cons (.frl hF ?_ (RpL.ints ns)) .nil
    rw [List.length_map]
    exact Nat.le_trans hl (by decide)
  · rw [h ns hl]
    intro as' H' v x s r
    cases r
    exact q H'
end
theorem tabs_of {K : PySem.W.Frag} {H : Hp} (h : ∀ p ∈ tabT K, H p.1 = some (.tbl #[])) : LamX.Tabs (tabT K) H := fun p hp => LamX.TabS.nil (h p hp)
theorem fix_of {K : PySem.W.Frag} {H : Hp} {a : Addr} {xs : List V} (h : SqL K H a xs) : FixL K [] H a xs := by
  rcases h with (h | h) | h
  · exact .inr (.inr ⟨h, List.not_mem_nil⟩)
  · exact .inl h
  · exact .inr (.inl fun _ => .inr h)
end
end L2.PyD
/-! PyD, part 13: the written part holds the text. -/
namespace L2.PyD
open PySem PySem.Spec PyProof.Rows
noncomputable section
def nodupN : List Nat → Bool
  | [] => true
  | x :: r => !r.contains x && nodupN r
def AllP {α : Type} (p : α → Prop) : List α → Prop
  | [] => True
  | x :: r => p x ∧ AllP p r
theorem AllP.get {α : Type} {p : α → Prop} : ∀ {l : List α}, AllP p l → ∀ x ∈ l, p x
  | y :: r, h, x, m => by
    rcases List.mem_cons.mp m with e | m
    · subst e; exact h.1
    · exact AllP.get h.2 x m
structure DefIn (K : PySem.W.Frag) (p : Fd × Stmt) : Prop where
  ex : ∃ (a : Addr) (fd : FuncData), Fun K p.1.name p.1.name p.2 a fd ∧ PySem.W.nsIn K mainGlobals p.1.name = some (some (.ref a)) ∧ BA fd p.1.ps
theorem defIn_mk {K : PySem.W.Frag} {p : Fd × Stmt} {a : Addr} {oc : Value} {od an : Option Addr} {osl : Array (Option Value)} {kV doc pm cdv ct : Value}
    (a1 : PySem.W.nsIn K mainGlobals p.1.name = some (some (.ref a))) (l : K.lookup a = some ⟨oc, od, .func (PySem.W.fnOf p.1.name p.1.name (defArgs p.2) (defBody p.2) (defScope p.2) .none kV doc pm an cdv ct), osl⟩)
    (c : PySem.W.codeIn K cdv p.1.name = true) (k : PySem.W.keepIn K (.ref a) = true)
    (b : ∀ (kV doc pm : Value) (an : Option Addr) (cdv ct : Value) (us : List Value), us.length = p.1.ps.length → bindArgs (PySem.W.fnOf p.1.name p.1.name (defArgs p.2) (defBody p.2) (defScope p.2) .none kV doc pm an cdv ct) ⟨us, []⟩ = pure (p.1.ps.zip us)) : DefIn K p :=
  ⟨⟨a, _, fun_mk l c k, a1, b kV doc pm an cdv ct⟩⟩
structure GlIn (K : PySem.W.Frag) (p : Str × D) : Prop where
  ex : ∃ (v : V) (u : Value), PySem.W.nsIn K mainGlobals p.1 = some (some u) ∧ RelV v u ∧ ∀ as H, Rp K as H v p.2
theorem glIn_int {K : PySem.W.Frag} {x : Str} {i : Int} {t : Tok} (h : PySem.W.nsIn K mainGlobals x = some (some (.int i t))) : GlIn K (x, .int i) := ⟨⟨.int i, _, h, ⟨t, rfl⟩, fun _ _ => .int i⟩⟩
/-- flat values as data -/
def flatV : List Value → Option (List V × List D)
  | [] => some ([], [])
  | .int i _ :: r => (flatV r).map fun q => (.int i :: q.1, .int i :: q.2)
  | .str x _ :: r => (flatV r).map fun q => (.str x :: q.1, .str x :: q.2)
  | .bool b :: r => (flatV r).map fun q => (.bl b :: q.1, .bl b :: q.2)
  | .none :: r => (flatV r).map fun q => (.non :: q.1, .non :: q.2)
  | _ => none
theorem flatV_ok {K : PySem.W.Frag} {as : List Addr} {H : Hp} : ∀ {us : List Value} {q : List V × List D}, flatV us = some q → Vals q.1 us ∧ RpL K as H q.1 q.2
  | [], q, h => by cases h; exact ⟨.nil, .nil⟩
  | .int i t :: r, q, h => by
    obtain ⟨q', h1, rfl⟩ := Option.map_eq_some_iff.mp h
    obtain ⟨a, b⟩ := flatV_ok (K := K) (as := as) (H := H) h1
    exact ⟨.cons ⟨t, rfl⟩ a, .cons (.int i) b⟩
  | .str i t :: r, q, h => by
    obtain ⟨q', h1, rfl⟩ := Option.map_eq_some_iff.mp h
    obtain ⟨a, b⟩ := flatV_ok (K := K) (as := as) (H := H) h1
    exact ⟨.cons ⟨t, rfl⟩ a, .cons (.str i) b⟩
  | .bool i :: r, q, h => by
    obtain ⟨q', h1, rfl⟩ := Option.map_eq_some_iff.mp h
    obtain ⟨a, b⟩ := flatV_ok (K := K) (as := as) (H := H) h1
    exact ⟨.cons rfl a, .cons (.bl i) b⟩
  | .none :: r, q, h => by
    obtain ⟨q', h1, rfl⟩ := Option.map_eq_some_iff.mp h
    obtain ⟨a, b⟩ := flatV_ok (K := K) (as := as) (H := H) h1
    exact ⟨.cons rfl a, .cons .non b⟩
  | .ref _ :: _, _, h => by cases h
  | .type _ :: _, _, h => by cases h
  | .builtin _ :: _, _, h => by cases h
  | .float .. :: _, _, h => by cases h
  | .bytes .. :: _, _, h => by cases h
theorem glIn_tup {K : PySem.W.Frag} {x : Str} {p : Addr} {od : Option Addr} {its : Array Value} {n : Nat} {sl : Array (Option Value)} {q : List V × List D} (h : PySem.W.nsIn K mainGlobals x = some (some (.ref p))) (l : K.lookup p = some ⟨.type "tuple", od, .seq its n, sl⟩) (e : flatV its.toList = some q) (z : its.size ≤ 1000) : GlIn K (x, .tup q.2) :=
  ⟨⟨.ref p, _, h, rfl, fun as H => by
    obtain ⟨a, b⟩ := flatV_ok (K := K) (as := as) (H := H) e
    have zz : its.size ≤ sizeLine := Nat.le_trans z (by decide)
    refine .tup (.inr ⟨_, its, n, l, rfl, rfl, zz, a⟩) ?_ b
    rw [a.length]
    simpa using zz⟩⟩
structure BltIn (K : PySem.W.Frag) (x : Str) : Prop where
  ex : PySem.W.nsIn K mainGlobals x = some none
structure ImpIn (K : PySem.W.Frag) (p : Str × String) : Prop where
  ex : PySem.W.nsIn K mainGlobals p.1 = some (some (.builtin p.2))
theorem cx_no {P : Program} {w : World} {outer : List PySem.Env} {H : Hp} {s s' : Shared} {e : Value} (h : L2.CX P w outer H s (fun _ _ _ => False) e s') : False := by
  obtain ⟨_, _, _, _, _, _, _, _, _, _, _, _, h⟩ := h
  exact h
/-- an error is of the class that it is made of -/
theorem exm_self {K : PySem.W.Frag} {S : Addr} (h1 : PySem.W.subIn K (.ref S) (.type "BaseException") = some true) (h2 : PySem.W.isClsIn K S = true) (h3 : PySem.W.typeIn K (.ref S) = some (.type "type")) (h4 : PySem.W.subIn K (.ref S) (.ref S) = some true) : PySem.W.exmOne K (.ref S) (.ref S) = some true := by
  have e1 : (PySem.W.subIn K (.ref S) (.type "BaseException") == some true) = true := by rw [h1] <;> rfl
  have e2 : ((PySem.W.clsIn K S).isSome && PySem.W.typeIn K (.ref S) == some (.type "type")) = true := by
    have h2' : (PySem.W.clsIn K S).isSome = true := h2
    rw [h2', h3] <;> rfl
  unfold PySem.W.exmOne PySem.W.kitCls
  simp only
  rw [if_pos e1, if_pos e2]
  exact h4
/-- an own class over ValueError without own __init__ -/
structure ExIn (K : PySem.W.Frag) (x : Str) : Prop where
  ex : ∃ C : Addr, PySem.W.nsIn K mainGlobals x = some (some (.ref C)) ∧ PySem.W.excIn K C [.type "ValueError", .type "Exception", .type "BaseException", .type "object"] "ValueError.__new__" = true ∧ PySem.W.keepIn K (.ref C) = true ∧
    PySem.W.subIn K (.ref C) (.type "BaseException") = some true ∧ PySem.W.typeIn K (.ref C) = some (.type "type") ∧ PySem.W.exmOne K (.ref C) (.ref C) = some true
theorem exIn_mk {K : PySem.W.Frag} {x : Str} {C : Addr} (a : PySem.W.nsIn K mainGlobals x = some (some (.ref C))) (b : PySem.W.excIn K C [.type "ValueError", .type "Exception", .type "BaseException", .type "object"] "ValueError.__new__" = true) (c : PySem.W.keepIn K (.ref C) = true)
    (d : PySem.W.subIn K (.ref C) (.type "BaseException") = some true) (e : PySem.W.typeIn K (.ref C) = some (.type "type")) (f : PySem.W.isClsIn K C = true) (g : PySem.W.subIn K (.ref C) (.ref C) = some true) : ExIn K x := ⟨⟨C, a, b, c, d, e, exm_self d f e g⟩⟩
structure TextIn (K : PySem.W.Frag) (g : Gn) (tbl : List Fd) (sts : List Stmt) : Prop where
  defs : AllP (DefIn K) (tbl.zip sts)
  len : tbl.length = sts.length
  gls : AllP (GlIn K) g.gls
  blt : AllP (BltIn K) g.blt
  imp : AllP (ImpIn K) g.imp
  exs : AllP (ExIn K) g.exs
theorem lookup_mem {β : Type} : ∀ {l : List (Str × β)} {x : Str} {b : β}, l.lookup x = some b → (x, b) ∈ l
  | (y, c) :: r, x, b, h => by
    rw [List.lookup_cons] at h
    split at h
    · rename_i e
      cases h
      rw [eq_of_beq e]
      exact List.mem_cons_self ..
    · exact List.mem_cons_of_mem _ (lookup_mem h)
theorem TextIn.ok {K : PySem.W.Frag} {g : Gn} {tbl : List Fd} {sts : List Stmt} {h : Heap} {mg : Str → Option Value} (T : TextIn K g tbl sts) (X : K.In h) (G : h.Ns mainGlobals mg) : TextOk K mg g tbl sts := by
  refine ⟨fun i f st e1 e2 => ?_, T.len, fun j x d e => ?_, fun x e => ?_, fun x id e => ?_, fun x e => ?_⟩
  · have m : (f, st) ∈ tbl.zip sts := by
      refine List.mem_iff_getElem?.mpr ⟨i, ?_⟩
      rw [List.getElem?_zip_eq_some]
      exact ⟨e1, e2⟩
    obtain ⟨a, fd, h1, h2, h3⟩ := (T.defs.get _ m).ex
    exact ⟨a, fd, h1, PySem.W.mg_of X G h2, h3⟩
  · obtain ⟨v, u, h1, h2, h3⟩ := (T.gls.get _ (List.mem_of_getElem? e)).ex
    exact ⟨v, u, PySem.W.mg_of X G h1, h2, h3⟩
  · exact PySem.W.mg_none_of X G (T.blt.get _ (List.contains_iff_mem.mp e)).ex
  · exact PySem.W.mg_of X G (T.imp.get _ (lookup_mem e)).ex
  · obtain ⟨C, a, b, c, d, f, g⟩ := (T.exs.get _ (List.contains_iff_mem.mp e)).ex
    exact ⟨C, _, _, _, _, PySem.F.excBase_ValueError, b, PySem.W.mg_of X G a, c, d, f, g⟩
theorem fun_uniq {K : PySem.W.Frag} {x q x' q' : Str} {st st' : Stmt} {a : Addr} {fd fd' : FuncData} (F : Fun K x q st a fd) (F' : Fun K x' q' st' a fd') : fd = fd' := by
  obtain ⟨_, _, _, _, _, _, _, _, _, _, l, _⟩ := F.ex
  obtain ⟨_, _, _, _, _, _, _, _, _, _, l', _⟩ := F'.ex
  rw [l] at l'
  cases l'
  rfl
/-- the defs that hold lambdas: where their code objects and tables lie -/
structure LamIn (K : PySem.W.Frag) (l : List (Str × Addr × Addr)) : Prop where
  names : l.map (·.1) = lamDefs
  at_ : AllP (fun p => PySem.W.tabIn K p.1 = some p.2) l
  nd : nodupN (l.map (·.2.2)) = true
  no : AllP (fun p => K.lookup p.2.2 = none) l
theorem tabIn_mk {K : PySem.W.Frag} {x : Str} {f c P : Addr} {oc oc2 : Value} {od od2 : Option Addr} {fd : FuncData} {vs : Array Value} {sl sl2 : Array (Option Value)} (h1 : PySem.W.nsIn K mainGlobals x = some (some (.ref f))) (h2 : K.lookup f = some ⟨oc, od, .func fd, sl⟩) (h3 : fd.code = .ref c)
    (h4 : K.lookup c = some ⟨oc2, od2, .fields vs, sl2⟩) (h5 : (vs[11]? : Option Value) = some (.ref P)) : PySem.W.tabIn K x = some (c, P) := by
  unfold PySem.W.tabIn
  simp only [h1, h2, h3, h4, h5]
theorem tabIn_inv {K : PySem.W.Frag} {x : Str} {c P : Addr} (h : PySem.W.tabIn K x = some (c, P)) : ∃ f, PySem.W.nsIn K mainGlobals x = some (some (.ref f)) ∧ CdAt K f (.ref c) := by
  unfold PySem.W.tabIn at h
  split at h
  · rename_i f hf
    refine ⟨f, hf, ?_⟩
    split at h
    · rename_i oc od fd sl hl
      split at h
      · rename_i c' hc
        split at h
        · split at h
          · cases h
            exact ⟨_, _, _, _, hl, hc⟩
          · cases h
        · cases h
      · cases h
    · cases h
  · cases h
theorem LamIn.tabT {K : PySem.W.Frag} {l : List (Str × Addr × Addr)} (L : LamIn K l) : tabT K = l.map fun p => (p.2.2, p.1 ++ (".<locals>." : Str) ++ ("<lambda>" : Str)) := by
  unfold L2.PyD.tabT
  rw [← L.names]
  have go : ∀ l : List (Str × Addr × Addr), AllP (fun p => PySem.W.tabIn K p.1 = some p.2) l → (l.map (·.1)).filterMap (fun x => (PySem.W.tabIn K x).map fun cp => (cp.2, x ++ (".<locals>." : Str) ++ ("<lambda>" : Str))) = l.map fun p => (p.2.2, p.1 ++ (".<locals>." : Str) ++ ("<lambda>" : Str)) := by
    intro l
    induction l with
    | nil => exact fun _ => rfl
    | cons p r ih =>
      intro h
      rw [List.map_cons, List.filterMap_cons, h.1]
      show _ :: _ = _
      rw [List.map_cons, ih h.2]
  exact go l L.at_
theorem nodupN_inj {α : Type} {f : α → Nat} : ∀ {l : List α}, nodupN (l.map f) = true → ∀ a ∈ l, ∀ b ∈ l, f a = f b → a = b
  | x :: r, h, a, ha, b, hb, e => by
    rw [List.map_cons] at h
    unfold nodupN at h
    rw [Bool.and_eq_true, Bool.not_eq_true'] at h
    have nx : ∀ y ∈ r, f y ≠ f x := fun y hy z => by
      have : (r.map f).contains (f x) = true := List.contains_iff_mem.mpr (List.mem_map.mpr ⟨y, hy, z⟩)
      rw [this] at h
      cases h.1
    rcases List.mem_cons.mp ha with e1 | ha'
    · rcases List.mem_cons.mp hb with e2 | hb'
      · rw [e1, e2]
      · rw [e1] at e
        exact absurd e.symm (nx b hb')
    · rcases List.mem_cons.mp hb with e2 | hb'
      · rw [e2] at e
        exact absurd e (nx a ha')
      · exact nodupN_inj h.2 a ha' b hb' e
theorem LamIn.ok {K : PySem.W.Frag} {l : List (Str × Addr × Addr)} (L : LamIn K l) {h base : Heap} {mg : Str → Option Value} (X : K.In h) (G : h.Ns mainGlobals mg) (B : ∀ p ∈ l.map (·.2), LamX.TabB base mg p.1 p.2) : LamOk K mg base := by
  intro x hx f hf
  rw [← L.names] at hx
  obtain ⟨p, hp, rfl⟩ := List.mem_map.mp hx
  have ht := L.at_.get p hp
  obtain ⟨g, h1, h2⟩ := tabIn_inv ht
  have := PySem.W.mg_of X G h1
  rw [hf] at this
  cases this
  refine ⟨p.2.1, p.2.2, B _ (List.mem_map.mpr ⟨p, hp, rfl⟩), h2, ?_, ?_⟩
  · rw [L.tabT]
    exact List.mem_map.mpr ⟨p, hp, rfl⟩
  · rw [L.tabT]
    intro q hq e
    obtain ⟨p', hp', rfl⟩ := List.mem_map.mp hq
    rw [nodupN_inj (f := fun p : Str × Addr × Addr => p.2.2) L.nd p' hp' p hp e]
/-- the whole of it: from the written part and the law's answer to what k_head asks -/
theorem law_F {l : PySem.W.OpenLaw} {w : World} {K : PySem.W.Frag} {g : Gn} {tbl : List Fd} {sts : List Stmt} {lm : List (Str × Addr × Addr)} {h : Heap} {mg : Str → Option Value} {fa : Addr} {k i : Nat} {f : Fd} (X : K.In h) (G : h.Ns mainGlobals mg) (T : TextIn K g tbl sts) (L : LamIn K lm) (hc : ((tbl.zip sts).all fun p => defB g tbl p.1 p.2) = true)
    (e : tbl[i]? = some f) (hp : f.ps = (["script"] : List Str)) (hm : mg f.name = some (.ref fa)) (hl : ∀ ns : List Int, ns.length ≤ 63 → callN g.G tbl k i [.frl (ns.map D.int)] [] = .ok (.bl true) [])
    (hT : ∀ p ∈ lm, h.get? p.2.2 = some { cls := .none, data := .fields #[] }) (hC : ∀ p ∈ lm, PySem.W.CodeHd h p.2.1 p.2.2) :
    LamX.LawAtS l w K (L2.CX l.prog w) (k + 3) 63 "script" mg fa h := by
  have TO := T.ok X G
  have hb : ∀ (i : Nat) (f : Fd) (st : Stmt), tbl[i]? = some f → sts[i]? = some st → defB g tbl f st = true := fun i f st e1 e2 => by
    rw [List.all_eq_true] at hc
    refine hc (f, st) (List.mem_iff_getElem?.mpr ⟨i, ?_⟩)
    rw [List.getElem?_zip_eq_some]
    exact ⟨e1, e2⟩
  have hi : i < sts.length := by rw [← TO.len]; exact (List.getElem?_eq_some_iff.mp e).1
  obtain ⟨a, fd, F, m, B⟩ := TO.defs i f _ e (List.getElem?_eq_getElem hi)
  rw [hm] at m
  cases m
  refine ⟨fd, lm.map (·.2), spLaw K, fun p hp => ?_, fun p hp => ?_, fun p hp => ?_, fun s u => .of_eq (by rw [hp] at B; exact B [u] rfl), fun H a ns hn hbits hH hS => ⟨a, ns, rfl, fix_of hS, tabs_of fun p hp => ?_, hn, fun _ => rfl⟩, fun base _ _ hB => ?_⟩
  · obtain ⟨q, hq, rfl⟩ := List.mem_map.mp hp
    exact hT q hq
  · obtain ⟨q, hq, rfl⟩ := List.mem_map.mp hp
    exact L.no.get q hq
  · obtain ⟨q, hq, rfl⟩ := List.mem_map.mp hp
    exact hC q hq
  · rw [L.tabT] at hp
    obtain ⟨q, hq, rfl⟩ := List.mem_map.mp hp
    exact hH q.2 (List.mem_map.mpr ⟨q, hq, rfl⟩)
  · obtain ⟨fd', ⟨_, F'⟩, ok⟩ := law_ok (all_ok (P := l.prog) (w := w) (base := base) TO (L.ok X G hB) hb k) e hp hm hl
    rw [fun_uniq F F']
    exact ok
/-- the end, where defs hold lambdas -/
theorem walk_ofL {l : PySem.W.OpenLaw} {n k : Nat} {q : Program} {loose : List Str} {XP : (Str → Option Value) → Heap → Prop} {YP : World → Heap → Prop} {d : DefRec} {K : Params → PySem.W.Frag} {CX : World → CXT} {x : Str} {lx : List (Str × Addr × Addr)}
    (hn : l.most = some n) (hn2 : n ≤ sizeLine) (hdf : d.params.defaults = []) (hr : Room k callerA) (hY : ∀ (w : World) (h : Heap), YP w h → (K w.params).In h)
    (hrec : (lx.all fun p => ((recsOf q).find? (fun e => e.name == p.1)).isSome) = true) (hat : ∀ w : World, AllP (fun p => PySem.W.tabIn (K w.params) p.1 = some p.2) lx)
    (F : ∀ (w : World) (mg : Str → Option Value) (fa : Addr) (h : Heap), YP w h → (K w.params).In h → h.Ns mainGlobals mg → mg d.name = some (.ref fa) → (∀ p ∈ lx, h.get? p.2.2 = some { cls := .none, data := .fields #[] }) → (∀ p ∈ lx, PySem.W.CodeHd h p.2.1 p.2.2) → LamX.LawAtS l w (K w.params) (CX w) k n x mg fa h)
    (hCX : ∀ (w : World) (H : Hp) (s : Shared) (e : Value) (s' : Shared), CX w [] H s (fun _ _ _ => False) e s' → False) :
    PySem.W.WalkO q loose XP YP l.row.toRowW d [] (fun f vs => PySem.call f vs) := by
  refine Att.attach_callB hn hdf fun w s₀ s₁ mg mb fa o pm cd doc a vs ns G Y ho hd hcd hmg hobj hints hlen hbits hg => ?_
  have KX := hY w _ Y
  have TH : ∀ p ∈ lx, PySem.W.CodeHd s₁.heap p.2.1 p.2.2 ∧ s₁.heap.get? p.2.2 = some { cls := .none, data := .fields #[] } := fun p hp => by
    have h1 := List.all_eq_true.mp hrec p hp
    obtain ⟨d', hd'⟩ := Option.isSome_iff_exists.mp h1
    exact PySem.W.tab_of G.T KX hd' ((hat w).get p hp)
  obtain ⟨fd, cs, sp, hT, nT, C, hb, hsp, hF⟩ := F w mg fa _ Y KX G.T.g hmg (fun p hp => (TH p hp).2) fun p hp => (TH p hp).1
  exact LamX.law_callTs KX G.T.g G.T.b G.T.builtins G.T.nolimit hg hT nT C G.T.bmain hobj hints (Nat.le_trans hlen hn2) hr hF hb (fun H hH hS => hsp H a ns hlen hbits hH hS) fun H e s' => hCX w H s₁ e s'
end
end L2.PyD
/-! PyD, part 14: how the short forms are reckoned with (rewriting outside in), loops by invariants, leaving, the row. -/
namespace L2.PyD
open PySem PySem.Spec PyProof.Rows
noncomputable section

/-! ### rewriting -/
section
variable {α β : Type} {p : Pr} {env : Env} {st : Store} {a b c t : E} {as : Es}
@[simp ↓] theorem obind_ok {x : α} {f : α → Store → Out β} : (Out.ok x st).bind f = f x st := rfl
@[simp ↓] theorem obind_exc {x : Str} {fs : List (Str × D)} {f : α → Store → Out β} : (Out.exc x fs st).bind f = .exc x fs st := rfl
@[simp ↓] theorem obind_bad {f : α → Store → Out β} : (Out.bad : Out α).bind f = .bad := rfl
@[simp ↓] theorem obind_if {q : Prop} [Decidable q] {x y : Out α} {f : α → Store → Out β} : (if q then x else y).bind f = if q then x.bind f else y.bind f := by split <;> rfl
@[simp ↓] theorem othen_ok {x : α} {f : α → Store → Fs} : (Out.ok x st).then env f = f x st := rfl
@[simp ↓] theorem othen_exc {x : Str} {fs : List (Str × D)} {f : α → Store → Fs} : (Out.exc x fs st).then env f = .exc env x fs st := rfl
@[simp ↓] theorem othen_bad {f : α → Store → Fs} : (Out.bad : Out α).then env f = .bad := rfl
@[simp ↓] theorem othen_if {q : Prop} [Decidable q] {x y : Out α} {f : α → Store → Fs} : (if q then x else y).then env f = if q then x.then env f else y.then env f := by split <;> rfl
@[simp] theorem onox_ok {x : α} : (Out.ok x st).nox = .ok x st := rfl
@[simp] theorem obool_some {x : Bool} : obool (some x) st = .ok x st := rfl
@[simp] theorem fin_some {mu : Bool} {d : D} : fin mu (some (.val d)) st = .ok d st := rfl
@[simp] theorem fin_new {ds : List D} : fin false (some (.newL ds)) st = .ok (.lst ds) st := rfl
@[simp] theorem fin_cell {ds : List D} : fin true (some (.newL ds)) st = .ok (.cell st.length) (st ++ [.lst ds]) := rfl
/-- a value -/
@[simp ↓] theorem v_con {d : D} : (ev p (.con d)).v env st = .ok d st := rfl
@[simp ↓] theorem v_var {i : Nat} : (ev p (.var i)).v env st = match env[i]? with | some (some d) => .ok d st | _ => .bad := rfl
@[simp ↓] theorem v_glb {j : Nat} : (ev p (.glb j)).v env st = .ok (p.G j) st := rfl
@[simp ↓] theorem v_tyn {n : String} : (ev p (.tyn n)).v env st = .ok (.ty n) st := rfl
@[simp ↓] theorem v_tup : (ev p (.tup as)).v env st = (evs p as env st).bind fun ds st1 => if small ds then .ok (.tup ds) st1 else .bad := rfl
@[simp ↓] theorem v_lstT : (ev p (.lst true as)).v env st = (evs p as env st).bind fun ds st1 => if small ds then .ok (.cell st1.length) (st1 ++ [.lst ds]) else .bad := rfl
@[simp ↓] theorem v_lstF : (ev p (.lst false as)).v env st = (evs p as env st).bind fun ds st1 => if small ds then .ok (.lst ds) st1 else .bad := rfl
@[simp ↓] theorem v_bin {mu : Bool} {o : Operator} : (ev p (.bin mu o a b)).v env st = ((ev p a).v env st).bind fun x st1 => ((ev p b).v env st1).bind fun y st2 => fin mu (binG' o st2 x y) st2 := rfl
@[simp ↓] theorem v_neg : (ev p (.neg a)).v env st = ((ev p a).v env st).bind fun x st1 => fin false (gNeg st1 x) st1 := rfl
@[simp ↓] theorem v_cmp {o : CmpOp} : (ev p (.cmp o a b)).v env st = ((ev p (.cmp o a b)).b env st).bind fun x st1 => .ok (.bl x) st1 := rfl
@[simp ↓] theorem v_cmp2 {o o' : CmpOp} : (ev p (.cmp2 o o' a b c)).v env st = ((ev p (.cmp2 o o' a b c)).b env st).bind fun x st1 => .ok (.bl x) st1 := rfl
@[simp ↓] theorem v_and : (ev p (.and a b)).v env st = ((ev p (.and a b)).b env st).bind fun x st1 => .ok (.bl x) st1 := rfl
@[simp ↓] theorem v_or : (ev p (.or a b)).v env st = ((ev p (.or a b)).b env st).bind fun x st1 => .ok (.bl x) st1 := rfl
@[simp ↓] theorem v_not : (ev p (.not a)).v env st = ((ev p (.not a)).b env st).bind fun x st1 => .ok (.bl x) st1 := rfl
@[simp ↓] theorem v_ite : (ev p (.ite t a b)).v env st = ((ev p t).t env st).bind fun k st1 => if k then (ev p a).v env st1 else (ev p b).v env st1 := rfl
@[simp ↓] theorem v_ix : (ev p (.ix a b)).v env st = ((ev p a).v env st).bind fun x st1 => ((ev p b).v env st1).bind fun y st2 => fin false (gIx st2 x y) st2 := rfl
@[simp ↓] theorem v_slc {mu : Bool} {lo hi : O} : (ev p (.slc mu a lo hi)).v env st = ((ev p a).v env st).bind fun x st1 => (evO p lo env st1).bind fun l st2 => (evO p hi env st2).bind fun h st3 => fin mu (gSl st3 x l h) st3 := rfl
@[simp ↓] theorem v_rev {mu : Bool} : (ev p (.rev mu a)).v env st = ((ev p a).v env st).bind fun x st1 => fin mu (gRv st1 x) st1 := rfl
def partI (d : D) (st : Store) : Out (Option Int) := match intO d with
  | some i => .ok (some i) st
  | none => .bad
@[simp] theorem partI_int {i : Int} : partI (.int i) st = .ok (some i) st := rfl
@[simp ↓] theorem o_no : evO p .no env st = .ok none st := rfl
@[simp ↓] theorem o_yes {e : E} : evO p (.yes e) env st = ((ev p e).v env st).bind fun d st1 => partI d st1 := rfl
@[simp] theorem gSl_tup {ds : List D} {lo hi : Option Int} : gSl st (.tup ds) lo hi = some (.val (.tup (cutD ds lo hi))) := rfl
@[simp] theorem gSl_lst {ds : List D} {lo hi : Option Int} : gSl st (.lst ds) lo hi = some (.newL (cutD ds lo hi)) := rfl
@[simp] theorem gRv_tup {ds : List D} : gRv st (.tup ds) = some (.val (.tup ds.reverse)) := rfl
@[simp] theorem gRv_lst {ds : List D} : gRv st (.lst ds) = some (.newL ds.reverse) := rfl
@[simp ↓] theorem v_call {f : Nat} : (ev p (.call f as)).v env st = (evs p as env st).bind fun ds st1 => p.C f ds st1 := rfl
@[simp ↓] theorem v_blt {mu : Bool} {g : Bi} : (ev p (.blt mu g as)).v env st = (evs p as env st).bind fun ds st1 => fin mu (g.g st1 ds) st1 := rfl
@[simp ↓] theorem v_app {o : E} : (ev p (.met .append o as)).v env st = ((ev p o).v env st).bind fun x st1 => if hasT "list" st1 x then (evs p as env st1).bind fun ds st2 => (mAppend st2 x ds).nox else .bad := rfl
@[simp ↓] theorem v_comp {mu : Bool} {it : I} {own : List (Str × Nat)} {tt : T} {e : E} : (ev p (.comp mu it own tt e)).v env st = (evI p it env st).bind fun it st1 => (compL st1.length it.2 (wipeE env (own.map (·.2))) (tg tt) bYes (ev p e).v it.1 (st1 ++ [.lst []])).bind fun _ s => give mu st1 s := rfl
@[simp ↓] theorem v_compIf {mu : Bool} {it : I} {own : List (Str × Nat)} {tt : T} {e : E} : (ev p (.compIf mu it own tt c e)).v env st = (evI p it env st).bind fun it st1 => (compL st1.length it.2 (wipeE env (own.map (·.2))) (tg tt) (ev p c).t (ev p e).v it.1 (st1 ++ [.lst []])).bind fun _ s => give mu st1 s := rfl
@[simp ↓] theorem v_comp2 {mu : Bool} {it it1 : I} {own : List (Str × Nat)} {tt t1 : T} {vs1 : List Nat} {e : E} : (ev p (.comp2 mu it own tt it1 vs1 t1 e)).v env st = (evI p it env st).bind fun it st1 => (compL2 st1.length it.2 (wipeE env (own.map (·.2))) (tg tt) bYes (evI p it1) vs1 (tg t1) bYes (ev p e).v it.1 (st1 ++ [.lst []])).bind fun _ s => give mu st1 s := rfl
@[simp ↓] theorem v_srtK {mu rev : Bool} {j : Nat} {y : Str} : (ev p (.srtK mu rev a j y b)).v env st = ((ev p a).v env st).bind fun x st1 => fin mu (gSrtK (ev p.low b).v env j rev st1 x) st1 := rfl
def orBad (o : Option D) (st : Store) : Out D := match o with
  | some d => .ok d st
  | none => .bad
@[simp] theorem orBad_some {d : D} : orBad (some d) st = .ok d st := rfl
@[simp ↓] theorem v_maxD {d : E} : (ev p (.maxD a d)).v env st = ((ev p a).v env st).bind fun x st1 => ((ev p d).v env st1).bind fun y st2 => orBad (gMaxD st2 x y) st2 := rfl
@[simp ↓] theorem v_srtS {mu : Bool} : (ev p (.srtS mu a)).v env st = ((ev p a).v env st).bind fun x st1 => fin mu (gSrtS st1 x) st1 := rfl
@[simp ↓] theorem v_sset {mu : Bool} {it : I} {own : List (Str × Nat)} {tt : T} {e : E} : (ev p (.sset mu it own tt e)).v env st = (evI p it env st).bind fun it st1 => (compS it.2 (wipeE env (own.map (·.2))) (tg tt) bYes (ev p e).v it.1 [] st1).bind fun ns s => fin mu (some (.newL (ns.map D.int))) s := rfl
@[simp ↓] theorem v_ssetT {mu : Bool} {it : I} {own : List (Str × Nat)} {tt : T} {e : E} : (ev p (.ssetT mu it own tt e)).v env st = (evI p it env st).bind fun it st1 => (compST it.2 (wipeE env (own.map (·.2))) (tg tt) bYes (ev p e).v it.1 [] st1).bind fun ks s => fin mu (if okT ks then some (.newL (ks.map fun k => .tup (k.map D.int))) else none) s := rfl
/-- dicts -/
@[simp ↓] theorem v_dnew : (ev p .dnew).v env st = .ok (.cell st.length) (st ++ [.dct false []]) := rfl
def getR (o : Option (Option D)) (z : D) (st : Store) : Out D := match o with
  | some r => .ok (r.getD z) st
  | none => .bad
@[simp] theorem getR_some {r : Option D} {z : D} : getR (some r) z st = .ok (r.getD z) st := rfl
@[simp ↓] theorem v_dget {o k x : E} : (ev p (.dget o k x)).v env st = ((ev p o).v env st).bind fun o st1 => if (dctD st1 o).isSome then ((ev p k).v env st1).bind fun k st2 => ((ev p x).v env st2).bind fun z st3 => getR (gDict st3 o k) z st3 else .bad := rfl
def popR (o : Option (D × Store)) : Out D := match o with
  | some r => .ok r.1 r.2
  | none => .bad
@[simp] theorem popR_some {r : D × Store} : popR (some r) = .ok r.1 r.2 := rfl
@[simp ↓] theorem v_dpop {o k : E} : (ev p (.dpop o k)).v env st = ((ev p o).v env st).bind fun o st1 => if (dctD st1 o).isSome then ((ev p k).v env st1).bind fun k st2 => popR (popD st2 o k) else .bad := rfl
@[simp ↓] theorem v_dcomp {it : I} {own : List (Str × Nat)} {tt : T} {k v : E} : (ev p (.dcomp it own tt k v)).v env st = (evI p it env st).bind fun it st1 => (compD st1.length it.2 (wipeE env (own.map (·.2))) (tg tt) bYes (ev p k).v (ev p v).v it.1 (st1 ++ [.dct false []])).bind fun _ s => .ok (.cell st1.length) s := rfl
@[simp ↓] theorem v_dcompIf {it : I} {own : List (Str × Nat)} {tt : T} {k v : E} : (ev p (.dcompIf it own tt c k v)).v env st = (evI p it env st).bind fun it st1 => (compD st1.length it.2 (wipeE env (own.map (·.2))) (tg tt) (ev p c).t (ev p k).v (ev p v).v it.1 (st1 ++ [.dct false []])).bind fun _ s => .ok (.cell st1.length) s := rfl
def keysO (o : Option Kvs) (st : Store) : Out Items := match o with
  | some kvs => .ok (kvs.map fun kv => .tup (kv.1.map D.int), none) st
  | none => .bad
def itemsO (o : Option Kvs) (st : Store) : Out Items := match o with
  | some kvs => .ok (kvs.map fun kv => .tup [.tup (kv.1.map D.int), kv.2], none) st
  | none => .bad
@[simp] theorem keysO_some {kvs : Kvs} : keysO (some kvs) st = .ok (kvs.map fun kv => .tup (kv.1.map D.int), none) st := rfl
@[simp] theorem itemsO_some {kvs : Kvs} : itemsO (some kvs) st = .ok (kvs.map fun kv => .tup [.tup (kv.1.map D.int), kv.2], none) st := rfl
@[simp ↓] theorem i_keys : evI p (.keys a) env st = ((ev p a).v env st).bind fun d st1 => keysO (lockD st1 d) st1 := rfl
@[simp ↓] theorem i_items : evI p (.items a) env st = ((ev p a).v env st).bind fun d st1 => itemsO (lockD st1 d) st1 := rfl
/-- lists of values -/
@[simp ↓] theorem s_nil : evs p .nil env st = .ok [] st := rfl
@[simp ↓] theorem s_cons : evs p (.cons a as) env st = ((ev p a).v env st).bind fun x st1 => (evs p as env st1).bind fun xs st2 => .ok (x :: xs) st2 := rfl
/-- tests -/
def bv (x : D) (st : Store) : Out Bool := match x with
  | .bl b => .ok b st
  | _ => .bad
@[simp] theorem bv_bl {x : Bool} : bv (.bl x) st = .ok x st := rfl
@[simp ↓] theorem t_cmp {o : CmpOp} : (ev p (.cmp o a b)).t env st = (ev p (.cmp o a b)).b env st := rfl
@[simp ↓] theorem t_cmp2 {o o' : CmpOp} : (ev p (.cmp2 o o' a b c)).t env st = (ev p (.cmp2 o o' a b c)).b env st := rfl
@[simp ↓] theorem t_and : (ev p (.and a b)).t env st = ((ev p a).t env st).bind fun k st1 => if k then (ev p b).t env st1 else .ok false st1 := rfl
@[simp ↓] theorem t_or : (ev p (.or a b)).t env st = ((ev p a).t env st).bind fun k st1 => if k then .ok true st1 else (ev p b).t env st1 := rfl
@[simp ↓] theorem t_not : (ev p (.not a)).t env st = ((ev p a).t env st).bind fun k st1 => .ok (!k) st1 := rfl
@[simp ↓] theorem t_con {d : D} : (ev p (.con d)).t env st = obool (truD st d) st := rfl
@[simp ↓] theorem t_var {i : Nat} : (ev p (.var i)).t env st = ((ev p (.var i)).v env st).bind fun d st1 => obool (truD st1 d) st1 := rfl
@[simp ↓] theorem t_glb {i : Nat} : (ev p (.glb i)).t env st = ((ev p (.glb i)).v env st).bind fun d st1 => obool (truD st1 d) st1 := rfl
@[simp ↓] theorem t_bin {mu : Bool} {o : Operator} : (ev p (.bin mu o a b)).t env st = ((ev p (.bin mu o a b)).v env st).bind fun d st1 => obool (truD st1 d) st1 := rfl
@[simp ↓] theorem t_ix : (ev p (.ix a b)).t env st = ((ev p (.ix a b)).v env st).bind fun d st1 => obool (truD st1 d) st1 := rfl
@[simp ↓] theorem t_call {f : Nat} : (ev p (.call f as)).t env st = ((ev p (.call f as)).v env st).bind fun d st1 => obool (truD st1 d) st1 := rfl
@[simp ↓] theorem t_blt {mu : Bool} {g : Bi} : (ev p (.blt mu g as)).t env st = ((ev p (.blt mu g as)).v env st).bind fun d st1 => obool (truD st1 d) st1 := rfl
@[simp ↓] theorem b_cmp {o : CmpOp} : (ev p (.cmp o a b)).b env st = ((ev p a).v env st).bind fun x st1 => ((ev p b).v env st1).bind fun y st2 => obool (cmpG' o st2 x y) st2 := rfl
@[simp ↓] theorem b_cmp2 {o o' : CmpOp} : (ev p (.cmp2 o o' a b c)).b env st = ((ev p a).v env st).bind fun x st1 => ((ev p b).v env st1).bind fun y st2 => (obool (cmpG' o st2 x y) st2).bind fun k st3 => if k then ((ev p c).v env st3).bind fun z st4 => obool (cmpG' o' st4 y z) st4 else .ok false st3 := rfl
@[simp ↓] theorem b_and : (ev p (.and a b)).b env st = ((ev p a).b env st).bind fun k st1 => if k then (ev p b).b env st1 else .ok false st1 := rfl
@[simp ↓] theorem b_or : (ev p (.or a b)).b env st = ((ev p a).b env st).bind fun k st1 => if k then .ok true st1 else (ev p b).b env st1 := rfl
@[simp ↓] theorem b_not : (ev p (.not a)).b env st = ((ev p a).b env st).bind fun k st1 => .ok (!k) st1 := rfl
@[simp ↓] theorem b_con {d : D} : (ev p (.con d)).b env st = bv d st := rfl
@[simp ↓] theorem b_var {i : Nat} : (ev p (.var i)).b env st = ((ev p (.var i)).v env st).bind fun d st1 => bv d st1 := rfl
@[simp ↓] theorem b_ix : (ev p (.ix a b)).b env st = ((ev p (.ix a b)).v env st).bind fun d st1 => bv d st1 := rfl
@[simp ↓] theorem b_call {f : Nat} : (ev p (.call f as)).b env st = ((ev p (.call f as)).v env st).bind fun d st1 => bv d st1 := rfl
@[simp ↓] theorem b_blt {mu : Bool} {g : Bi} : (ev p (.blt mu g as)).b env st = ((ev p (.blt mu g as)).v env st).bind fun d st1 => bv d st1 := rfl
@[simp ↓] theorem b_ite : (ev p (.ite t a b)).b env st = ((ev p (.ite t a b)).v env st).bind fun d st1 => bv d st1 := rfl
/-- what loops walk -/
@[simp ↓] theorem i_val : evI p (.val a) env st = ((ev p a).v env st).bind fun d st1 => oitems (seqD st1 d) st1 := rfl
@[simp ↓] theorem i_rng : evI p (.rng as) env st = (evs p as env st).bind fun ds st1 => oitems (rngD ds) st1 := rfl
@[simp ↓] theorem i_zip : evI p (.zip as) env st = (evs p as env st).bind fun ds st1 => oitems (zipD st1 ds) st1 := rfl
@[simp ↓] theorem i_rng3 : evI p (.rng3 as) env st = (evs p as env st).bind fun ds st1 => oitems (rng3D ds) st1 := rfl
@[simp] theorem zipD_tup {xs ys : List D} : zipD st [.tup xs, .tup ys] = some (zipG xs ys, none) := rfl
@[simp] theorem zipD_lst {xs ys : List D} : zipD st [.lst xs, .lst ys] = some (zipG xs ys, none) := rfl
@[simp ↓] theorem i_enu : evI p (.enu as) env st = (evs p as env st).bind fun ds st1 => oitems (enumD st1 ds) st1 := rfl
@[simp] theorem oitems_some {it : Items} : oitems (some it) st = .ok it st := rfl
/-- statements -/
def sqn (o : Fs) (f : DenS) : Fs := match o with
  | .nx e st1 => f e st1
  | o => o
@[simp ↓] theorem sqn_nx {f : DenS} : sqn (.nx env st) f = f env st := rfl
@[simp ↓] theorem sqn_ret {f : DenS} {d : D} : sqn (.ret d st) f = .ret d st := rfl
@[simp ↓] theorem sqn_brk {f : DenS} : sqn (.brk env st) f = .brk env st := rfl
@[simp ↓] theorem sqn_ct {f : DenS} : sqn (.ct env st) f = .ct env st := rfl
@[simp ↓] theorem sqn_exc {f : DenS} {x : Str} {fs : List (Str × D)} : sqn (.exc env x fs st) f = .exc env x fs st := rfl
@[simp ↓] theorem sqn_if {q : Prop} [Decidable q] {x y : Fs} {f : DenS} : sqn (if q then x else y) f = if q then sqn x f else sqn y f := by split <;> rfl
variable {u v : S} {e o i : E}
@[simp ↓] theorem x_skip : ex p .skip env st = .nx env st := rfl
@[simp ↓] theorem x_pass : ex p .pass env st = .nx env st := rfl
@[simp ↓] theorem x_brk : ex p .brk env st = .brk env st := rfl
@[simp ↓] theorem x_ct : ex p .ct env st = .ct env st := rfl
@[simp ↓] theorem x_seq : ex p (.seq u v) env st = sqn (ex p u env st) (ex p v) := rfl
@[simp ↓] theorem x_rais {x : Str} : ex p (.rais x) env st = .exc env x [] st := rfl
@[simp ↓] theorem x_refu {iw ik jf : Nat} {x : Str} {e1 e2 : E} : ex p (.refu iw ik jf x e1 e2 u) env st = sqn (sRef iw ik jf x (ev p.low e1).v (ev p.low e2).v env st) (ex p u) := rfl
@[simp ↓] theorem x_asg {tt : T} : ex p (.asg tt e) env st = ((ev p e).v env st).then env fun d st1 => ostep (tg tt d env) st1 := rfl
@[simp ↓] theorem x_asgC {k : Nat} : ex p (.asgC k e) env st = ((ev p e).v env st).then env fun d st1 => .nx (env.set k (some d)) st1 := rfl
@[simp ↓] theorem x_ret : ex p (.ret e) env st = ((ev p e).v env st).then env fun d st1 => .ret d st1 := rfl
@[simp ↓] theorem x_retN : ex p .retN env st = .ret .non st := rfl
@[simp ↓] theorem x_expr : ex p (.expr e) env st = ((ev p e).v env st).then env fun _ st1 => .nx env st1 := rfl
@[simp ↓] theorem x_ifs : ex p (.ifs e u v) env st = ((ev p e).t env st).then env fun b st1 => if b then ex p u env st1 else ex p v env st1 := rfl
def par2 (i j : Nat) (env : Env) (ds : List D) (st : Store) : Fs := match ds with
  | [v, w] => .nx ((env.set i (some v)).set j (some w)) st
  | _ => .bad
@[simp] theorem par2_of {i j : Nat} {x y : D} : par2 i j env [x, y] st = .nx ((env.set i (some x)).set j (some y)) st := rfl
@[simp ↓] theorem x_par {i j : Nat} : ex p (.par i j as) env st = (evs p as env st).then env fun ds st1 => par2 i j env ds st1 := rfl
def par3n (i j l : Nat) (env : Env) (ds : List D) (st : Store) : Fs := match ds with
  | [u, v, w] => .nx (((env.set i (some u)).set j (some v)).set l (some w)) st
  | _ => .bad
@[simp] theorem par3_of {i j l : Nat} {x y z : D} : par3n i j l env [x, y, z] st = .nx (((env.set i (some x)).set j (some y)).set l (some z)) st := rfl
@[simp ↓] theorem x_par3 {i j l : Nat} : ex p (.par3 i j l as) env st = (evs p as env st).then env fun ds st1 => par3n i j l env ds st1 := rfl
def onx (o : Option Store) (env : Env) : Fs := match o with
  | some st => .nx env st
  | none => .bad
@[simp] theorem onx_some : onx (some st) env = .nx env st := rfl
@[simp ↓] theorem x_setix : ex p (.setix o i e) env st = ((ev p e).v env st).then env fun v st1 => ((ev p o).v env st1).then env fun o st2 => ((ev p i).v env st2).then env fun i st3 => onx (gSet st3 o i v) env := rfl
@[simp] theorem gSet_int {o v : D} {k : Int} : gSet st o (.int k) v = gSetL st o (.int k) v := rfl
@[simp] theorem gSet_tup {o v : D} {ks : List D} : gSet st o (.tup ks) v = putD st o (.tup ks) v := rfl
@[simp ↓] theorem x_fors {tt : T} {it : I} : ex p (.fors tt it u) env st = (evI p it env st).then env fun it st1 => forL it.2 (tg tt) (ex p u) it.1 env st1 := rfl
def lockW (c : Nat) (f : DenS) (env : Env) (st : Store) : Fs := match st[c]? with
  | some (.dct false kvs) => unlkF c (f env (st.set c (.dct true kvs)))
  | some (.dct true _) => f env st
  | _ => .bad
@[simp ↓] theorem x_lock {k : Nat} : ex p (.lock k u) env st = match env[k]? with | some (some (.cell c)) => lockW c (ex p u) env st | _ => .bad := rfl
theorem lock_free {c : Nat} {f : DenS} {kvs : Kvs} (h : st[c]? = some (.dct false kvs)) : lockW c f env st = unlkF c (f env (st.set c (.dct true kvs))) := by
  unfold lockW
  simp only [h]
theorem unlk_nx {c : Nat} {kvs : Kvs} (h : st[c]? = some (.dct true kvs)) : unlkF c (.nx env st) = .nx env (st.set c (.dct false kvs)) := by
  have : unS c st = some (st.set c (.dct false kvs)) := by unfold unS; simp only [h]
  simp only [unlkF, this]
theorem unlk_ret {c : Nat} {kvs : Kvs} {d : D} (h : st[c]? = some (.dct true kvs)) : unlkF c (.ret d st) = .ret d (st.set c (.dct false kvs)) := by
  have : unS c st = some (st.set c (.dct false kvs)) := by unfold unS; simp only [h]
  simp only [unlkF, this]
@[simp ↓] theorem x_whl : ex p (.whl e u) env st = sWhile (ev p e).t (ex p u) env st := rfl
@[simp] theorem tg_nm {k : Nat} {d : D} : tg (.nm k) d env = some (env.set k (some d)) := rfl
@[simp] theorem ostep_some {e1 : Env} : ostep (some e1) st = .nx e1 st := rfl
theorem tg_tup2 {k l : Nat} {d d' : D} : tg (.tup [k, l]) (.tup [d, d']) env = some ((env.set k (some d)).set l (some d')) := rfl
theorem tg_tup3 {k l m : Nat} {d d' d'' : D} : tg (.tup [k, l, m]) (.tup [d, d', d'']) env = some (((env.set k (some d)).set l (some d')).set m (some d'')) := rfl
theorem tg_tup4 {k l m n : Nat} {d d' d'' d3 : D} : tg (.tup [k, l, m, n]) (.tup [d, d', d'', d3]) env = some ((((env.set k (some d)).set l (some d')).set m (some d'')).set n (some d3)) := rfl
theorem x_augI {k : Nat} {sub : Bool} {x y : Int} {st1 : Store} (h : env[k]? = some (some (.int x))) (h1 : (ev p e).v env st = .ok (.int y) st1) : ex p (.aug k sub e) env st = .nx (env.set k (some (.int (if sub then x - y else x + y)))) st1 := by
  show sAug k (gI yes fun a b => if sub then a - b else a + b) (ev p e).v env st = _
  unfold sAug
  rw [h, h1]
  rfl
def agv (env : Env) (k : Nat) (o : Option Rv) (st : Store) : Fs := match o with
  | some (.val d) => .nx (env.set k (some d)) st
  | _ => .bad
@[simp] theorem agv_some {k : Nat} {d : D} : agv env k (some (.val d)) st = .nx (env.set k (some d)) st := rfl
@[simp] theorem gI_yes {f : Int → Int → Int} {x y : Int} : gI yes f st (.int x) (.int y) = some (.val (.int (f x y))) := rfl
@[simp ↓] theorem x_aug {k : Nat} {sub : Bool} : ex p (.aug k sub e) env st = match env[k]? with
    | some (some x) => ((ev p e).v env st).then env fun y st1 => agv env k (gI yes (fun a b => if sub then a - b else a + b) st1 x y) st1
    | _ => .bad := rfl
/-- operators on ints -/
theorem small_def {ds : List D} : (small ds = true) = (ds.length ≤ sizeLine) := dec_iff
theorem small_of {ds : List D} (h : ds.length ≤ 1000) : small ds = true := dec_eq (Nat.le_trans h (by decide))
@[simp] theorem small0 : small [] = true := small_of (by show 0 ≤ 1000; decide)
@[simp] theorem small1 {d0 : D} : small [d0] = true := small_of (by show 1 ≤ 1000; decide)
@[simp] theorem small2 {d0 d1 : D} : small [d0, d1] = true := small_of (by show 2 ≤ 1000; decide)
@[simp] theorem small3 {d0 d1 d2 : D} : small [d0, d1, d2] = true := small_of (by show 3 ≤ 1000; decide)
@[simp] theorem small4 {d0 d1 d2 d3 : D} : small [d0, d1, d2, d3] = true := small_of (by show 4 ≤ 1000; decide)
@[simp] theorem small5 {d0 d1 d2 d3 d4 : D} : small [d0, d1, d2, d3, d4] = true := small_of (by show 5 ≤ 1000; decide)
@[simp] theorem small6 {d0 d1 d2 d3 d4 d5 : D} : small [d0, d1, d2, d3, d4, d5] = true := small_of (by show 6 ≤ 1000; decide)
@[simp] theorem small7 {d0 d1 d2 d3 d4 d5 d6 : D} : small [d0, d1, d2, d3, d4, d5, d6] = true := small_of (by show 7 ≤ 1000; decide)
@[simp] theorem small8 {d0 d1 d2 d3 d4 d5 d6 d7 : D} : small [d0, d1, d2, d3, d4, d5, d6, d7] = true := small_of (by show 8 ≤ 1000; decide)
@[simp] theorem o_add {x y : Int} : binG' .Add st (.int x) (.int y) = some (.val (.int (x + y))) := rfl
@[simp] theorem o_sub {x y : Int} : binG' .Sub st (.int x) (.int y) = some (.val (.int (x - y))) := rfl
theorem o_mul {x y : Int} (h : mulOk x y) : binG' .Mult st (.int x) (.int y) = some (.val (.int (x * y))) := by
  show gOr gMulI _ st (.int x) (.int y) = _
  have : gMulI st (.int x) (.int y) = some (.val (.int (x * y))) := if_pos h
  unfold gOr
  rw [this]
theorem o_rep {ds : List D} {k : Int} (h : ds.length ≤ 1000) (h1 : -1000 ≤ k) (h2 : k ≤ 1000) : binG' .Mult st (.tup ds) (.int k) = some (.val (.tup (List.replicate k.toNat ds).flatten)) := by
  have h0 : gRepT st (.tup ds) (.int k) = some (.val (.tup (List.replicate k.toNat ds).flatten)) := if_pos (dec_eq ⟨h, h1, h2⟩)
  show gOr gMulI (gOr gRepT gRepL) st (.tup ds) (.int k) = _
  unfold gOr
  rw [show gMulI st (.tup ds) (.int k) = none from rfl]
  simp only [h0]
theorem o_repL {ds : List D} {k : Int} (h : ds.length ≤ 1000) (h1 : -1000 ≤ k) (h2 : k ≤ 1000) : binG' .Mult st (.lst ds) (.int k) = some (.newL (List.replicate k.toNat ds).flatten) := by
  have h0 : gRepL st (.lst ds) (.int k) = some (.newL (List.replicate k.toNat ds).flatten) := if_pos (dec_eq ⟨h, h1, h2⟩)
  show gOr gMulI (gOr gRepT gRepL) st (.lst ds) (.int k) = _
  unfold gOr
  rw [show gMulI st (.lst ds) (.int k) = none from rfl, show gRepT st (.lst ds) (.int k) = none from rfl]
  simp only [h0]
theorem o_addT {a b : List D} (h : small (a ++ b) = true) : binG' .Add st (.tup a) (.tup b) = some (.val (.tup (a ++ b))) := by
  have h0 : gAddT st (.tup a) (.tup b) = some (.val (.tup (a ++ b))) := if_pos h
  rw [show binG' .Add = gOr (gI yes fun i j => i + j) (gOr gAddT (gOr gAddS gAddL)) from rfl]
  unfold gOr
  rw [show gI yes (fun i j => i + j) st (.tup a) (.tup b) = none from rfl]
  simp only [h0]
theorem o_addL {a b : List D} (h : small (a ++ b) = true) : binG' .Add st (.lst a) (.lst b) = some (.newL (a ++ b)) := by
  have h0 : gAddL st (.lst a) (.lst b) = some (.newL (a ++ b)) := if_pos h
  rw [show binG' .Add = gOr (gI yes fun i j => i + j) (gOr gAddT (gOr gAddS gAddL)) from rfl]
  unfold gOr
  rw [show gI yes (fun i j => i + j) st (.lst a) (.lst b) = none from rfl, show gAddT st (.lst a) (.lst b) = none from rfl, show gAddS st (.lst a) (.lst b) = none from rfl]
  simp only [h0]
theorem o_addCL {a b : List D} {i : Nat} (e : st[i]? = some (.lst a)) (h : small (a ++ b) = true) : binG' .Add st (.cell i) (.lst b) = some (.newL (a ++ b)) := by
  have h0 : gAddL st (.cell i) (.lst b) = some (.newL (a ++ b)) := by
    unfold gAddL viewL
    simp only [e]
    exact if_pos h
  rw [show binG' .Add = gOr (gI yes fun i j => i + j) (gOr gAddT (gOr gAddS gAddL)) from rfl]
  unfold gOr
  rw [show gI yes (fun i j => i + j) st (.cell i) (.lst b) = none from rfl, show gAddT st (.cell i) (.lst b) = none from rfl, show gAddS st (.cell i) (.lst b) = none from rfl]
  simp only [h0]
theorem o_div {x y : Int} (h : divOk x y) : binG' .FloorDiv st (.int x) (.int y) = some (.val (.int (x.fdiv y))) := if_pos h
theorem o_mod {x y : Int} (h : y ≠ 0) : binG' .Mod st (.int x) (.int y) = some (.val (.int (x.fmod y))) := if_pos h
theorem o_pow {x y : Int} (h : powOk x y) : binG' .Pow st (.int x) (.int y) = some (.val (.int (x ^ y.toNat))) := if_pos h
@[simp] theorem o_neg {x : Int} : gNeg st (.int x) = some (.val (.int (-x))) := rfl
@[simp] theorem c_lt {x y : Int} : cmpG' .Lt st (.int x) (.int y) = some (decide (x < y)) := rfl
@[simp] theorem c_le {x y : Int} : cmpG' .LtE st (.int x) (.int y) = some (decide (x ≤ y)) := rfl
@[simp] theorem c_gt {x y : Int} : cmpG' .Gt st (.int x) (.int y) = some (decide (y < x)) := rfl
@[simp] theorem c_ge {x y : Int} : cmpG' .GtE st (.int x) (.int y) = some (decide (y ≤ x)) := rfl
@[simp] theorem c_is {x : D} : cmpG' .Is st x .non = some (isNonD x) := rfl
@[simp] theorem c_isnot {x : D} : cmpG' .IsNot st x .non = some (!isNonD x) := rfl
@[simp] theorem nonD_non : isNonD .non = true := rfl
@[simp] theorem nonD_int {x : Int} : isNonD (.int x) = false := rfl
@[simp] theorem nonD_bl {x : Bool} : isNonD (.bl x) = false := rfl
@[simp] theorem nonD_tup {x : List D} : isNonD (.tup x) = false := rfl
@[simp] theorem nonD_lst {x : List D} : isNonD (.lst x) = false := rfl
theorem eqv_int (x y : Int) : PyData.eqv (.int x) (.int y) = decide (x = y) := by
  simp [PyData.eqv]
  rfl
theorem eqv_bool (x y : Bool) : PyData.eqv (.bool x) (.bool y) = (x == y) := by
  cases x <;> cases y <;> decide
@[simp] theorem c_eqI {x y : Int} : cmpG' .Eq st (.int x) (.int y) = some (decide (x = y)) := congrArg some (eqv_int x y)
@[simp] theorem c_neI {x y : Int} : cmpG' .NotEq st (.int x) (.int y) = some (!decide (x = y)) := congrArg (fun b => some (!b)) (eqv_int x y)
@[simp] theorem c_eqB {x y : Bool} : cmpG' .Eq st (.bl x) (.bl y) = some (x == y) := congrArg some (eqv_bool x y)
@[simp] theorem c_neB {x y : Bool} : cmpG' .NotEq st (.bl x) (.bl y) = some (!(x == y)) := congrArg (fun b => some (!b)) (eqv_bool x y)
@[simp] theorem tru_bl {x : Bool} : truD st (.bl x) = some x := rfl
@[simp] theorem tru_int {x : Int} : truD st (.int x) = some (x != 0) := rfl
@[simp] theorem tru_non : truD st .non = some false := rfl
@[simp] theorem tru_tup {ds : List D} : truD st (.tup ds) = some (!ds.isEmpty) := rfl
@[simp] theorem tru_lst {ds : List D} : truD st (.lst ds) = some (!ds.isEmpty) := rfl
@[simp] theorem len_tup {ds : List D} : Bi.g .len st [.tup ds] = some (.val (.int ds.length)) := rfl
@[simp] theorem len_lst {ds : List D} : Bi.g .len st [.lst ds] = some (.val (.int ds.length)) := rfl
@[simp] theorem len_frl {ds : List D} : Bi.g .len st [.frl ds] = some (.val (.int ds.length)) := rfl
theorem len_cell {ds : List D} {n : Nat} (h : st[n]? = some (.lst ds)) : Bi.g .len st [.cell n] = some (.val (.int ds.length)) := by
  show gLen st (.cell n) = _
  unfold gLen
  simp only [h]
@[simp] theorem int_int {x : Int} : Bi.g .int st [.int x] = some (.val (.int x)) := rfl
@[simp] theorem max_int {x y : Int} : Bi.g .max2 st [.int x, .int y] = some (.val (.int (if y > x then y else x))) := rfl
@[simp] theorem min_int {x y : Int} : Bi.g .min2 st [.int x, .int y] = some (.val (.int (if y < x then y else x))) := rfl
@[simp] theorem gcd_int {x y : Int} : Bi.g .gcd st [.int x, .int y] = some (.val (.int (gcdI x y))) := rfl
theorem comb_int {x y : Int} (h : combOk x y) : Bi.g .comb st [.int x, .int y] = some (.val (.int (PySem.W.mcComb x y))) := if_pos h
@[simp] theorem tup_tup {ds : List D} : Bi.g .tuple st [.tup ds] = some (.val (.tup ds)) := rfl
@[simp] theorem tup_lst {ds : List D} : Bi.g .tuple st [.lst ds] = some (.val (.tup ds)) := rfl
@[simp] theorem tup_frl {ds : List D} : Bi.g .tuple st [.frl ds] = some (.val (.tup ds)) := rfl
theorem isi_one {x : D} {n t : String} {r : Bool} (h : tyD st x = some t) (h2 : kitB t n = some r) : Bi.g .isi st [x, .ty n] = some (.val (.bl r)) := by
  show gIsi st x (.ty n) = _
  unfold gIsi
  rw [h]
  simp only [h2]
@[simp] theorem isi_int_int {x : Int} : Bi.g .isi st [.int x, .ty "int"] = some (.val (.bl true)) := isi_one rfl (by decide +kernel)
@[simp] theorem isi_int_bool {x : Int} : Bi.g .isi st [.int x, .ty "bool"] = some (.val (.bl false)) := isi_one rfl (by decide +kernel)
@[simp] theorem isi_int_str {x : Int} : Bi.g .isi st [.int x, .ty "str"] = some (.val (.bl false)) := isi_one rfl (by decide +kernel)
@[simp] theorem isi_int_list {x : Int} : Bi.g .isi st [.int x, .ty "list"] = some (.val (.bl false)) := isi_one rfl (by decide +kernel)
@[simp] theorem isi_int_tuple {x : Int} : Bi.g .isi st [.int x, .ty "tuple"] = some (.val (.bl false)) := isi_one rfl (by decide +kernel)
@[simp] theorem isi_bl_int {x : Bool} : Bi.g .isi st [.bl x, .ty "int"] = some (.val (.bl true)) := isi_one rfl (by decide +kernel)
@[simp] theorem isi_bl_bool {x : Bool} : Bi.g .isi st [.bl x, .ty "bool"] = some (.val (.bl true)) := isi_one rfl (by decide +kernel)
@[simp] theorem isi_bl_str {x : Bool} : Bi.g .isi st [.bl x, .ty "str"] = some (.val (.bl false)) := isi_one rfl (by decide +kernel)
@[simp] theorem isi_tup_tup {x : List D} : Bi.g .isi st [.tup x, .ty "tuple"] = some (.val (.bl true)) := isi_one rfl (by decide +kernel)
@[simp] theorem isi_tup_lst {x : List D} : Bi.g .isi st [.tup x, .ty "list"] = some (.val (.bl false)) := isi_one rfl (by decide +kernel)
@[simp] theorem isi_lst_lst {x : List D} : Bi.g .isi st [.lst x, .ty "list"] = some (.val (.bl true)) := isi_one rfl (by decide +kernel)
@[simp] theorem isi_lst_tup {x : List D} : Bi.g .isi st [.lst x, .ty "tuple"] = some (.val (.bl false)) := isi_one rfl (by decide +kernel)
theorem isi_two {x : D} {n m t : String} {r r' : Bool} (h : tyD st x = some t) (h2 : kitB t n = some r) (h3 : kitB t m = some r') : Bi.g .isi st [x, .tup [.ty n, .ty m]] = some (.val (.bl (r || r'))) := by
  show gIsi st x (.tup [.ty n, .ty m]) = _
  unfold gIsi
  rw [h]
  have e : kitL t [n, m] = some (r || r') := by
    unfold kitL
    rw [h2]
    cases r
    · unfold kitL
      rw [h3]
      cases r' <;> rfl
    · rfl
  simp only [tysOf, e]
@[simp] theorem isi_int_seq {x : Int} : Bi.g .isi st [.int x, .tup [.ty "tuple", .ty "list"]] = some (.val (.bl false)) := isi_two (r := false) (r' := false) rfl (by decide +kernel) (by decide +kernel)
@[simp] theorem isi_bl_seq {x : Bool} : Bi.g .isi st [.bl x, .tup [.ty "tuple", .ty "list"]] = some (.val (.bl false)) := isi_two (r := false) (r' := false) rfl (by decide +kernel) (by decide +kernel)
@[simp] theorem isi_tup_seq {x : List D} : Bi.g .isi st [.tup x, .tup [.ty "tuple", .ty "list"]] = some (.val (.bl true)) := isi_two (r := true) (r' := false) rfl (by decide +kernel) (by decide +kernel)
@[simp] theorem isi_lst_seq {x : List D} : Bi.g .isi st [.lst x, .tup [.ty "tuple", .ty "list"]] = some (.val (.bl true)) := isi_two (r := false) (r' := true) rfl (by decide +kernel) (by decide +kernel)
end
end
end L2.PyD
/-! PyD, part 15: loops by invariants, leaving a def, the law's row. -/
namespace L2.PyD
open PySem PySem.Spec PyProof.Rows
noncomputable section

theorem forL_nx {src : Option (Nat × Cell)} {g : DenT} {b : DenS} {xs : List D} (I : Nat → Env → Store → Prop) (hs : ∀ i x env st, xs[i]? = some x → I i env st → ∃ e1, g x env = some e1 ∧ ∃ e2 st2, (b e1 st = .nx e2 st2 ∨ b e1 st = .ct e2 st2) ∧ Gd src st2 ∧ I (i + 1) e2 st2) :
    ∀ (env : Env) (st : Store), I 0 env st → ∃ e' st', forL src g b xs env st = .nx e' st' ∧ I xs.length e' st' := by
  induction xs generalizing I with
  | nil => exact fun env st h => ⟨env, st, rfl, h⟩
  | cons x xs ih =>
    intro env st h
    obtain ⟨e1, h1, e2, st2, h2, h3, h4⟩ := hs 0 x env st rfl h
    obtain ⟨e', st', h5, h6⟩ := ih (fun i => I (i + 1)) (fun i y env st hy hi => hs (i + 1) y env st hy hi) e2 st2 h4
    refine ⟨e', st', ?_, h6⟩
    unfold forL
    rw [h1]
    rcases h2 with h2 | h2
    · simp only [h2, if_pos h3]; exact h5
    · simp only [h2, if_pos h3]; exact h5
theorem while_nx {t : DenB} {b : DenS} (I : Nat → Env → Store → Prop) (Q : Env → Store → Prop) (hs : ∀ n env st, I n env st → (∃ st1, t env st = .ok false st1 ∧ Q env st1) ∨ ∃ st1 e2 st2 m, t env st = .ok true st1 ∧ (((b env st1 = .nx e2 st2 ∨ b env st1 = .ct e2 st2) ∧ m < n ∧ I m e2 st2) ∨ (b env st1 = .brk e2 st2 ∧ Q e2 st2))) :
    ∀ (n : Nat) (env : Env) (st : Store), I n env st → ∃ e' st', sWhile t b env st = .nx e' st' ∧ Q e' st' := by
  intro n
  induction n using Nat.strongRecOn with
  | ind n ih =>
    intro env st h
    rcases hs n env st h with ⟨st1, h1, h2⟩ | ⟨st1, e2, st2, m, h1, h2⟩
    · exact ⟨env, st1, by rw [sWhile_eq, h1]; rfl, h2⟩
    · rcases h2 with ⟨h2, h3, h4⟩ | ⟨h2, h3⟩
      · obtain ⟨e', st', h5, h6⟩ := ih m h3 e2 st2 h4
        refine ⟨e', st', ?_, h6⟩
        rw [sWhile_eq, h1]
        rcases h2 with h2 | h2
        · simp only [othen_ok, if_true, h2]; exact h5
        · simp only [othen_ok, if_true, h2]; exact h5
      · exact ⟨e2, st2, by rw [sWhile_eq, h1]; simp only [othen_ok, if_true, h2], h3⟩

/-! ### leaving -/
theorem closed_of {st0 s : Store} (h : st0.length ≤ s.length) (hc : ∀ (i : Nat) (c : Cell), s[i]? = some c → i < st0.length → st0[i]? = some c ∨ c.undr st0.length = true) : Closed st0 s := by
  refine ⟨h, fun c m => ?_⟩
  obtain ⟨i, e⟩ := List.mem_iff_getElem?.mp m
  have hi : i < st0.length := by
    have := (List.getElem?_eq_some_iff.mp e).1
    rw [List.length_take] at this
    omega
  rw [List.getElem?_take_of_lt hi] at e
  rcases hc i c e hi with h | h
  · exact .inl (List.mem_of_getElem? h)
  · exact .inr h
theorem closed_app (st0 t : Store) : Closed st0 (st0 ++ t) := closed_of (by simp) fun i c e hi => .inl (by rw [List.getElem?_append_left hi] at e; exact e)
theorem closed_self (st0 : Store) : Closed st0 st0 := closed_of (Nat.le_refl _) fun i c e hi => .inl e
theorem closed_set {st0 : Store} {j : Nat} {c : Cell} (h : c.undr st0.length = true) (t : Store) : Closed st0 (st0.set j c ++ t) := closed_of (by simp) fun i d e hi => by
  rw [List.getElem?_append_left (by simpa using hi), List.getElem?_set] at e
  split at e
  · split at e
    · cases e; exact .inr h
    · cases e
  · exact .inl e
theorem leave_top {st0 s : Store} {d : D} (hc : Closed st0 s) (hd : d.undr st0.length = true) : leave st0 s d = .ok d (s.take st0.length) := by
  have e : frz s st0.length frzDepth d = some d := by
    show frz s st0.length 6 d = some d
    unfold frz
    rw [if_pos hd]
  unfold leave
  rw [if_pos hc, e]
@[simp] theorem leave_int {st0 : Store} {i : Int} : leave st0 st0 (.int i) = .ok (.int i) st0 := by rw [leave_top (closed_self _) rfl, List.take_length]
@[simp] theorem leave_bl {st0 : Store} {i : Bool} : leave st0 st0 (.bl i) = .ok (.bl i) st0 := by rw [leave_top (closed_self _) rfl, List.take_length]
@[simp] theorem leave_non {st0 : Store} : leave st0 st0 .non = .ok .non st0 := by rw [leave_top (closed_self _) rfl, List.take_length]
theorem leave_self {st0 : Store} {d : D} (hd : d.undr st0.length = true) : leave st0 st0 d = .ok d st0 := by rw [leave_top (closed_self _) hd, List.take_length]
@[simp] theorem leave_intA {st0 t : Store} {i : Int} : leave st0 (st0 ++ t) (.int i) = .ok (.int i) st0 := by rw [leave_top (closed_app _ _) rfl, List.take_left]
@[simp] theorem leave_blA {st0 t : Store} {i : Bool} : leave st0 (st0 ++ t) (.bl i) = .ok (.bl i) st0 := by rw [leave_top (closed_app _ _) rfl, List.take_left]
@[simp] theorem leave_nonA {st0 t : Store} : leave st0 (st0 ++ t) .non = .ok .non st0 := by rw [leave_top (closed_app _ _) rfl, List.take_left]
theorem leave_A {st0 t : Store} {d : D} (hd : d.undr st0.length = true) : leave st0 (st0 ++ t) d = .ok d st0 := by rw [leave_top (closed_app _ _) hd, List.take_left]
theorem leave_set {st0 : Store} {j : Nat} {c : Cell} {d : D} (h : c.undr st0.length = true) (hd : d.undr st0.length = true) : leave st0 (st0.set j c) d = .ok d (st0.set j c) := by
  have := leave_top (closed_set (j := j) h []) hd
  rw [List.append_nil] at this
  rw [this, List.take_of_length_le (by simp)]
theorem undrL_ints (n : Nat) : ∀ ns : List Int, D.undrL n (ns.map D.int) = true
  | [] => rfl
  | _ :: r => by
    rw [List.map_cons]
    unfold D.undrL
    rw [undrL_ints n r]
    rfl
theorem undrL_all {n : Nat} : ∀ {ds : List D}, (∀ d ∈ ds, d.undr n = true) → D.undrL n ds = true
  | [], _ => rfl
  | d :: r, h => by
    unfold D.undrL
    rw [h d (List.mem_cons_self ..), undrL_all fun x m => h x (List.mem_cons_of_mem _ m)]
    rfl
theorem undrL_mem {n : Nat} : ∀ {ds : List D}, D.undrL n ds = true → ∀ d ∈ ds, d.undr n = true
  | e :: r, h, d, m => by
    unfold D.undrL at h
    rw [Bool.and_eq_true] at h
    rcases List.mem_cons.mp m with q | m
    · subst q; exact h.1
    · exact undrL_mem h.2 d m
theorem frz_flat {s : Store} {n k : Nat} {d : D} (h : d.undr n = true) : frz s n k d = some d := by
  cases k with
  | zero => unfold frz; rw [if_pos h]
  | succ k => unfold frz; rw [if_pos h]
theorem mapO_id {f : D → Option D} : ∀ {ds : List D}, (∀ d ∈ ds, f d = some d) → mapO f ds = some ds
  | [], _ => rfl
  | d :: r, h => by
    unfold mapO
    rw [h d (List.mem_cons_self ..), mapO_id fun x m => h x (List.mem_cons_of_mem _ m)]
/-- an own list is given back: it stands still -/
theorem leave_cell {st0 t : Store} {j : Nat} {ds : List D} (hj : st0.length ≤ j) (e : (st0 ++ t)[j]? = some (.lst ds)) (hd : D.undrL st0.length ds = true) : leave st0 (st0 ++ t) (.cell j) = .ok (.lst ds) st0 := by
  have e2 : frz (st0 ++ t) st0.length frzDepth (.cell j) = some (.lst ds) := by
    show frz (st0 ++ t) st0.length 6 (.cell j) = some (.lst ds)
    unfold frz
    have : ¬ (D.cell j).undr st0.length = true := by
      unfold D.undr
      simp only [decide_eq_true_eq]
      omega
    rw [if_neg this]
    simp only [e]
    rw [mapO_id fun d m => frz_flat (undrL_mem hd d m)]
    rfl
  unfold leave
  rw [if_pos (closed_app _ _), e2]
  simp only [List.take_left]
theorem give_new {st1 : Store} {ds : List D} (hd : D.undrL st1.length ds = true) : give false st1 (st1 ++ [.lst ds]) = .ok (.lst ds) st1 := by
  unfold give
  simp only [Bool.false_eq_true, if_false]
  exact leave_cell (Nat.le_refl _) (by simp) hd
@[simp] theorem give_mut {st1 s : Store} : give true st1 s = .ok (.cell st1.length) s := rfl

/-! ### comprehensions -/
theorem push_last {st1 : Store} {acc : List D} {y : D} (h : acc.length < sizeLine) : push st1.length y (st1 ++ [.lst acc]) = some (st1 ++ [.lst (acc ++ [y])]) := by
  unfold push
  have : (st1 ++ [Cell.lst acc])[st1.length]? = some (.lst acc) := by simp
  rw [this]
  simp only [if_pos (dec_eq h)]
  rw [List.set_append_right _ _ (Nat.le_refl _), Nat.sub_self]
  rfl
theorem compL_inv {src : Option (Nat × Cell)} {env0 : Env} {g : DenT} {c : DenB} {e : Den} {n : Nat} {xs : List D} (J : Nat → List D → Store → Prop)
    (hs : ∀ i x acc st, xs[i]? = some x → st.length = n → acc.length ≤ i → J i acc st → ∃ e1, g x env0 = some e1 ∧ ∃ b st2, c e1 (st ++ [.lst acc]) = .ok b (st2 ++ [.lst acc]) ∧ st2.length = n ∧ (b = false → Gd src (st2 ++ [.lst acc]) ∧ J (i + 1) acc st2) ∧
      (b = true → ∃ y st3, e e1 (st2 ++ [.lst acc]) = .ok y (st3 ++ [.lst acc]) ∧ st3.length = n ∧ Gd src (st3 ++ [.lst (acc ++ [y])]) ∧ J (i + 1) (acc ++ [y]) st3)) :
    ∀ st : Store, st.length = n → xs.length ≤ sizeLine → J 0 [] st → ∃ acc' st', compL n src env0 g c e xs (st ++ [.lst []]) = .ok () (st' ++ [.lst acc']) ∧ st'.length = n ∧ J xs.length acc' st' := by
  intro st hn hz hJ
  have go : ∀ (xs : List D) (j : Nat) (J : Nat → List D → Store → Prop), (∀ i x acc st, xs[i]? = some x → st.length = n → acc.length ≤ j + i → J i acc st → ∃ e1, g x env0 = some e1 ∧ ∃ b st2, c e1 (st ++ [.lst acc]) = .ok b (st2 ++ [.lst acc]) ∧ st2.length = n ∧ (b = false → Gd src (st2 ++ [.lst acc]) ∧ J (i + 1) acc st2) ∧
      (b = true → ∃ y st3, e e1 (st2 ++ [.lst acc]) = .ok y (st3 ++ [.lst acc]) ∧ st3.length = n ∧ Gd src (st3 ++ [.lst (acc ++ [y])]) ∧ J (i + 1) (acc ++ [y]) st3)) → ∀ (acc : List D) (st : Store), st.length = n → acc.length ≤ j → j + xs.length ≤ sizeLine → J 0 acc st → ∃ acc' st', compL n src env0 g c e xs (st ++ [.lst acc]) = .ok () (st' ++ [.lst acc']) ∧ st'.length = n ∧ J xs.length acc' st' := by
    intro xs
    induction xs with
    | nil => exact fun j J hs acc st hn hk hz hJ => ⟨acc, st, rfl, hn, hJ⟩
    | cons x xs ih =>
      intro j J hs acc st hn hk hz hJ
      rw [List.length_cons] at hz
      obtain ⟨e1, h1, b, st2, h2, h3, h4, h5⟩ := hs 0 x acc st rfl hn hk hJ
      have hs' : ∀ i y acc st, xs[i]? = some y → st.length = n → acc.length ≤ j + 1 + i → J (i + 1) acc st → ∃ e1, g y env0 = some e1 ∧ ∃ b st2, c e1 (st ++ [.lst acc]) = .ok b (st2 ++ [.lst acc]) ∧ st2.length = n ∧ (b = false → Gd src (st2 ++ [.lst acc]) ∧ J (i + 1 + 1) acc st2) ∧
      (b = true → ∃ y st3, e e1 (st2 ++ [.lst acc]) = .ok y (st3 ++ [.lst acc]) ∧ st3.length = n ∧ Gd src (st3 ++ [.lst (acc ++ [y])]) ∧ J (i + 1 + 1) (acc ++ [y]) st3) := fun i y acc st hy hn hl hj => hs (i + 1) y acc st hy hn (by omega) hj
      unfold compL
      rw [h1]
      simp only [h2, onox_ok, obind_ok]
      cases b with
      | false =>
        obtain ⟨g1, g2⟩ := h4 rfl
        obtain ⟨acc', st', q1, q2, q3⟩ := ih (j + 1) (fun i => J (i + 1)) hs' acc st2 h3 (by omega) (by omega) g2
        exact ⟨acc', st', by simp only [Bool.false_eq_true, if_false, if_pos g1]; exact q1, q2, q3⟩
      | true =>
        obtain ⟨y, st3, g0, g1, g2, g3⟩ := h5 rfl
        obtain ⟨acc', st', q1, q2, q3⟩ := ih (j + 1) (fun i => J (i + 1)) hs' (acc ++ [y]) st3 g1 (by rw [List.length_append]; exact Nat.add_le_add_right hk 1) (by omega) g3
        refine ⟨acc', st', ?_, q2, q3⟩
        have hp : push n y (st3 ++ [.lst acc]) = some (st3 ++ [.lst (acc ++ [y])]) := by
          rw [← g1]
          exact push_last (by omega)
        simp only [if_true, g0, onox_ok, obind_ok, hp, if_pos g2]
        exact q1
  exact go xs 0 J (fun i x acc st hx hn hl hj => hs i x acc st hx hn (by omega) hj) [] st hn (Nat.zero_le _) (by omega) hJ
theorem callN_eq {G : Nat → D} {tbl : List Fd} {k i : Nat} {f : Fd} (h : tbl[i]? = some f) (ds : List D) (st : Store) : callN G tbl (k + 1) i ds st = dBody f.N.length (ex (prN G tbl k) f.body) ds st := by
  rw [callN_body h]
/-- how a def ends -/
noncomputable def out (st : Store) : Fs → Out D
  | .ret d s => leave st s d
  | .nx _ s => leave st s .non
  | .exc _ x fs s => leaveX st s x fs
  | _ => .bad
@[simp ↓] theorem out_ret {st s : Store} {d : D} : out st (.ret d s) = leave st s d := rfl
@[simp ↓] theorem out_nx {st s : Store} {e : Env} : out st (.nx e s) = leave st s .non := rfl
@[simp ↓] theorem out_exc {st s : Store} {e : Env} {x : Str} {fs : List (Str × D)} : out st (.exc e x fs s) = leaveX st s x fs := rfl
@[simp ↓] theorem out_if {st : Store} {q : Prop} [Decidable q] {x y : Fs} : out st (if q then x else y) = if q then out st x else out st y := by split <;> rfl
theorem dBody_eq (n : Nat) (b : DenS) (ds : List D) (st : Store) : dBody n b ds st = out st (b (startE n ds) st) := by
  unfold dBody out
  cases b (startE n ds) st <;> rfl
theorem call_eq {G : Nat → D} {tbl : List Fd} {k i : Nat} {f : Fd} (h : tbl[i]? = some f) (ds : List D) (st : Store) : callN G tbl (k + 1) i ds st = out st (ex (prN G tbl k) f.body (startE f.N.length ds) st) := by
  rw [callN_eq h, dBody_eq]

/-! ### the law's row -/
def rowC (ns : List Int) (i s t : Int) : Cell := .lst [.frl (ns.map D.int), .int i, .int s, .int t]
structure Row (ns : List Int) (st : Store) (c : Nat) : Prop where
  ex : ∃ i s t : Int, st[c]? = some (rowC ns i s t) ∧ 0 ≤ i ∧ 0 ≤ s ∧ s < 2147483647
def B_taken : S :=
  .seq (.ifs (.cmp .Gt (.ix (.var 0) (.con (.int 3))) (.con (.int 0))) (.seq (.asg (.nm 3) (.bin false .Mod (.blt false .int (.cons (.ix (.var 0) (.con (.int 3))) .nil)) (.var 1)))
  (.seq (.setix (.var 0) (.con (.int 3)) (.bin false .FloorDiv (.ix (.var 0) (.con (.int 3))) (.var 1))) (.seq (.ret (.var 3)) .skip))) (.skip))
  (.seq (.setix (.var 0) (.con (.int 1)) (.bin false .Add (.ix (.var 0) (.con (.int 1))) (.con (.int 1))))
  (.seq (.ifs (.cmp .Gt (.ix (.var 0) (.con (.int 1))) (.blt false .len (.cons (.ix (.var 0) (.con (.int 0))) .nil))) (.seq (.setix (.var 0) (.con (.int 2)) (.bin false .Mod (.blt false .int (.cons (.bin false .Add (.bin false .Mult (.ix (.var 0) (.con (.int 2))) (.con (.int 48271))) (.con (.int 11))) .nil)) (.con (.int 2147483647))))
  (.seq (.ret (.bin false .Mod (.blt false .int (.cons (.bin false .FloorDiv (.ix (.var 0) (.con (.int 2))) (.con (.int 7))) .nil)) (.var 1))) .skip)) (.skip))
  (.seq (.asg (.nm 2) (.ix (.ix (.var 0) (.con (.int 0))) (.bin false .Sub (.ix (.var 0) (.con (.int 1))) (.con (.int 1)))))
  (.seq (.setix (.var 0) (.con (.int 2)) (.bin false .Mod (.blt false .int (.cons (.bin false .Add (.bin false .Add (.bin false .Mult (.ix (.var 0) (.con (.int 2))) (.con (.int 48271))) (.var 2)) (.con (.int 11))) .nil)) (.con (.int 2147483647))))
  (.seq (.ifs (.cmp .GtE (.var 2) (.bin false .Pow (.con (.int 10)) (.con (.int 18)))) (.seq (.setix (.var 0) (.con (.int 3)) (.bin false .FloorDiv (.var 2) (.var 1))) .skip) (.skip))
  (.seq (.ret (.bin false .Mod (.blt false .int (.cons (.var 2) .nil)) (.var 1))) .skip))))))
section
variable {st : Store} {c : Nat} {ns : List Int} {i s t : Int}
theorem ix_row0 (h : st[c]? = some (rowC ns i s t)) : gIx st (.cell c) (.int 0) = some (.val (.frl (ns.map D.int))) := by
  unfold gIx seqD
  simp only [h, rowC]
  rfl
theorem ix_row1 (h : st[c]? = some (rowC ns i s t)) : gIx st (.cell c) (.int 1) = some (.val (.int i)) := by
  unfold gIx seqD
  simp only [h, rowC]
  rfl
theorem ix_row2 (h : st[c]? = some (rowC ns i s t)) : gIx st (.cell c) (.int 2) = some (.val (.int s)) := by
  unfold gIx seqD
  simp only [h, rowC]
  rfl
theorem ix_row3 (h : st[c]? = some (rowC ns i s t)) : gIx st (.cell c) (.int 3) = some (.val (.int t)) := by
  unfold gIx seqD
  simp only [h, rowC]
  rfl
theorem set_row1 {x : Int} (h : st[c]? = some (rowC ns i s t)) : gSetL st (.cell c) (.int 1) (.int x) = some (st.set c (rowC ns x s t)) := by
  unfold gSetL
  simp only [h, rowC]
  rfl
theorem set_row2 {x : Int} (h : st[c]? = some (rowC ns i s t)) : gSetL st (.cell c) (.int 2) (.int x) = some (st.set c (rowC ns i x t)) := by
  unfold gSetL
  simp only [h, rowC]
  rfl
theorem set_row3 {x : Int} (h : st[c]? = some (rowC ns i s t)) : gSetL st (.cell c) (.int 3) (.int x) = some (st.set c (rowC ns i s x)) := by
  unfold gSetL
  simp only [h, rowC]
  rfl
theorem get_set {x : Cell} (h : st[c]? = some x) (y : Cell) : (st.set c y)[c]? = some y := by
  rw [List.getElem?_set_self (List.getElem?_eq_some_iff.mp h).1]
theorem row_undr (n : Nat) : (rowC ns i s t).undr n = true := by
  show (D.undrL n (ns.map D.int) && (true && (true && (true && true)))) = true
  rw [undrL_ints]
  rfl
end
end
end L2.PyD
/-! PyD, part 16: the law's own helpers. -/
namespace L2.PyD
open PySem PySem.Spec PyProof.Rows
noncomputable section
theorem divOk_small {x m : Int} (h0 : 0 < m) (h1 : m < 2 ^ 64) : divOk x m := by
  refine ⟨by omega, ?_⟩
  have h2 : m.natAbs < 2 ^ 64 := by omega
  have h3 : m.natAbs ≠ 0 := by omega
  have := (Nat.log2_lt h3).mpr h2
  omega
theorem pow18 : powOk 10 18 := ⟨by decide, by decide⟩
theorem ten18 : (10 : Int) ^ (18 : Int).toNat = 1000000000000000000 := by decide
theorem ix_frl {st : Store} {ns : List Int} {i : Int} (h0 : 0 ≤ i) (h1 : i < ns.length) : gIx st (.frl (ns.map D.int)) (.int i) = some (.val (.int (ns[i.toNat]'(by omega)))) := by
  unfold gIx seqD
  have e : atI (ns.map D.int) i = some (.int (ns[i.toNat]'(by omega))) := by
    unfold atI ixN
    rw [if_pos h0, if_pos (by simpa using h1)]
    show (ns.map D.int)[i.toNat]? = _
    rw [List.getElem?_map, List.getElem?_eq_getElem (by omega)]
    rfl
  simp only [e]
theorem leave_row {st : Store} {c : Nat} {ns : List Int} {i s t x : Int} : leave st (st.set c (rowC ns i s t)) (.int x) = .ok (.int x) (st.set c (rowC ns i s t)) := leave_set (row_undr _) rfl
theorem taken_ok {G : Nat → D} {tbl : List Fd} {k j : Nat} {f : Fd} (hf : tbl[j]? = some f) (hb : f.body = B_taken) (hN : f.N.length = 4) {ns : List Int} {st : Store} {c : Nat} {m : Int} (R : Row ns st c) (h0 : 0 < m) (h1 : m < 2 ^ 64) :
    ∃ (v : Int) (r' : Cell), callN G tbl (k + 1) j [.cell c, .int m] st = .ok (.int v) (st.set c r') ∧ Row ns (st.set c r') c ∧ 0 ≤ v ∧ v < m := by
  obtain ⟨i, s, t, e, hi, hs, hs2⟩ := R.ex
  have hm : m ≠ 0 := by omega
  have hd : ∀ x, divOk x m := fun x => divOk_small h0 h1
  rw [call_eq hf, hb, hN]
  have e0 : startE 4 [.cell c, .int m] = [some (.cell c), some (.int m), none, none] := rfl
  rw [e0]
  unfold B_taken
  have hp : (0 : Int) < 2147483647 := by decide
  have hml : ∀ x y : Int, 0 ≤ x → x < 2147483647 → mulOk x y := fun x y h1 h2 => .inl (.inl (by omega))
  by_cases ht : 0 < t
  · refine ⟨t.fmod m, rowC ns i s (t.fdiv m), ?_, ⟨i, s, t.fdiv m, get_set e _, hi, hs, hs2⟩, Int.fmod_nonneg_of_pos _ h0, Int.fmod_lt_of_pos _ h0⟩
    simp [ix_row3 e, ht, o_mod hm, o_div (hd t), set_row3 e, leave_row]
  · have e1 := get_set e (rowC ns (i + 1) s t)
    by_cases hl : (ns.length : Int) < i + 1
    · refine ⟨(((s * 48271 + 11).fmod 2147483647).fdiv 7).fmod m, rowC ns (i + 1) ((s * 48271 + 11).fmod 2147483647) t, ?_, ⟨_, _, _, get_set e _, by omega, Int.fmod_nonneg_of_pos _ hp, Int.fmod_lt_of_pos _ hp⟩, Int.fmod_nonneg_of_pos _ h0, Int.fmod_lt_of_pos _ h0⟩
      have e2 := get_set e1 (rowC ns (i + 1) ((s * 48271 + 11).fmod 2147483647) t)
      rw [List.set_set] at e2
      simp [ix_row3 e, ht, ix_row1 e, set_row1 e, ix_row1 e1, ix_row0 e1, hl, ix_row2 e1, o_mul (hml s 48271 hs hs2), o_mod (x := s * 48271 + 11) (y := 2147483647) (by decide), set_row2 e1, ix_row2 e2, o_div (divOk_small (x := (s * 48271 + 11).fmod 2147483647) (m := 7) (by decide) (by decide)), o_mod hm, List.set_set, leave_row]
    · obtain ⟨u, hu⟩ : ∃ u, u = ns[i.toNat]'(by omega) := ⟨_, rfl⟩
      have hx := ix_frl (st := st.set c (rowC ns (i + 1) s t)) (ns := ns) (i := i) hi (by omega)
      rw [← hu] at hx
      have e2 := get_set e1 (rowC ns (i + 1) ((s * 48271 + u + 11).fmod 2147483647) t)
      rw [List.set_set] at e2
      by_cases hc : 1000000000000000000 ≤ u
      · refine ⟨u.fmod m, rowC ns (i + 1) ((s * 48271 + u + 11).fmod 2147483647) (u.fdiv m), ?_, ⟨_, _, _, get_set e _, by omega, Int.fmod_nonneg_of_pos _ hp, Int.fmod_lt_of_pos _ hp⟩, Int.fmod_nonneg_of_pos _ h0, Int.fmod_lt_of_pos _ h0⟩
        simp [ix_row3 e, ht, ix_row1 e, set_row1 e, ix_row1 e1, ix_row0 e1, hl, ix_row2 e1, hx, Int.add_sub_cancel, o_mul (hml s 48271 hs hs2), o_mod (x := s * 48271 + u + 11) (y := 2147483647) (by decide), set_row2 e1, ix_row2 e2, o_pow pow18, ten18, hc, o_div (hd u), set_row3 e2, o_mod hm, List.set_set, leave_row]
      · refine ⟨u.fmod m, rowC ns (i + 1) ((s * 48271 + u + 11).fmod 2147483647) t, ?_, ⟨_, _, _, get_set e _, by omega, Int.fmod_nonneg_of_pos _ hp, Int.fmod_lt_of_pos _ hp⟩, Int.fmod_nonneg_of_pos _ h0, Int.fmod_lt_of_pos _ h0⟩
        simp [ix_row3 e, ht, ix_row1 e, set_row1 e, ix_row1 e1, ix_row0 e1, hl, ix_row2 e1, hx, Int.add_sub_cancel, o_mul (hml s 48271 hs hs2), o_mod (x := s * 48271 + u + 11) (y := 2147483647) (by decide), set_row2 e1, ix_row2 e2, o_pow pow18, ten18, hc, o_mod hm, List.set_set, leave_row]
end
end L2.PyD
/-! PyD, part 17: lists of ints, comprehensions without effects, nested data: equality, order, sorting. -/
namespace L2.PyD
open PySem PySem.Spec PyProof.Rows
noncomputable section

/-! ### ints -/
theorem intsOf_ints : ∀ l : List Int, L2.PyD.intsOf (l.map D.int) = some l
  | [] => rfl
  | x :: r => by rw [List.map_cons, L2.PyD.intsOf, intsOf_ints r]
theorem blsOf_bls : ∀ l : List Bool, blsOf (l.map D.bl) = some l
  | [] => rfl
  | x :: r => by rw [List.map_cons, blsOf, blsOf_bls r]
section
variable {st : Store}
@[simp] theorem sum_tup {l : List Int} : Bi.g .sum st [.tup (l.map D.int)] = some (.val (.int l.sum)) := by
  show gSum2 st (.tup (l.map D.int)) = _
  unfold gSum2
  simp only [intsOf_ints]
@[simp] theorem sum_lst {l : List Int} : Bi.g .sum st [.lst (l.map D.int)] = some (.val (.int l.sum)) := by
  show gSum2 st (.lst (l.map D.int)) = _
  unfold gSum2 gSum lstD
  simp only [intsOf_ints]
@[simp] theorem all_lst {l : List Bool} : Bi.g .all st [.lst (l.map D.bl)] = some (.val (.bl (l.all id))) := by
  show gAll st (.lst (l.map D.bl)) = _
  unfold gAll lstD
  simp only [blsOf_bls]
@[simp] theorem any_lst {l : List Bool} : Bi.g .any st [.lst (l.map D.bl)] = some (.val (.bl (l.any id))) := by
  show gAny st (.lst (l.map D.bl)) = _
  unfold gAny lstD
  simp only [blsOf_bls]
@[simp] theorem max_lst {n : Int} {l : List Int} : Bi.g .max1 st [.lst ((n :: l).map D.int)] = some (.val (.int (maxI (n :: l)))) := by
  show gMax1 st (.lst ((n :: l).map D.int)) = _
  unfold gMax1 lstD
  simp only [intsOf_ints]
@[simp] theorem min_lst {n : Int} {l : List Int} : Bi.g .min1 st [.lst ((n :: l).map D.int)] = some (.val (.int (minI (n :: l)))) := by
  show gMin1 st (.lst ((n :: l).map D.int)) = _
  unfold gMin1 lstD
  simp only [intsOf_ints]
theorem zipG_map {α β : Type} (f : α → D) (g : β → D) : ∀ (xs : List α) (ys : List β), zipG (xs.map f) (ys.map g) = (xs.zip ys).map fun p => D.tup [f p.1, g p.2]
  | [], ys => by cases ys <;> rfl
  | x :: xs, [] => rfl
  | x :: xs, y :: ys => by
    show _ :: zipG _ _ = _
    rw [zipG_map f g xs ys]
    rfl
theorem zip_tI {a b : List Int} : zipD st [.tup (a.map D.int), .tup (b.map D.int)] = some ((a.zip b).map fun p => D.tup [.int p.1, .int p.2], none) := by
  rw [zipD_tup, zipG_map]
theorem seqD_tup {ds : List D} : seqD st (.tup ds) = some (ds, none) := rfl
theorem seqD_lst {ds : List D} : seqD st (.lst ds) = some (ds, none) := rfl
theorem undr_tI (n : Nat) (l : List Int) : (D.tup (l.map D.int)).undr n = true := undrL_ints n l
theorem undr_tup {n : Nat} {ds : List D} (h : ∀ d ∈ ds, d.undr n = true) : (D.tup ds).undr n = true := undrL_all h
theorem undr_lst {n : Nat} {ds : List D} (h : ∀ d ∈ ds, d.undr n = true) : (D.lst ds).undr n = true := undrL_all h
theorem len_map {α : Type} {f : α → D} {l : List α} : Bi.g .len st [.tup (l.map f)] = some (.val (.int l.length)) := by rw [len_tup, List.length_map]
theorem len_mapL {α : Type} {f : α → D} {l : List α} : Bi.g .len st [.lst (l.map f)] = some (.val (.int l.length)) := by rw [len_lst, List.length_map]
theorem seqD_at {d : D} {ds : List D} {src : Option (Nat × Cell)} (h : seqD st d = some (ds, src)) {i : Nat} {x : D} (e : ds[i]? = some x) : gIx st d (.int (i : Nat)) = some (.val x) := by
  unfold gIx
  rw [h]
  have hi : i < ds.length := (List.getElem?_eq_some_iff.mp e).1
  have : atI ds ((i : Nat) : Int) = some x := by
    unfold atI ixN
    rw [if_pos (by omega), if_pos (by omega)]
    show ds[((i : Nat) : Int).toNat]? = _
    rw [Int.toNat_natCast, e]
  simp only [this]
theorem ix_tupN {ds : List D} {i : Nat} {x : D} (e : ds[i]? = some x) : gIx st (.tup ds) (.int (i : Nat)) = some (.val x) := seqD_at seqD_tup e
theorem ix_lstN {ds : List D} {i : Nat} {x : D} (e : ds[i]? = some x) : gIx st (.lst ds) (.int (i : Nat)) = some (.val x) := seqD_at seqD_lst e
@[simp] theorem ix_tup0 {x : D} {r : List D} : gIx st (.tup (x :: r)) (.int 0) = some (.val x) := ix_tupN (i := 0) rfl
@[simp] theorem ix_tup1 {x y : D} {r : List D} : gIx st (.tup (x :: y :: r)) (.int 1) = some (.val y) := ix_tupN (i := 1) rfl
@[simp] theorem ix_tup2 {x y z : D} {r : List D} : gIx st (.tup (x :: y :: z :: r)) (.int 2) = some (.val z) := ix_tupN (i := 2) rfl
@[simp] theorem ix_lst0 {x : D} {r : List D} : gIx st (.lst (x :: r)) (.int 0) = some (.val x) := ix_lstN (i := 0) rfl
end

/-! ### comprehensions without effects -/
section
variable {p : Pr} {env : Env} {st : Store} {it : I} {own : List (Str × Nat)} {t : T} {e c : E}
theorem compL_pure {env0 : Env} {g : DenT} {cc : DenB} {ee : Den} {α : Type} (emb : α → D) (P : α → Bool) (f : α → D) : ∀ (ys : List α) (acc : List D), acc.length + ys.length ≤ sizeLine →
    (∀ x ∈ ys, ∀ s : Store, ∃ e1, g (emb x) env0 = some e1 ∧ cc e1 (st ++ s) = .ok (P x) (st ++ s) ∧ (P x = true → ee e1 (st ++ s) = .ok (f x) (st ++ s))) →
    compL st.length none env0 g cc ee (ys.map emb) (st ++ [.lst acc]) = .ok () (st ++ [.lst (acc ++ (ys.filter P).map f)]) := by
  intro ys
  induction ys with
  | nil =>
    intro acc _ _
    show Out.ok () _ = _
    simp
  | cons y ys ih =>
    intro acc hl hb
    rw [List.length_cons] at hl
    obtain ⟨e1, h1, h2, h3⟩ := hb y (List.mem_cons_self ..) [.lst acc]
    rw [List.map_cons]
    unfold compL
    rw [h1]
    simp only [h2, onox_ok, obind_ok]
    cases hP : P y with
    | false =>
      simp only [Bool.false_eq_true, if_false]
      rw [List.filter_cons_of_neg (by rw [hP]; exact Bool.false_ne_true)]
      rw [if_pos (show Gd none _ from trivial)]
      exact ih acc (by omega) fun z hz => hb z (List.mem_cons_of_mem _ hz)
    | true =>
      have h4 := h3 hP
      simp only [if_true, h4, onox_ok, obind_ok]
      rw [push_last (by omega)]
      simp only
      rw [if_pos (show Gd none _ from trivial), List.filter_cons_of_pos hP, List.map_cons]
      have := ih (acc ++ [f y]) (by rw [List.length_append, List.length_singleton]; omega) fun z hz => hb z (List.mem_cons_of_mem _ hz)
      rw [this, List.append_assoc]
      rfl
theorem comp_gen {α : Type} (xs : List α) (emb : α → D) (P : α → Bool) (f : α → D) (hI : evI p it env st = .ok (xs.map emb, none) st) (hz : xs.length ≤ sizeLine)
    (hb : ∀ x ∈ xs, ∀ s : Store, ∃ e1, tg t (emb x) (wipeE env (own.map (·.2))) = some e1 ∧ (ev p c).t e1 (st ++ s) = .ok (P x) (st ++ s) ∧ (P x = true → (ev p e).v e1 (st ++ s) = .ok (f x) (st ++ s) ∧ (f x).undr st.length = true)) :
    (ev p (.compIf false it own t c e)).v env st = .ok (.lst ((xs.filter P).map f)) st := by
  rw [v_compIf, hI]
  simp only [obind_ok]
  rw [compL_pure emb P f xs [] (by simpa using hz) fun x hx s => by
    obtain ⟨e1, h1, h2, h3⟩ := hb x hx s
    exact ⟨e1, h1, h2, fun h => (h3 h).1⟩]
  simp only [obind_ok, List.nil_append]
  exact give_new (undrL_all fun d hd => by
    obtain ⟨x, hx, rfl⟩ := List.mem_map.mp hd
    obtain ⟨hx1, hx2⟩ := List.mem_filter.mp hx
    obtain ⟨e1, _, _, h3⟩ := hb x hx1 []
    exact (h3 hx2).2)
/-- two fors -/
theorem comp2_map {it1 : I} {vs1 : List Nat} {t1 : T} {α β : Type} (xs : List α) (emb : α → D) (ys : α → List β) (emb1 : β → D) (f : α → β → D) (hI : evI p it env st = .ok (xs.map emb, none) st) (hz : (xs.flatMap ys).length ≤ sizeLine)
    (hb : ∀ x ∈ xs, ∀ s : Store, ∃ e1, tg t (emb x) (wipeE env (own.map (·.2))) = some e1 ∧ evI p it1 e1 (st ++ s) = .ok ((ys x).map emb1, none) (st ++ s) ∧
      ∀ y ∈ ys x, ∀ s : Store, ∃ e2, tg t1 (emb1 y) (wipeE e1 vs1) = some e2 ∧ (ev p e).v e2 (st ++ s) = .ok (f x y) (st ++ s))
    (hu : ∀ x ∈ xs, ∀ y ∈ ys x, (f x y).undr st.length = true) :
    (ev p (.comp2 false it own t it1 vs1 t1 e)).v env st = .ok (.lst (xs.flatMap fun x => (ys x).map (f x))) st := by
  have go : ∀ (zs : List α) (acc : List D), (∀ z ∈ zs, z ∈ xs) → acc.length + (zs.flatMap ys).length ≤ sizeLine → compL2 st.length none (wipeE env (own.map (·.2))) (tg t) bYes (evI p it1) vs1 (tg t1) bYes (ev p e).v (zs.map emb) (st ++ [.lst acc]) = .ok () (st ++ [.lst (acc ++ zs.flatMap fun x => (ys x).map (f x))]) := by
    intro zs
    induction zs with
    | nil =>
      intro acc _ _
      show Out.ok () _ = _
      simp
    | cons z zs ih =>
      intro acc hm hl
      rw [List.flatMap_cons, List.length_append] at hl
      obtain ⟨e1, h1, h2, h3⟩ := hb z (hm z (List.mem_cons_self ..)) [.lst acc]
      rw [List.map_cons]
      unfold compL2
      rw [h1]
      have h4 := compL_pure (st := st) (env0 := wipeE e1 vs1) (g := tg t1) (cc := bYes) (ee := (ev p e).v) emb1 (fun _ => true) (f z) (ys z) acc (by omega) fun y hy s => by
        obtain ⟨e2, q1, q2⟩ := h3 y hy s
        exact ⟨e2, q1, rfl, fun _ => q2⟩
      rw [List.filter_eq_self.mpr (fun _ _ => rfl)] at h4
      have h5 := ih (acc ++ (ys z).map (f z)) (fun q hq => hm q (List.mem_cons_of_mem _ hq)) (by rw [List.length_append, List.length_map]; omega)
      simp only [bYes, onox_ok, obind_ok, if_true, h2]
      show (compL st.length none (wipeE e1 vs1) (tg t1) bYes (ev p e).v ((ys z).map emb1) (st ++ [.lst acc])).bind _ = _
      rw [h4]
      simp only [obind_ok]
      unfold gdo
      rw [if_pos (show Gd none _ from trivial)]
      refine h5.trans ?_
      rw [List.flatMap_cons, List.append_assoc]
  rw [v_comp2, hI]
  simp only [obind_ok]
  rw [go xs [] (fun z h => h) (by simpa using hz)]
  simp only [obind_ok, List.nil_append]
  exact give_new (undrL_all fun d hd => by
    obtain ⟨x, hx, hd⟩ := List.mem_flatMap.mp hd
    obtain ⟨y, hy, rfl⟩ := List.mem_map.mp hd
    exact hu x hx y hy)
theorem v_comp_if : (ev p (.comp false it own t e)).v env st = (evI p it env st).bind fun it st1 => (compL st1.length it.2 (wipeE env (own.map (·.2))) (tg t) bYes (ev p e).v it.1 (st1 ++ [.lst []])).bind fun _ s => give false st1 s := rfl
theorem comp_yes : (ev p (.comp false it own t e)).v env st = (ev p (.compIf false it own t (.con (.bl true)) e)).v env st := rfl
theorem comp_map {α : Type} (xs : List α) (emb : α → D) (f : α → D) (hI : evI p it env st = .ok (xs.map emb, none) st) (hz : xs.length ≤ sizeLine)
    (hb : ∀ x ∈ xs, ∀ s : Store, ∃ e1, tg t (emb x) (wipeE env (own.map (·.2))) = some e1 ∧ (ev p e).v e1 (st ++ s) = .ok (f x) (st ++ s) ∧ (f x).undr st.length = true) :
    (ev p (.comp false it own t e)).v env st = .ok (.lst (xs.map f)) st := by
  rw [comp_yes, comp_gen xs emb (fun _ => true) f hI hz fun x hx s => ?_]
  · rw [List.filter_eq_self.mpr (fun _ _ => rfl)]
  · obtain ⟨e1, h1, h2, h3⟩ := hb x hx s
    exact ⟨e1, h1, rfl, fun _ => ⟨h2, h3⟩⟩
end

/-! ### numbers counted up -/
theorem rng_eq (lo : Int) (n : Nat) : rng lo n = (List.range n).map fun k : Nat => D.int (lo + k) := rfl
theorem rng0_eq (n : Nat) : rng 0 n = (List.range n).map fun k : Nat => D.int ((k : Nat) : Int) := by
  rw [rng_eq]
  congr 1
  funext k
  rw [Int.zero_add]
theorem inR_small {i : Int} (h1 : -1000000 ≤ i) (h2 : i ≤ 1000000) : L2.PyD.inR i = true := by
  unfold L2.PyD.inR
  rw [Bool.and_eq_true]
  exact ⟨dec_eq (by omega), dec_eq (by omega)⟩
theorem size_small {n : Nat} (h : n ≤ 1000000) : n ≤ sizeLine := Nat.le_trans h (by decide)
theorem rngD_n {n : Nat} (h : n ≤ 1000000) : rngD [.int (n : Int)] = some ((List.range n).map fun k : Nat => D.int ((k : Nat) : Int), none) := by
  rw [rngD1, if_pos, Int.toNat_natCast, rng0_eq]
  rw [Bool.and_eq_true]
  exact ⟨inR_small (by omega) (by omega), dec_eq (by rw [Int.toNat_natCast]; exact size_small h)⟩
theorem rngD_ab {a b : Int} (h1 : -400000 ≤ a) (h2 : a ≤ 400000) (h3 : -400000 ≤ b) (h4 : b ≤ 400000) : rngD [.int a, .int b] = some (rng a (b - a).toNat, none) := by
  rw [rngD2, if_pos]
  rw [Bool.and_eq_true, Bool.and_eq_true]
  exact ⟨⟨inR_small (by omega) (by omega), inR_small (by omega) (by omega)⟩, dec_eq (size_small (by omega))⟩
/-! ### slices -/
theorem cut_take (ds : List D) (k : Nat) : cutD ds none (some (k : Nat)) = ds.take k := by
  unfold cutD
  rw [HT.sIx_none, HT.sIx_nat, List.drop_zero, Nat.sub_zero]
  by_cases h : k ≤ ds.length
  · rw [Nat.min_eq_left h]
  · rw [Nat.min_eq_right (by omega), List.take_of_length_le (Nat.le_refl _), List.take_of_length_le (by omega)]
theorem cut_drop (ds : List D) (k : Nat) : cutD ds (some (k : Nat)) none = ds.drop k := by
  unfold cutD
  rw [HT.sIx_none, HT.sIx_nat]
  by_cases h : k ≤ ds.length
  · rw [Nat.min_eq_left h, List.take_of_length_le]
    rw [List.length_drop]
    exact Nat.le_refl _
  · rw [Nat.min_eq_right (by omega), Nat.sub_self, List.take_zero, List.drop_eq_nil_of_le (by omega)]
theorem cut_last (ds : List D) : cutD ds none (some (-1)) = ds.dropLast := by
  unfold cutD
  rw [HT.sIx_none, List.drop_zero, Nat.sub_zero, List.dropLast_eq_take]
  congr 1
  show (if (-1 : Int) < 0 then ((-1 : Int) + (ds.length : Int)).toNat else min (-1 : Int).toNat ds.length) = _
  rw [if_pos (by decide)]
  omega
theorem all_dec {α : Type} {st : Store} (l : List α) (P : α → Prop) [DecidablePred P] : Bi.g .all st [.lst (l.map fun x => D.bl (decide (P x)))] = some (.val (.bl (decide (∀ x ∈ l, P x)))) := by
  have := all_lst (st := st) (l := l.map fun x => decide (P x))
  rw [List.map_map] at this
  rw [show (fun x => D.bl (decide (P x))) = D.bl ∘ (fun x => decide (P x)) from rfl, this]
  congr 3
  rw [Bool.eq_iff_iff]
  simp
theorem all_yes {α : Type} {st : Store} (l : List α) : Bi.g .all st [.lst (l.map fun _ => D.bl true)] = some (.val (.bl true)) := by
  have := all_dec (st := st) l (fun _ => True)
  simpa using this
theorem zipW_eq {α β γ : Type} (f : α → β → γ) : ∀ (a : List α) (b : List β), List.zipWith f a b = (a.zip b).map fun p => f p.1 p.2
  | [], b => by cases b <;> rfl
  | x :: a, [] => rfl
  | x :: a, y :: b => by
    show f x y :: List.zipWith f a b = _
    rw [zipW_eq f a b]
    rfl
theorem has_last {st : Store} {ds : List D} : hasT "list" (st ++ [.lst ds]) (.cell st.length) = true := by
  unfold hasT
  have : (st ++ [Cell.lst ds])[st.length]? = some (.lst ds) := by simp
  simp only [this]
  rfl
theorem app_last {st : Store} {acc : List D} {y : D} (h : acc.length ≤ 1000000) : mAppend (st ++ [.lst acc]) (.cell st.length) [y] = .ok .non (st ++ [.lst (acc ++ [y])]) := by
  unfold mAppend
  simp only [push_last (st1 := st) (acc := acc) (y := y) (Nat.lt_of_le_of_lt h (by decide))]
theorem rng3_ok {a b : Int} (h1 : -400000 ≤ a) (h2 : a ≤ 400000) (h3 : -400000 ≤ b) (h4 : b ≤ 400000) : rng3D [.int a, .int b, .int (-1)] = some ((List.range (a - b).toNat).map fun k : Nat => D.int (a - k), none) := by
  show (if decide ((-1 : Int) = -1) && L2.PyD.inR a && L2.PyD.inR b && dec ((a - b).toNat ≤ sizeLine) then some (rngDn a (a - b).toNat, none) else none) = _
  rw [if_pos]
  · unfold rngDn
    congr 2
    apply List.map_congr_left
    intro k _
    congr 1
    omega
  · rw [Bool.and_eq_true, Bool.and_eq_true, Bool.and_eq_true]
    exact ⟨⟨⟨decide_eq_true rfl, inR_small (by omega) (by omega)⟩, inR_small (by omega) (by omega)⟩, dec_eq (size_small (by omega))⟩
end
end L2.PyD
/-! Nested data: as values, how they are equal, their order (by their ints in a row), sorting. -/
namespace L2.PyD
open PySem PySem.Spec PyProof.Rows
noncomputable section

inductive N where
  | int (n : Int) | str (x : Str) | non | bl (b : Bool)
  | tup (l : List N) | lst (l : List N)
mutual
def N.d : N → D
  | .int n => .int n
  | .str x => .str x
  | .non => .non
  | .bl x => .bl x
  | .tup l => .tup (N.ds l)
  | .lst l => .lst (N.ds l)
def N.ds : List N → List D
  | [] => []
  | x :: r => x.d :: N.ds r
end
mutual
def N.p : N → PyData
  | .int n => .int n
  | .str x => .str x
  | .non => .none
  | .bl x => .bool x
  | .tup l => .tuple (N.ps l)
  | .lst l => .list (N.ps l)
def N.ps : List N → List PyData
  | [] => []
  | x :: r => x.p :: N.ps r
end
mutual
def N.dep : N → Nat
  | .tup l => N.deps l + 1
  | .lst l => N.deps l + 1
  | _ => 0
def N.deps : List N → Nat
  | [] => 0
  | x :: r => max x.dep (N.deps r)
end
mutual
/-- texts as they may be; no truth values -/
def N.ok : N → Bool
  | .int _ => true
  | .str x => PyData.strOk x
  | .non => true
  | .bl _ => false
  | .tup l => N.oks l
  | .lst l => N.oks l
def N.oks : List N → Bool
  | [] => true
  | x :: r => x.ok && N.oks r
end
theorem N.ds_map : ∀ l : List N, N.ds l = l.map N.d
  | [] => rfl
  | x :: r => by rw [N.ds, N.ds_map r]; rfl
theorem N.ps_map : ∀ l : List N, N.ps l = l.map N.p
  | [] => rfl
  | x :: r => by rw [N.ps, N.ps_map r]; rfl
/-- a tuple of ints -/
def tn (l : List Int) : N := .tup (l.map N.int)
theorem tn_d (l : List Int) : (tn l).d = .tup (l.map D.int) := by
  show D.tup (N.ds (l.map N.int)) = _
  rw [N.ds_map, List.map_map]
  rfl
theorem deps_ints : ∀ l : List Int, N.deps (l.map N.int) = 0
  | [] => rfl
  | x :: r => by rw [List.map_cons, N.deps, deps_ints r]; rfl
theorem tn_dep (l : List Int) : (tn l).dep = 1 := by
  show N.deps (l.map N.int) + 1 = 1
  rw [deps_ints]
theorem oks_all : ∀ {l : List N}, (∀ x ∈ l, x.ok = true) → N.oks l = true
  | [], _ => rfl
  | x :: r, h => by rw [N.oks, h x (List.mem_cons_self ..), oks_all fun y m => h y (List.mem_cons_of_mem _ m)]; rfl
theorem deps_le {k : Nat} : ∀ {l : List N}, (∀ x ∈ l, x.dep ≤ k) → N.deps l ≤ k
  | [], _ => Nat.zero_le _
  | x :: r, h => by
    rw [N.deps]
    exact Nat.max_le.mpr ⟨h x (List.mem_cons_self ..), deps_le fun y m => h y (List.mem_cons_of_mem _ m)⟩
theorem tn_ok (l : List Int) : (tn l).ok = true := oks_all fun x m => by
  obtain ⟨i, _, rfl⟩ := List.mem_map.mp m
  rfl
mutual
theorem N.undr (n : Nat) : ∀ a : N, a.d.undr n = true
  | .int _ => rfl
  | .str _ => rfl
  | .non => rfl
  | .bl _ => rfl
  | .tup l => N.undrs n l
  | .lst l => N.undrs n l
theorem N.undrs (n : Nat) : ∀ l : List N, D.undrL n (N.ds l) = true
  | [] => rfl
  | x :: r => by
    rw [N.ds]
    unfold D.undrL
    rw [N.undr n x, N.undrs n r]
    rfl
end
theorem leave_N {st : Store} (a : N) : leave st st a.d = .ok a.d st := leave_self (N.undr _ a)
mutual
theorem pyN_N {st : Store} : ∀ {k : Nat} (a : N), a.dep ≤ k → a.ok = true → pyN st k a.d = some a.p
  | 0, .int _, _, _ => rfl
  | 0, .non, _, _ => rfl
  | 0, .str x, _, h => by
    show (if PyData.strOk x then some (PyData.str x) else none) = _
    rw [if_pos (show PyData.strOk x = true from h)]
    rfl
  | k + 1, .int _, _, _ => rfl
  | k + 1, .non, _, _ => rfl
  | k + 1, .str x, _, h => by
    show (if PyData.strOk x then some (PyData.str x) else none) = _
    rw [if_pos (show PyData.strOk x = true from h)]
    rfl
  | _, .bl _, _, h => by cases h
  | 0, .tup l, h, _ => by
    have : N.deps l + 1 ≤ 0 := h
    omega
  | 0, .lst l, h, _ => by
    have : N.deps l + 1 ≤ 0 := h
    omega
  | k + 1, .tup l, h, ho => by
    show (mapO (pyN st k) (N.ds l)).map PyData.tuple = _
    rw [pyNs_N l (Nat.le_of_succ_le_succ h) ho]
    rfl
  | k + 1, .lst l, h, ho => by
    show (mapO (pyN st k) (N.ds l)).map PyData.list = _
    rw [pyNs_N l (Nat.le_of_succ_le_succ h) ho]
    rfl
theorem pyNs_N {st : Store} : ∀ {k : Nat} (l : List N), N.deps l ≤ k → N.oks l = true → mapO (pyN st k) (N.ds l) = some (N.ps l)
  | _, [], _, _ => rfl
  | k, x :: r, h, ho => by
    rw [N.deps] at h
    rw [N.oks, Bool.and_eq_true] at ho
    obtain ⟨h1, h2⟩ := Nat.max_le.mp h
    rw [N.ds, N.ps]
    unfold mapO
    rw [pyN_N x h1 ho.1, pyNs_N r h2 ho.2]
end
mutual
theorem eqv_N : ∀ (a b : N), a.ok = true → b.ok = true → (PyData.eqv a.p b.p = true ↔ a = b)
  | .int x, .int y, _, _ => by
    show (PyData.eqv (.int x) (.int y) = true ↔ _)
    rw [eqv_int, decide_eq_true_iff]
    exact ⟨fun h => by rw [h], fun h => by injection h⟩
  | .str x, .str y, _, _ => by
    have : PyData.eqv (.str x) (.str y) = (x == y) := by simp [PyData.eqv]
    show (PyData.eqv (.str x) (.str y) = true ↔ _)
    rw [this, beq_iff_eq]
    exact ⟨fun h => by rw [h], fun h => by injection h⟩
  | .non, .non, _, _ => by
    show (PyData.eqv .none .none = true ↔ _)
    simp [PyData.eqv]
  | .tup x, .tup y, h, h' => by
    have : PyData.eqv (.tuple (N.ps x)) (.tuple (N.ps y)) = PyData.eqvAll (N.ps x) (N.ps y) := by simp [PyData.eqv]
    show (PyData.eqv (.tuple (N.ps x)) (.tuple (N.ps y)) = true ↔ _)
    rw [this, eqvs_N x y h h']
    exact ⟨fun h => by rw [h], fun h => by injection h⟩
  | .lst x, .lst y, h, h' => by
    have : PyData.eqv (.list (N.ps x)) (.list (N.ps y)) = PyData.eqvAll (N.ps x) (N.ps y) := by simp [PyData.eqv]
    show (PyData.eqv (.list (N.ps x)) (.list (N.ps y)) = true ↔ _)
    rw [this, eqvs_N x y h h']
    exact ⟨fun h => by rw [h], fun h => by injection h⟩
  | .bl _, _, h, _ => by cases h
  | _, .bl _, _, h => by cases h
  | .int _, .str _, _, _ | .int _, .non, _, _ | .int _, .tup _, _, _ | .int _, .lst _, _, _ | .str _, .int _, _, _ | .str _, .non, _, _ | .str _, .tup _, _, _ | .str _, .lst _, _, _
  | .non, .int _, _, _ | .non, .str _, _, _ | .non, .tup _, _, _ | .non, .lst _, _, _ | .tup _, .int _, _, _ | .tup _, .str _, _, _ | .tup _, .non, _, _ | .tup _, .lst _, _, _
  | .lst _, .int _, _, _ | .lst _, .str _, _, _ | .lst _, .non, _, _ | .lst _, .tup _, _, _ => by simp [N.p, PyData.eqv]
theorem eqvs_N : ∀ (x y : List N), N.oks x = true → N.oks y = true → (PyData.eqvAll (N.ps x) (N.ps y) = true ↔ x = y)
  | [], [], _, _ => by simp [N.ps, PyData.eqvAll]
  | [], _ :: _, _, _ => by simp [N.ps, PyData.eqvAll]
  | _ :: _, [], _, _ => by simp [N.ps, PyData.eqvAll]
  | a :: x, b :: y, h, h' => by
    rw [N.oks, Bool.and_eq_true] at h h'
    rw [N.ps, N.ps, PyData.eqvAll, Bool.and_eq_true, eqv_N a b h.1 h'.1, eqvs_N x y h.2 h'.2]
    exact ⟨fun ⟨e1, e2⟩ => by rw [e1, e2], fun e => by injection e with e1 e2; exact ⟨e1, e2⟩⟩
end
noncomputable instance : DecidableEq N := fun _ _ => Classical.propDecidable _
theorem c_eqN {st : Store} {a b : N} (ha : a.ok = true) (hb : b.ok = true) (da : a.dep ≤ 60) (db : b.dep ≤ 60) : cmpG' .Eq st a.d b.d = some (decide (a = b)) := by
  show cEq st a.d b.d = _
  unfold cEq pyD
  rw [pyN_N a da ha, pyN_N b db hb]
  simp only
  congr 1
  exact Bool.eq_iff_iff.mpr ((eqv_N a b ha hb).trans (decide_eq_true_iff (p := a = b)).symm)
theorem c_neN {st : Store} {a b : N} (ha : a.ok = true) (hb : b.ok = true) (da : a.dep ≤ 60) (db : b.dep ≤ 60) : cmpG' .NotEq st a.d b.d = some (!decide (a = b)) := by
  show cNe st a.d b.d = _
  unfold cNe pyD
  rw [pyN_N a da ha, pyN_N b db hb]
  simp only
  congr 2
  exact Bool.eq_iff_iff.mpr ((eqv_N a b ha hb).trans (decide_eq_true_iff (p := a = b)).symm)
theorem c_eqN_self {st : Store} {a : N} (ha : a.ok = true) (da : a.dep ≤ 60) : cmpG' .Eq st a.d a.d = some true := by rw [c_eqN ha ha da da, decide_eq_true rfl]
theorem c_neN_self {st : Store} {a : N} (ha : a.ok = true) (da : a.dep ≤ 60) : cmpG' .NotEq st a.d a.d = some false := by rw [c_neN ha ha da da, decide_eq_true rfl]; rfl

/-! ### order -/
mutual
def N.flat : N → List Int
  | .int n => [n]
  | .tup l => N.flats l
  | _ => []
def N.flats : List N → List Int
  | [] => []
  | x :: r => x.flat ++ N.flats r
end
mutual
/-- nested tuples of ints of one shape -/
def N.sh : N → N → Bool
  | .int _, .int _ => true
  | .tup x, .tup y => N.shs x y
  | _, _ => false
def N.shs : List N → List N → Bool
  | [], [] => true
  | a :: x, b :: y => N.sh a b && N.shs x y
  | _, _ => false
end
/-- the first ints that differ tell -/
def lx : List Int → List Int → Int
  | x :: xs, y :: ys => if x < y then -1 else if y < x then 1 else lx xs ys
  | [], [] => 0
  | [], _ :: _ => -1
  | _ :: _, [] => 1
theorem lx_app : ∀ (a c b d : List Int), a.length = c.length → lx (a ++ b) (c ++ d) = if lx a c = 0 then lx b d else lx a c
  | [], [], b, d, _ => by simp [lx]
  | x :: a, y :: c, b, d, h => by
    have ih := lx_app a c b d (by simpa using h)
    simp only [List.cons_append, lx]
    split
    · simp
    · split
      · simp
      · exact ih
  | [], _ :: _, _, _, h => by cases h
  | _ :: _, [], _, _, h => by cases h
theorem lx_self : ∀ a : List Int, lx a a = 0
  | [] => rfl
  | x :: a => by unfold lx; simp [lx_self a]
theorem lx_zero : ∀ {a b : List Int}, lx a b = 0 → a = b
  | [], [], _ => rfl
  | x :: a, y :: b, e => by
    unfold lx at e
    by_cases h1 : x < y
    · rw [if_pos h1] at e; cases e
    · rw [if_neg h1] at e
      by_cases h2 : y < x
      · rw [if_pos h2] at e; cases e
      · rw [if_neg h2] at e
        have : x = y := by omega
        rw [this, lx_zero e]
  | [], _ :: _, e => by cases e
  | _ :: _, [], e => by cases e
theorem lx_iff {a b : List Int} : lx a b = 0 ↔ a = b := ⟨lx_zero, fun e => by rw [e, lx_self]⟩
theorem lx_neg : ∀ a b : List Int, lx b a = - lx a b
  | [], [] => rfl
  | [], _ :: _ => rfl
  | _ :: _, [] => rfl
  | x :: a, y :: b => by
    unfold lx
    by_cases h1 : x < y
    · rw [if_pos h1, if_neg (by omega), if_pos h1]; rfl
    · by_cases h2 : y < x
      · rw [if_pos h2, if_neg h1, if_pos h2]
      · rw [if_neg h2, if_neg h1, if_neg h1, if_neg h2]
        exact lx_neg a b
theorem lx_val : ∀ a b : List Int, lx a b = -1 ∨ lx a b = 0 ∨ lx a b = 1
  | [], [] => .inr (.inl rfl)
  | [], _ :: _ => .inl rfl
  | _ :: _, [] => .inr (.inr rfl)
  | x :: a, y :: b => by
    unfold lx
    by_cases h1 : x < y
    · rw [if_pos h1]; exact .inl rfl
    · rw [if_neg h1]
      by_cases h2 : y < x
      · rw [if_pos h2]; exact .inr (.inr rfl)
      · rw [if_neg h2]; exact lx_val a b
theorem lx_trans : ∀ {a b c : List Int}, lx a b ≤ 0 → lx b c ≤ 0 → lx a c ≤ 0
  | [], _, [], _, _ => by show (0 : Int) ≤ 0; decide
  | [], _, _ :: _, _, _ => by show (-1 : Int) ≤ 0; decide
  | _ :: _, [], _, h, _ => absurd (show (1 : Int) ≤ 0 from h) (by decide)
  | _ :: _, _ :: _, [], _, h => absurd (show (1 : Int) ≤ 0 from h) (by decide)
  | x :: a, y :: b, z :: c, h, h' => by
    unfold lx at h h' ⊢
    by_cases h1 : x < y
    · by_cases h2 : y < z
      · rw [if_pos (by omega)]; decide
      · rw [if_neg h2] at h'
        by_cases h3 : z < y
        · rw [if_pos h3] at h'; exact absurd h' (by decide)
        · rw [if_pos (by omega)]; decide
    · rw [if_neg h1] at h
      by_cases h2 : y < x
      · rw [if_pos h2] at h; exact absurd h (by decide)
      · rw [if_neg h2] at h
        by_cases h3 : y < z
        · rw [if_pos (by omega)]; decide
        · rw [if_neg h3] at h'
          by_cases h4 : z < y
          · rw [if_pos h4] at h'; exact absurd h' (by decide)
          · rw [if_neg h4] at h'
            rw [if_neg (by omega), if_neg (by omega)]
            exact lx_trans h h'
mutual
theorem N.flat_len : ∀ {a b : N}, N.sh a b = true → a.flat.length = b.flat.length
  | .int _, .int _, _ => rfl
  | .tup x, .tup y, h => N.flats_len (x := x) (y := y) h
  | .int _, .str _, h | .int _, .non, h | .int _, .bl _, h | .int _, .tup _, h | .int _, .lst _, h => by cases h
  | .tup _, .int _, h | .tup _, .str _, h | .tup _, .non, h | .tup _, .bl _, h | .tup _, .lst _, h => by cases h
  | .str _, _, h | .non, _, h | .bl _, _, h | .lst _, _, h => by cases h
theorem N.flats_len : ∀ {x y : List N}, N.shs x y = true → (N.flats x).length = (N.flats y).length
  | [], [], _ => rfl
  | a :: x, b :: y, h => by
    rw [N.shs, Bool.and_eq_true] at h
    rw [N.flats, N.flats, List.length_append, List.length_append, N.flat_len h.1, N.flats_len h.2]
  | [], _ :: _, h => by cases h
  | _ :: _, [], h => by cases h
end
theorem N.sh_inv {a b : N} (h : N.sh a b = true) : (∃ x y, a = .int x ∧ b = .int y) ∨ ∃ x y, a = .tup x ∧ b = .tup y ∧ N.shs x y = true := by
  cases a with
  | int x => cases b with
    | int y => exact .inl ⟨x, y, rfl, rfl⟩
    | _ => exact absurd h (by simp [N.sh])
  | tup x => cases b with
    | tup y => exact .inr ⟨x, y, rfl, rfl, h⟩
    | _ => exact absurd h (by simp [N.sh])
  | _ => exact absurd h (by simp [N.sh])
mutual
theorem eqv_flat : ∀ {a b : N}, N.sh a b = true → PyData.eqv a.p b.p = decide (lx a.flat b.flat = 0)
  | .int x, .int y, _ => by
    show PyData.eqv (.int x) (.int y) = decide (lx [x] [y] = 0)
    rw [eqv_int]
    simp only [lx]
    split
    · rw [decide_eq_decide]; omega
    · split
      · rw [decide_eq_decide]; omega
      · rw [decide_eq_decide]; omega
  | .tup x, .tup y, h => by
    show PyData.eqv (.tuple (N.ps x)) (.tuple (N.ps y)) = _
    have : PyData.eqv (.tuple (N.ps x)) (.tuple (N.ps y)) = PyData.eqvAll (N.ps x) (N.ps y) := by simp [PyData.eqv]
    rw [this]
    exact eqvs_flat h
  | .int _, .str _, h | .int _, .non, h | .int _, .bl _, h | .int _, .tup _, h | .int _, .lst _, h => by cases h
  | .tup _, .int _, h | .tup _, .str _, h | .tup _, .non, h | .tup _, .bl _, h | .tup _, .lst _, h => by cases h
  | .str _, _, h | .non, _, h | .bl _, _, h | .lst _, _, h => by cases h
theorem eqvs_flat : ∀ {x y : List N}, N.shs x y = true → PyData.eqvAll (N.ps x) (N.ps y) = decide (lx (N.flats x) (N.flats y) = 0)
  | [], [], _ => by simp [N.ps, PyData.eqvAll, N.flats, lx]
  | a :: x, b :: y, h => by
    rw [N.shs, Bool.and_eq_true] at h
    rw [N.ps, N.ps, PyData.eqvAll, N.flats, N.flats, lx_app _ _ _ _ (N.flat_len h.1), eqv_flat h.1, eqvs_flat h.2]
    by_cases c : lx a.flat b.flat = 0
    · simp [c]
    · simp [c]
  | [], _ :: _, h => by cases h
  | _ :: _, [], h => by cases h
end
mutual
theorem ordP_N {op : CmpOp} (ho : op = .Lt ∨ op = .Gt) : ∀ {k : Nat} {a b : N}, N.sh a b = true → a.dep ≤ k → ordP op k a.p b.p = some (ordI op (lx a.flat b.flat) 0)
  | k, .int x, .int y, _, _ => by
    have : ordP op k (.int x) (.int y) = some (ordI op x y) := by cases k <;> rfl
    show ordP op k (.int x) (.int y) = some (ordI op (lx [x] [y]) 0)
    rw [this]
    simp only [lx]
    rcases ho with ho | ho
    · subst ho
      show some (decide (x < y)) = some (decide ((if x < y then (-1 : Int) else if y < x then 1 else 0) < (0 : Int)))
      congr 1
      rw [decide_eq_decide]
      by_cases h1 : x < y
      · rw [if_pos h1]; omega
      · rw [if_neg h1]
        by_cases h2 : y < x
        · rw [if_pos h2]; omega
        · rw [if_neg h2]; omega
    · subst ho
      show some (decide (y < x)) = some (decide ((0 : Int) < (if x < y then (-1 : Int) else if y < x then 1 else 0)))
      congr 1
      rw [decide_eq_decide]
      by_cases h1 : x < y
      · rw [if_pos h1]; omega
      · rw [if_neg h1]
        by_cases h2 : y < x
        · rw [if_pos h2]; omega
        · rw [if_neg h2]; omega
  | 0, .tup x, .tup y, _, d => by
    have : N.deps x + 1 ≤ 0 := d
    omega
  | k + 1, .tup x, .tup y, h, d => by
    show ordL op (ordP op k) (N.ps x) (N.ps y) = _
    exact ordL_N ho h (Nat.le_of_succ_le_succ d)
  | _, .int _, .str _, h, _ | _, .int _, .non, h, _ | _, .int _, .bl _, h, _ | _, .int _, .tup _, h, _ | _, .int _, .lst _, h, _ => by cases h
  | _, .tup _, .int _, h, _ | _, .tup _, .str _, h, _ | _, .tup _, .non, h, _ | _, .tup _, .bl _, h, _ | _, .tup _, .lst _, h, _ => by cases h
  | _, .str _, _, h, _ | _, .non, _, h, _ | _, .bl _, _, h, _ | _, .lst _, _, h, _ => by cases h
theorem ordL_N {op : CmpOp} (ho : op = .Lt ∨ op = .Gt) : ∀ {k : Nat} {x y : List N}, N.shs x y = true → N.deps x ≤ k → ordL op (ordP op k) (N.ps x) (N.ps y) = some (ordI op (lx (N.flats x) (N.flats y)) 0)
  | k, [], [], _, _ => by
    show some (ordI op 0 0) = some (ordI op (lx [] []) 0)
    rfl
  | k, a :: x, b :: y, h, d => by
    rw [N.shs, Bool.and_eq_true] at h
    rw [N.deps] at d
    obtain ⟨d1, d2⟩ := Nat.max_le.mp d
    rw [N.ps, N.ps, N.flats, N.flats, lx_app _ _ _ _ (N.flat_len h.1)]
    unfold ordL
    rw [ordL_N ho h.2 d2]
    simp only
    rw [eqv_flat h.1]
    by_cases c : lx a.flat b.flat = 0
    · simp [c]
    · simp only [decide_eq_true_eq, if_neg c]
      exact ordP_N ho h.1 d1
  | _, [], _ :: _, h, _ => by cases h
  | _, _ :: _, [], h, _ => by cases h
end
theorem cOrd_N {op : CmpOp} (ho : op = .Lt ∨ op = .Gt) {st : Store} {a b : N} (h : N.sh a b = true) (ha : a.ok = true) (hb : b.ok = true) (da : a.dep ≤ 20) (db : b.dep ≤ 20) : cOrd op st a.d b.d = some (ordI op (lx a.flat b.flat) 0) := by
  unfold cOrd
  rw [pyN_N _ da ha, pyN_N b db hb]
  exact ordP_N ho h da
theorem cI_tup {f : Int → Int → Bool} {st : Store} {l : List N} {y : D} : cI f st (N.tup l).d y = none := rfl
theorem c_ltN {st : Store} {l : List N} {b : N} (h : N.sh (.tup l) b = true) (ha : (N.tup l).ok = true) (hb : b.ok = true) (da : (N.tup l).dep ≤ 20) (db : b.dep ≤ 20) : cmpG' .Lt st (N.tup l).d b.d = some (decide (lx (N.tup l).flat b.flat < 0)) := by
  have hc : cmpG' .Lt = cOr (cI fun i j => decide (i < j)) (cOrd .Lt) := rfl
  rw [hc]
  unfold cOr
  rw [cI_tup]
  exact cOrd_N (.inl rfl) h ha hb da db
theorem c_gtN {st : Store} {l : List N} {b : N} (h : N.sh (.tup l) b = true) (ha : (N.tup l).ok = true) (hb : b.ok = true) (da : (N.tup l).dep ≤ 20) (db : b.dep ≤ 20) : cmpG' .Gt st (N.tup l).d b.d = some (decide (0 < lx (N.tup l).flat b.flat)) := by
  have hc : cmpG' .Gt = cOr (cI fun i j => decide (j < i)) (cOrd .Gt) := rfl
  rw [hc]
  unfold cOr
  rw [cI_tup]
  exact cOrd_N (.inr rfl) h ha hb da db

/-! ### sorting -/
mutual
theorem alike_N : ∀ {a b : N}, N.sh a b = true → PySem.W.alike a.p b.p = true
  | .int x, .int y, _ => by simp [N.p, PySem.W.alike]
  | .tup x, .tup y, h => by
    show PySem.W.alike (.tuple (N.ps x)) (.tuple (N.ps y)) = true
    rw [PySem.W.alike]
    exact alikes_N h
  | .int _, .str _, h | .int _, .non, h | .int _, .bl _, h | .int _, .tup _, h | .int _, .lst _, h => by cases h
  | .tup _, .int _, h | .tup _, .str _, h | .tup _, .non, h | .tup _, .bl _, h | .tup _, .lst _, h => by cases h
  | .str _, _, h | .non, _, h | .bl _, _, h | .lst _, _, h => by cases h
theorem alikes_N : ∀ {x y : List N}, N.shs x y = true → PySem.W.alikeAll (N.ps x) (N.ps y) = true
  | [], [], _ => by simp [N.ps, PySem.W.alikeAll]
  | a :: x, b :: y, h => by
    rw [N.shs, Bool.and_eq_true] at h
    rw [N.ps, N.ps, PySem.W.alikeAll, alike_N h.1, alikes_N h.2]
    rfl
  | [], _ :: _, h => by cases h
  | _ :: _, [], h => by cases h
end
mutual
theorem dataLt_N : ∀ {a b : N}, N.sh a b = true → PySem.W.dataLt a.p b.p = decide (lx a.flat b.flat < 0)
  | .int x, .int y, _ => by
    show PySem.W.dataLt (.int x) (.int y) = decide ((if x < y then (-1 : Int) else if y < x then 1 else 0) < 0)
    rw [PySem.W.dataLt_int, decide_eq_decide]
    by_cases h1 : x < y
    · rw [if_pos h1]; omega
    · rw [if_neg h1]
      by_cases h2 : y < x
      · rw [if_pos h2]; omega
      · rw [if_neg h2]; omega
  | .tup x, .tup y, h => by
    show PySem.W.dataLt (.tuple (N.ps x)) (.tuple (N.ps y)) = _
    rw [PySem.W.dataLt_tuple]
    exact dataLts_N h
  | .int _, .str _, h | .int _, .non, h | .int _, .bl _, h | .int _, .tup _, h | .int _, .lst _, h => by cases h
  | .tup _, .int _, h | .tup _, .str _, h | .tup _, .non, h | .tup _, .bl _, h | .tup _, .lst _, h => by cases h
  | .str _, _, h | .non, _, h | .bl _, _, h | .lst _, _, h => by cases h
theorem dataLts_N : ∀ {x y : List N}, N.shs x y = true → PyProof.Rows.lexLt PyProof.Rows.itemOrd (PySem.W.keyToksAll (N.ps x)) (PySem.W.keyToksAll (N.ps y)) = decide (lx (N.flats x) (N.flats y) < 0)
  | [], [], _ => by
    show PyProof.Rows.lexLt PyProof.Rows.itemOrd (PySem.W.keyToksAll []) (PySem.W.keyToksAll []) = decide ((0 : Int) < 0)
    rw [PySem.W.keyToksAll, PySem.W.lex_one]
    rfl
  | a :: x, b :: y, h => by
    rw [N.shs, Bool.and_eq_true] at h
    rw [N.ps, N.ps, PySem.W.dataLt_cons (alike_N h.1), N.flats, N.flats, lx_app _ _ _ _ (N.flat_len h.1), eqv_flat h.1, dataLt_N h.1, dataLts_N h.2]
    by_cases c : lx a.flat b.flat = 0
    · simp [c]
    · simp [c]
  | [], _ :: _, h => by cases h
  | _ :: _, [], h => by cases h
end
/-- ascending (descending) by the ints of the keys -/
def leK {α : Type} (rev : Bool) (f : α → List Int) (a b : α) : Bool := if rev then decide (lx (f b) (f a) ≤ 0) else decide (lx (f a) (f b) ≤ 0)
theorem leK_trans {α : Type} {rev : Bool} {f : α → List Int} (a b c : α) (h : leK rev f a b = true) (h' : leK rev f b c = true) : leK rev f a c = true := by
  cases rev
  · exact decide_eq_true (lx_trans (of_decide_eq_true h) (of_decide_eq_true h'))
  · exact decide_eq_true (lx_trans (of_decide_eq_true h') (of_decide_eq_true h))
theorem leK_total {α : Type} {rev : Bool} {f : α → List Int} (a b : α) : (leK rev f a b || leK rev f b a) = true := by
  rw [Bool.or_eq_true]
  have h := lx_neg (f a) (f b)
  cases rev
  · by_cases c : lx (f a) (f b) ≤ 0
    · exact .inl (decide_eq_true c)
    · exact .inr (decide_eq_true (by omega))
  · by_cases c : lx (f a) (f b) ≤ 0
    · exact .inr (decide_eq_true c)
    · exact .inl (decide_eq_true (by omega))
theorem leK_anti {α : Type} {rev : Bool} {f : α → List Int} {a b : α} (h : leK rev f a b = true) (h' : leK rev f b a = true) : f a = f b := by
  have hn := lx_neg (f a) (f b)
  cases rev
  · have h1 : lx (f a) (f b) ≤ 0 := of_decide_eq_true h
    have h2 : lx (f b) (f a) ≤ 0 := of_decide_eq_true h'
    exact lx_zero (by omega)
  · have h1 : lx (f b) (f a) ≤ 0 := of_decide_eq_true h
    have h2 : lx (f a) (f b) ≤ 0 := of_decide_eq_true h'
    exact lx_zero (by omega)
def sortK {α : Type} (rev : Bool) (f : α → List Int) (xs : List α) : List α := xs.mergeSort (leK rev f)
theorem sortK_perm {α : Type} (rev : Bool) (f : α → List Int) (xs : List α) : (sortK rev f xs).Perm xs := List.mergeSort_perm _ _
theorem sortK_pw {α : Type} (rev : Bool) (f : α → List Int) (xs : List α) : (sortK rev f xs).Pairwise fun a b => leK rev f a b = true := List.pairwise_mergeSort leK_trans leK_total _
/-- what is sorted by such keys is told by what it holds -/
theorem sortK_uniq {α : Type} {rev : Bool} {f : α → List Int} {xs ys : List α} (hp : ys.Perm xs) (hs : ys.Pairwise fun a b => leK rev f a b = true) (inj : ∀ a ∈ xs, ∀ b ∈ xs, f a = f b → a = b) : sortK rev f xs = ys := by
  refine List.Perm.eq_of_pairwise (le := fun a b => leK rev f a b = true) (fun a b ha hb h1 h2 => ?_) (sortK_pw rev f xs) hs ((sortK_perm rev f xs).trans hp.symm)
  exact inj a ((sortK_perm rev f xs).mem_iff.mp ha) b (hp.mem_iff.mp hb) (leK_anti h1 h2)
theorem dataLe_leK {α : Type} {rev : Bool} {k : D → PyData} {emb : α → D} {kn : α → N} {xs : List α} (hk : ∀ x ∈ xs, k (emb x) = (kn x).p) (hs : ∀ x ∈ xs, ∀ y ∈ xs, N.sh (kn x) (kn y) = true) :
    srtD rev k (xs.map emb) = (sortK rev (fun x => (kn x).flat) xs).map emb := by
  unfold srtD sortK
  refine (List.map_mergeSort fun a ha b hb => ?_).symm
  rw [PySem.W.dataLe_eq]
  unfold leK
  simp only [hk a ha, hk b hb]
  have n1 := lx_neg (kn a).flat (kn b).flat
  cases rev
  · show decide (lx (kn a).flat (kn b).flat ≤ 0) = !PySem.W.dataLt (kn b).p (kn a).p
    rw [dataLt_N (hs b hb a ha), ← decide_not, decide_eq_decide]
    omega
  · show decide (lx (kn b).flat (kn a).flat ≤ 0) = !PySem.W.dataLt (kn a).p (kn b).p
    rw [dataLt_N (hs a ha b hb), ← decide_not, decide_eq_decide]
    omega
theorem sortOk_N {α : Type} {kn : α → N} {xs : List α} (hs : ∀ x ∈ xs, ∀ y ∈ xs, N.sh (kn x) (kn y) = true) (ht : (∀ x ∈ xs, ∃ a l, kn x = .tup (a :: l)) ∨ ∀ x ∈ xs, ∃ i, kn x = .int i) : sortOk (xs.map fun x => (kn x).p) := by
  refine ⟨fun d hd d' hd' => ?_, ?_⟩
  · obtain ⟨x, hx, rfl⟩ := List.mem_map.mp hd
    obtain ⟨y, hy, rfl⟩ := List.mem_map.mp hd'
    exact alike_N (hs x hx y hy)
  · rcases ht with ht | ht
    · refine .inl fun d hd => ?_
      obtain ⟨x, hx, rfl⟩ := List.mem_map.mp hd
      obtain ⟨a, l, e⟩ := ht x hx
      rw [e]
      exact ⟨a.p, N.ps l, rfl⟩
    · refine .inr fun d hd => ?_
      obtain ⟨x, hx, rfl⟩ := List.mem_map.mp hd
      obtain ⟨i, e⟩ := ht x hx
      rw [e]
      exact ⟨fun z => (nomatch z), fun _ z => (nomatch z)⟩
/-- sorted(xs) -/
theorem sorted_N {α : Type} {st : Store} {emb : α → D} {kn : α → N} {xs : List α} (he : ∀ x ∈ xs, emb x = (kn x).d) (hs : ∀ x ∈ xs, ∀ y ∈ xs, N.sh (kn x) (kn y) = true) (ho : ∀ x ∈ xs, (kn x).ok = true ∧ (kn x).dep ≤ 20) (ht : (∀ x ∈ xs, ∃ a l, kn x = .tup (a :: l)) ∨ ∀ x ∈ xs, ∃ i, kn x = .int i) :
    Bi.g .sorted st [.lst (xs.map emb)] = some (.newL ((sortK false (fun x => (kn x).flat) xs).map emb)) := by
  show gSrt st (.lst (xs.map emb)) = _
  unfold gSrt
  have hp : ∀ x ∈ xs, pyN st 20 (emb x) = some (kn x).p := fun x hx => by rw [he x hx, pyN_N _ (ho x hx).2 (ho x hx).1]
  have hk : ∀ x ∈ xs, kyD st (emb x) = (kn x).p := fun x hx => by unfold kyD; rw [hp x hx]; rfl
  rw [if_pos (show lstO (D.lst (xs.map emb)) = true from rfl), seqD_lst]
  simp only
  rw [if_pos, dataLe_leK hk hs]
  refine dec_eq ⟨fun d hd => ?_, ?_⟩
  · obtain ⟨x, hx, rfl⟩ := List.mem_map.mp hd
    rw [hp x hx]
    rfl
  · rw [List.map_map]
    have : xs.map (kyD st ∘ emb) = xs.map fun x => (kn x).p := List.map_congr_left fun x hx => hk x hx
    rw [this]
    exact ⟨(sortOk_N hs ht).1, .inl (sortOk_N hs ht).2⟩
/-- sorted(xs, key=..) -/
theorem srtK_N {α : Type} {st : Store} {fb : Den} {env : Env} {j : Nat} {rev : Bool} {emb : α → D} {kn : α → N} {xs : List α} (hf : ∀ x ∈ xs, fb (env.set j (some (emb x))) st = .ok (kn x).d st) (hs : ∀ x ∈ xs, ∀ y ∈ xs, N.sh (kn x) (kn y) = true) (ho : ∀ x ∈ xs, (kn x).ok = true ∧ (kn x).dep ≤ 20) (ht : (∀ x ∈ xs, ∃ a l, kn x = .tup (a :: l)) ∨ ∀ x ∈ xs, ∃ i, kn x = .int i) :
    gSrtK fb env j rev st (.lst (xs.map emb)) = some (.newL ((sortK rev (fun x => (kn x).flat) xs).map emb)) := by
  unfold gSrtK
  have hkd : ∀ x ∈ xs, kdOf fb env j st (emb x) = (kn x).d := fun x hx => by unfold kdOf; rw [hf x hx]
  have hp : ∀ x ∈ xs, pyN st 20 (kdOf fb env j st (emb x)) = some (kn x).p := fun x hx => by rw [hkd x hx, pyN_N _ (ho x hx).2 (ho x hx).1]
  have hk : ∀ x ∈ xs, kyD st (kdOf fb env j st (emb x)) = (kn x).p := fun x hx => by unfold kyD; rw [hp x hx]; rfl
  rw [if_pos (show lstO (D.lst (xs.map emb)) = true from rfl), seqD_lst]
  simp only
  rw [if_pos, dataLe_leK (k := fun d => kyD st (kdOf fb env j st d)) hk hs]
  refine dec_eq ⟨fun d hd => ?_, fun d hd => ?_, ?_⟩
  · obtain ⟨x, hx, rfl⟩ := List.mem_map.mp hd
    rw [hf x hx, hkd x hx]
  · obtain ⟨x, hx, rfl⟩ := List.mem_map.mp hd
    rw [hp x hx]
    rfl
  · rw [List.map_map]
    have : xs.map ((fun d => kyD st (kdOf fb env j st d)) ∘ emb) = xs.map fun x => (kn x).p := List.map_congr_left fun x hx => hk x hx
    rw [this]
    exact sortOk_N hs ht
end
end L2.PyD
/-! Orders of monomials: their keys and their rows. -/
namespace L2.PyD
open PySem PySem.Spec PyProof.Rows
noncomputable section
inductive Ordr where
  | lex | dlex | drl | wts (ws : List Int) | blk (b : Nat)
def Ordr.n : Ordr → N
  | .lex => .str "lex"
  | .dlex => .str "deglex"
  | .drl => .str "degrevlex"
  | .wts ws => .tup [.str "weights", tn ws]
  | .blk b => .tup [.str "block", .int b]
/-- an order for n variables -/
def Ordr.ok (n : Nat) : Ordr → Prop
  | .wts ws => ws.length = n ∧ ∀ w ∈ ws, 1 ≤ w ∧ w ≤ 20
  | .blk b => 1 ≤ b ∧ b < n
  | _ => True
def negs (l : List Int) : List Int := l.map fun x => -x
def rvL (m : List Int) : List Int := m.sum :: negs m.reverse
def rvN (m : List Int) : N := .tup [.int m.sum, tn (negs m.reverse)]
def wsum (ws m : List Int) : Int := ((ws.zip m).map fun p => p.1 * p.2).sum
def keyN : Ordr → List Int → N
  | .lex, m => tn m
  | .dlex, m => .tup [.int m.sum, tn m]
  | .drl, m => rvN m
  | .wts ws, m => .tup [.int (wsum ws m), rvN m]
  | .blk b, m => .tup [rvN (m.take b), rvN (m.drop b)]
def keyF : Ordr → List Int → List Int
  | .lex, m => m
  | .dlex, m => m.sum :: m
  | .drl, m => rvL m
  | .wts ws, m => wsum ws m :: rvL m
  | .blk b, m => rvL (m.take b) ++ rvL (m.drop b)
theorem flats_ints : ∀ l : List Int, N.flats (l.map N.int) = l
  | [] => rfl
  | x :: r => by rw [List.map_cons, N.flats, flats_ints r]; rfl
theorem tn_flat (l : List Int) : (tn l).flat = l := flats_ints l
theorem rvN_flat (m : List Int) : (rvN m).flat = rvL m := by
  show [m.sum] ++ ((tn (negs m.reverse)).flat ++ []) = _
  rw [tn_flat, List.append_nil]
  rfl
theorem keyN_flat : ∀ (o : Ordr) (m : List Int), (keyN o m).flat = keyF o m
  | .lex, m => tn_flat m
  | .dlex, m => by
    show [m.sum] ++ ((tn m).flat ++ []) = _
    rw [tn_flat, List.append_nil]
    rfl
  | .drl, m => rvN_flat m
  | .wts ws, m => by
    show [wsum ws m] ++ ((rvN m).flat ++ []) = _
    rw [rvN_flat, List.append_nil]
    rfl
  | .blk b, m => by
    show (rvN (m.take b)).flat ++ ((rvN (m.drop b)).flat ++ []) = _
    rw [rvN_flat, rvN_flat, List.append_nil]
    rfl
theorem shs_ints : ∀ {a b : List Int}, a.length = b.length → N.shs (a.map N.int) (b.map N.int) = true
  | [], [], _ => rfl
  | x :: a, y :: b, h => by
    rw [List.map_cons, List.map_cons, N.shs, shs_ints (by simpa using h)]
    rfl
  | [], _ :: _, h => by cases h
  | _ :: _, [], h => by cases h
theorem tn_sh {a b : List Int} (h : a.length = b.length) : N.sh (tn a) (tn b) = true := shs_ints h
theorem rvN_sh {a b : List Int} (h : a.length = b.length) : N.sh (rvN a) (rvN b) = true := by
  show (true && (N.sh (tn _) (tn _) && true)) = true
  rw [tn_sh (by simp [negs, h])]
  rfl
theorem keyN_sh {a b : List Int} (h : a.length = b.length) : ∀ o : Ordr, N.sh (keyN o a) (keyN o b) = true
  | .lex => tn_sh h
  | .dlex => by
    show (true && (N.sh (tn a) (tn b) && true)) = true
    rw [tn_sh h]
    rfl
  | .drl => rvN_sh h
  | .wts ws => by
    show (true && (N.sh (rvN a) (rvN b) && true)) = true
    rw [rvN_sh h]
    rfl
  | .blk k => by
    show (N.sh (rvN _) (rvN _) && (N.sh (rvN _) (rvN _) && true)) = true
    rw [rvN_sh (by simp [h]), rvN_sh (by simp [h])]
    rfl
theorem rvN_ok (m : List Int) : (rvN m).ok = true := by
  show (true && ((tn _).ok && true)) = true
  rw [tn_ok]
  rfl
theorem rvN_dep (m : List Int) : (rvN m).dep = 2 := by
  show max 0 (max (tn _).dep 0) + 1 = 2
  rw [tn_dep]
  rfl
theorem keyN_ok (m : List Int) : ∀ o : Ordr, (keyN o m).ok = true
  | .lex => tn_ok m
  | .dlex => by
    show (true && ((tn m).ok && true)) = true
    rw [tn_ok]
    rfl
  | .drl => rvN_ok m
  | .wts ws => by
    show (true && ((rvN m).ok && true)) = true
    rw [rvN_ok]
    rfl
  | .blk b => by
    show ((rvN _).ok && ((rvN _).ok && true)) = true
    rw [rvN_ok, rvN_ok]
    rfl
theorem keyN_dep (m : List Int) : ∀ o : Ordr, (keyN o m).dep ≤ 3
  | .lex => by
    show (tn m).dep ≤ 3
    rw [tn_dep]
    decide
  | .dlex => by
    show max 0 (max (tn m).dep 0) + 1 ≤ 3
    rw [tn_dep]
    decide
  | .drl => by
    show (rvN m).dep ≤ 3
    rw [rvN_dep]
    decide
  | .wts ws => by
    show max 0 (max (rvN m).dep 0) + 1 ≤ 3
    rw [rvN_dep]
    decide
  | .blk b => by
    show max (rvN _).dep (max (rvN _).dep 0) + 1 ≤ 3
    rw [rvN_dep, rvN_dep]
    decide
theorem keyN_tup {o : Ordr} {m : List Int} (h : m ≠ []) : ∃ a l, keyN o m = .tup (a :: l) := by
  cases o with
  | lex =>
    cases m with
    | nil => exact absurd rfl h
    | cons x r => exact ⟨.int x, r.map N.int, rfl⟩
  | dlex => exact ⟨_, _, rfl⟩
  | drl => exact ⟨_, _, rfl⟩
  | wts ws => exact ⟨_, _, rfl⟩
  | blk b => exact ⟨_, _, rfl⟩

/-! ### differences -/
def subL (a b : List Int) : List Int := List.zipWith (fun x y => x - y) a b
def addL (a b : List Int) : List Int := List.zipWith (fun x y => x + y) a b
theorem subL_len {a b : List Int} (h : a.length = b.length) : (subL a b).length = a.length := by simp [subL, h]
theorem addL_len {a b : List Int} (h : a.length = b.length) : (addL a b).length = a.length := by simp [addL, h]
/-- the sign of the first that is not zero -/
def frst : List Int → Int
  | [] => 0
  | d :: r => if d < 0 then -1 else if 0 < d then 1 else frst r
theorem lx_frst : ∀ {a b : List Int}, a.length = b.length → lx a b = frst (subL a b)
  | [], [], _ => rfl
  | x :: a, y :: b, h => by
    have ih := lx_frst (a := a) (b := b) (by simpa using h)
    show (if x < y then (-1 : Int) else if y < x then 1 else lx a b) = if x - y < 0 then -1 else if 0 < x - y then 1 else frst (subL a b)
    rw [ih]
    by_cases h1 : x < y
    · rw [if_pos h1, if_pos (by omega)]
    · rw [if_neg h1, if_neg (show ¬ x - y < 0 by omega)]
      by_cases h2 : y < x
      · rw [if_pos h2, if_pos (show 0 < x - y by omega)]
      · rw [if_neg h2, if_neg (show ¬ 0 < x - y by omega)]
  | [], _ :: _, h => by cases h
  | _ :: _, [], h => by cases h
theorem frst_app : ∀ a b : List Int, frst (a ++ b) = if frst a = 0 then frst b else frst a
  | [], b => by simp [frst]
  | x :: a, b => by
    have ih := frst_app a b
    simp only [List.cons_append, frst]
    split
    · simp
    · split
      · simp
      · exact ih
theorem frst_zero : ∀ {a : List Int}, frst a = 0 → ∀ x ∈ a, x = 0
  | d :: r, h, x, m => by
    unfold frst at h
    by_cases h1 : d < 0
    · rw [if_pos h1] at h; cases h
    · rw [if_neg h1] at h
      by_cases h2 : 0 < d
      · rw [if_pos h2] at h; cases h
      · rw [if_neg h2] at h
        rcases List.mem_cons.mp m with e | m
        · omega
        · exact frst_zero h x m
theorem frst_of_zero : ∀ {a : List Int}, (∀ x ∈ a, x = 0) → frst a = 0
  | [], _ => rfl
  | d :: r, h => by
    have hd := h d (List.mem_cons_self ..)
    unfold frst
    rw [if_neg (by omega), if_neg (by omega)]
    exact frst_of_zero fun x m => h x (List.mem_cons_of_mem _ m)
/-- one that follows from those ahead of it can be left out -/
theorem frst_drop {a b : List Int} {y : Int} (h : (∀ x ∈ a, x = 0) → y = 0) : frst (a ++ y :: b) = frst (a ++ b) := by
  rw [frst_app, frst_app]
  by_cases c : frst a = 0
  · rw [if_pos c, if_pos c]
    have hy := h (frst_zero c)
    show (if y < 0 then _ else if 0 < y then _ else frst b) = _
    rw [if_neg (by omega), if_neg (by omega)]
  · rw [if_neg c, if_neg c]
/-- sums, and so keys, of differences -/
theorem sum_sub : ∀ {a b : List Int}, a.length = b.length → (subL a b).sum = a.sum - b.sum
  | [], [], _ => rfl
  | x :: a, y :: b, h => by
    have ih := sum_sub (a := a) (b := b) (by simpa using h)
    show ((x - y) :: subL a b).sum = _
    rw [List.sum_cons, List.sum_cons, List.sum_cons, ih]
    omega
  | [], _ :: _, h => by cases h
  | _ :: _, [], h => by cases h
theorem sum_add : ∀ {a b : List Int}, a.length = b.length → (addL a b).sum = a.sum + b.sum
  | [], [], _ => rfl
  | x :: a, y :: b, h => by
    have ih := sum_add (a := a) (b := b) (by simpa using h)
    show ((x + y) :: addL a b).sum = _
    rw [List.sum_cons, List.sum_cons, List.sum_cons, ih]
    omega
  | [], _ :: _, h => by cases h
  | _ :: _, [], h => by cases h
theorem wsum_cons (w x : Int) (ws a : List Int) : wsum (w :: ws) (x :: a) = w * x + wsum ws a := by
  show (w * x :: _).sum = _
  rw [List.sum_cons]
  rfl
theorem wsum_sub : ∀ {ws a b : List Int}, a.length = b.length → ws.length = a.length → wsum ws (subL a b) = wsum ws a - wsum ws b
  | [], [], [], _, _ => rfl
  | w :: ws, x :: a, y :: b, h, h' => by
    have ih := wsum_sub (ws := ws) (a := a) (b := b) (by simpa using h) (by simpa using h')
    show wsum (w :: ws) ((x - y) :: subL a b) = _
    rw [wsum_cons, wsum_cons, wsum_cons, ih, Int.mul_sub]
    omega
  | _, [], _ :: _, h, _ => by cases h
  | _, _ :: _, [], h, _ => by cases h
  | [], _ :: _, _, _, h => by cases h
  | _ :: _, [], _, _, h => by cases h
theorem negs_sub : ∀ {a b : List Int}, a.length = b.length → negs (subL a b) = subL (negs a) (negs b)
  | [], [], _ => rfl
  | x :: a, y :: b, h => by
    show -(x - y) :: negs (subL a b) = (-x - -y) :: subL (negs a) (negs b)
    rw [negs_sub (by simpa using h)]
    congr 1
    omega
  | [], _ :: _, h => by cases h
  | _ :: _, [], h => by cases h
theorem rev_sub {a b : List Int} (h : a.length = b.length) : (subL a b).reverse = subL a.reverse b.reverse := by
  unfold subL
  rw [List.reverse_zipWith h]
theorem rvL_sub {a b : List Int} (h : a.length = b.length) : rvL (subL a b) = subL (rvL a) (rvL b) := by
  unfold rvL
  rw [sum_sub h, rev_sub h, negs_sub (by simpa using h)]
  rfl
theorem rvL_len (a : List Int) : (rvL a).length = a.length + 1 := by simp [rvL, negs]
theorem subL_app {a b c d : List Int} (h : a.length = b.length) : subL (a ++ c) (b ++ d) = subL a b ++ subL c d := by
  unfold subL
  rw [List.zipWith_append h]
theorem take_sub (a b : List Int) (k : Nat) : (subL a b).take k = subL (a.take k) (b.take k) := by
  unfold subL
  rw [List.take_zipWith]
theorem drop_sub (a b : List Int) (k : Nat) : (subL a b).drop k = subL (a.drop k) (b.drop k) := by
  unfold subL
  rw [List.drop_zipWith]
theorem keyF_sub {n : Nat} {a b : List Int} (h : a.length = n) (h' : b.length = n) : ∀ o : Ordr, o.ok n → keyF o (subL a b) = subL (keyF o a) (keyF o b)
  | .lex, _ => rfl
  | .dlex, _ => by
    show (subL a b).sum :: _ = _
    rw [sum_sub (h.trans h'.symm)]
    rfl
  | .drl, _ => rvL_sub (h.trans h'.symm)
  | .wts ws, ho => by
    show wsum ws (subL a b) :: rvL (subL a b) = _
    rw [wsum_sub (h.trans h'.symm) (ho.1.trans h.symm), rvL_sub (h.trans h'.symm)]
    rfl
  | .blk k, _ => by
    show rvL ((subL a b).take k) ++ rvL ((subL a b).drop k) = subL (_ ++ _) (_ ++ _)
    rw [take_sub, drop_sub, rvL_sub (by simp [h, h']), rvL_sub (by simp [h, h']), subL_app (by simp [rvL_len, h, h'])]
theorem keyF_len {a b : List Int} (h : a.length = b.length) (o : Ordr) : (keyF o a).length = (keyF o b).length := by
  rw [← keyN_flat, ← keyN_flat]
  exact N.flat_len (keyN_sh h o)
theorem lx_key {n : Nat} {o : Ordr} {a b : List Int} (ho : o.ok n) (h : a.length = n) (h' : b.length = n) : lx (keyF o a) (keyF o b) = frst (keyF o (subL a b)) := by
  rw [lx_frst (keyF_len (h.trans h'.symm) o), keyF_sub h h' o ho]
/-- the key tells the monomial -/
theorem negs_inj {a b : List Int} (h : negs a = negs b) : a = b := by
  have : ∀ a b : List Int, negs a = negs b → a = b := by
    intro a
    induction a with
    | nil => intro b h; cases b with | nil => rfl | cons _ _ => cases h
    | cons x a ih =>
      intro b h
      cases b with
      | nil => cases h
      | cons y b =>
        injection h with h1 h2
        have h1 : -x = -y := h1
        have : x = y := by omega
        rw [ih b h2, this]
  exact this a b h
theorem rvL_inj {a b : List Int} (h : rvL a = rvL b) : a = b := by
  injection h with _ h2
  exact List.reverse_inj.mp (negs_inj h2)
theorem keyF_inj {a b : List Int} (hl : a.length = b.length) : ∀ {o : Ordr}, keyF o a = keyF o b → a = b
  | .lex, h => h
  | .dlex, h => by injection h
  | .drl, h => rvL_inj h
  | .wts ws, h => by
    injection h with _ h2
    exact rvL_inj h2
  | .blk k, h => by
    have h : rvL (a.take k) ++ rvL (a.drop k) = rvL (b.take k) ++ rvL (b.drop k) := h
    obtain ⟨h1, h2⟩ := List.append_inj h (by simp [rvL_len, hl])
    rw [← List.take_append_drop k a, ← List.take_append_drop k b, rvL_inj h1, rvL_inj h2]
/-- what is not negative has a key that is not less than zero's -/
theorem sum_pos : ∀ {a : List Int}, (∀ x ∈ a, 0 ≤ x) → 0 ≤ a.sum ∧ (a.sum = 0 → ∀ x ∈ a, x = 0)
  | [], _ => ⟨Int.le_refl _, fun _ x m => by cases m⟩
  | d :: r, h => by
    obtain ⟨h1, h2⟩ := sum_pos (a := r) fun x m => h x (List.mem_cons_of_mem _ m)
    have hd := h d (List.mem_cons_self ..)
    rw [List.sum_cons]
    refine ⟨by omega, fun e x m => ?_⟩
    rcases List.mem_cons.mp m with q | m
    · omega
    · exact h2 (by omega) x m
theorem wsum_pos : ∀ {ws a : List Int}, (∀ w ∈ ws, 1 ≤ w) → ws.length = a.length → (∀ x ∈ a, 0 ≤ x) → a.sum ≤ wsum ws a
  | [], [], _, _, _ => Int.le_refl _
  | w :: ws, x :: a, hw, h, ha => by
    have ih := wsum_pos (ws := ws) (a := a) (fun y m => hw y (List.mem_cons_of_mem _ m)) (by simpa using h) fun y m => ha y (List.mem_cons_of_mem _ m)
    have h1 := hw w (List.mem_cons_self ..)
    have h2 := ha x (List.mem_cons_self ..)
    rw [wsum_cons, List.sum_cons]
    have : 0 ≤ (w - 1) * x := Int.mul_nonneg (by omega) h2
    rw [Int.sub_mul] at this
    omega
  | [], _ :: _, _, h, _ => by cases h
  | _ :: _, [], _, h, _ => by cases h
theorem frst_pos : ∀ {a : List Int}, (∀ x ∈ a, 0 ≤ x) → ¬ (∀ x ∈ a, x = 0) → frst a = 1
  | [], _, h => absurd (fun x m => by cases m) h
  | d :: r, h, hz => by
    have hd := h d (List.mem_cons_self ..)
    unfold frst
    rw [if_neg (by omega)]
    by_cases c : 0 < d
    · rw [if_pos c]
    · rw [if_neg c]
      refine frst_pos (fun x m => h x (List.mem_cons_of_mem _ m)) fun q => hz fun x m => ?_
      rcases List.mem_cons.mp m with e | m
      · omega
      · exact q x m
theorem frst_cons_pos {d : Int} {r : List Int} (h : 0 < d) : frst (d :: r) = 1 := by
  unfold frst
  rw [if_neg (by omega), if_pos h]
theorem frst_cons_zero {r : List Int} : frst (0 :: r) = frst r := by
  show (if (0 : Int) < 0 then _ else if (0 : Int) < 0 then _ else frst r) = _
  rw [if_neg (by omega), if_neg (by omega)]
theorem rvL_pos {a : List Int} (h : ∀ x ∈ a, 0 ≤ x) (b : List Int) : frst (rvL a ++ b) = if (∀ x ∈ a, x = 0) then frst b else 1 := by
  obtain ⟨h1, h2⟩ := sum_pos h
  show frst (a.sum :: (negs a.reverse ++ b)) = _
  by_cases c : a.sum = 0
  · have hz := h2 c
    rw [if_pos hz, c, frst_cons_zero, frst_app, if_pos]
    refine frst_of_zero fun x m => ?_
    obtain ⟨y, hy, rfl⟩ := List.mem_map.mp m
    rw [hz y (List.mem_reverse.mp hy)]
    rfl
  · have hn : ¬ ∀ x ∈ a, x = 0 := fun q => c (by
      have : ∀ l : List Int, (∀ x ∈ l, x = 0) → l.sum = 0 := by
        intro l
        induction l with
        | nil => exact fun _ => rfl
        | cons x l ih =>
          intro h
          rw [List.sum_cons, h x (List.mem_cons_self ..), ih fun y m => h y (List.mem_cons_of_mem _ m)]
          rfl
      exact this a q)
    rw [if_neg hn, frst_cons_pos (by omega)]
theorem key_pos {n : Nat} {a : List Int} (hl : a.length = n) (h : ∀ x ∈ a, 0 ≤ x) (hz : ¬ ∀ x ∈ a, x = 0) : ∀ o : Ordr, o.ok n → frst (keyF o a) = 1
  | .lex, _ => frst_pos h hz
  | .dlex, _ => by
    obtain ⟨h1, h2⟩ := sum_pos h
    exact frst_cons_pos (by
      have : a.sum ≠ 0 := fun e => hz (h2 e)
      omega)
  | .drl, _ => by
    have := rvL_pos h []
    rw [List.append_nil, if_neg hz] at this
    exact this
  | .wts ws, ho => by
    obtain ⟨h1, h2⟩ := sum_pos h
    have := wsum_pos (fun w m => (ho.2 w m).1) (ho.1.trans hl.symm) h
    exact frst_cons_pos (by
      have : a.sum ≠ 0 := fun e => hz (h2 e)
      omega)
  | .blk k, _ => by
    have := rvL_pos (a := a.take k) (fun x m => h x (List.mem_of_mem_take m)) (rvL (a.drop k))
    show frst (rvL (a.take k) ++ rvL (a.drop k)) = 1
    rw [this]
    by_cases c : ∀ x ∈ a.take k, x = 0
    · rw [if_pos c]
      have h2 := rvL_pos (a := a.drop k) (fun x m => h x (List.mem_of_mem_drop m)) []
      rw [List.append_nil, if_neg] at h2
      · exact h2
      · intro q
        refine hz fun x m => ?_
        rw [← List.take_append_drop k a] at m
        rcases List.mem_append.mp m with m | m
        · exact c x m
        · exact q x m
    · rw [if_neg c]
end
end L2.PyD
/-! Orders of monomials by rows. -/
namespace L2.PyD
open PySem PySem.Spec PyProof.Rows
noncomputable section
def unitR (n c : Nat) : List Int := (List.range n).map fun p => if p = c then 1 else 0
def segR (n a b : Nat) : List Int := (List.range n).map fun p => if a ≤ p ∧ p < b then 1 else 0
def negR (n c : Nat) : List Int := (List.range n).map fun p => if p = c then -1 else 0
def rvRows (n a b : Nat) : List (List Int) := segR n a b :: (List.range (b - 1 - a)).map fun k => negR n (b - 1 - k)
def rowsO (n : Nat) : Ordr → List (List Int)
  | .lex => (List.range n).map (unitR n)
  | .dlex => List.replicate n 1 :: ((List.range n).map (unitR n)).dropLast
  | .drl => rvRows n 0 n
  | .wts ws => ws :: rvRows n 0 n
  | .blk b => rvRows n 0 b ++ rvRows n b n
theorem rvRows_key {n : Nat} {d : List Int} (hn : 1 ≤ n) (hn4 : n ≤ 4) (hl : d.length = n) : frst ((rvRows n 0 n).map fun r => wsum r d) = frst (rvL d) := by
  match n, d, hl, hn, hn4 with
  | 1, [a], _, _, _ =>
    have e1 : (rvRows 1 0 1).map (fun r => wsum r [a]) = [a] := by simp [rvRows, segR, negR, wsum, List.range, List.range.loop]
    have e2 : rvL [a] = [a] ++ (-a) :: [] := by simp [rvL, negs]
    rw [e1, e2, frst_drop, List.append_nil]
    intro h; have := h a (by simp); omega
  | 2, [a, b], _, _, _ =>
    have e1 : (rvRows 2 0 2).map (fun r => wsum r [a, b]) = [a + b, -b] := by simp [rvRows, segR, negR, wsum, List.range, List.range.loop]
    have e2 : rvL [a, b] = [a + b, -b] ++ (-a) :: [] := by simp [rvL, negs]
    rw [e1, e2, frst_drop, List.append_nil]
    intro h; have h1 := h (a + b) (by simp); have h2 := h (-b) (by simp); omega
  | 3, [a, b, c], _, _, _ =>
    have e1 : (rvRows 3 0 3).map (fun r => wsum r [a, b, c]) = [a + (b + c), -c, -b] := by simp [rvRows, segR, negR, wsum, List.range, List.range.loop]
    have e2 : rvL [a, b, c] = [a + (b + c), -c, -b] ++ (-a) :: [] := by simp [rvL, negs]
    rw [e1, e2, frst_drop, List.append_nil]
    intro h; have h1 := h (a + (b + c)) (by simp); have h2 := h (-c) (by simp); have h3 := h (-b) (by simp); omega
  | 4, [a, b, c, e], _, _, _ =>
    have e1 : (rvRows 4 0 4).map (fun r => wsum r [a, b, c, e]) = [a + (b + (c + e)), -e, -c, -b] := by simp [rvRows, segR, negR, wsum, List.range, List.range.loop]
    have e2 : rvL [a, b, c, e] = [a + (b + (c + e)), -e, -c, -b] ++ (-a) :: [] := by simp [rvL, negs]
    rw [e1, e2, frst_drop, List.append_nil]
    intro h; have h1 := h (a + (b + (c + e))) (by simp); have h2 := h (-e) (by simp); have h3 := h (-c) (by simp); have h4 := h (-b) (by simp); omega
theorem rows_key {n : Nat} {o : Ordr} {d : List Int} (ho : o.ok n) (hn : 1 ≤ n) (hn4 : n ≤ 4) (hl : d.length = n) : frst ((rowsO n o).map fun r => wsum r d) = frst (keyF o d) := by
  cases o with
  | lex =>
    have : (rowsO n .lex).map (fun r => wsum r d) = d := by
      match n, d, hl, hn, hn4 with
      | 1, [a], _, _, _ => simp [rowsO, unitR, wsum, List.range, List.range.loop]
      | 2, [a, b], _, _, _ => simp [rowsO, unitR, wsum, List.range, List.range.loop]
      | 3, [a, b, c], _, _, _ => simp [rowsO, unitR, wsum, List.range, List.range.loop]
      | 4, [a, b, c, e], _, _, _ => simp [rowsO, unitR, wsum, List.range, List.range.loop]
    rw [this]
    rfl
  | dlex =>
    match n, d, hl, hn, hn4 with
    | 1, [a], _, _, _ =>
      have e1 : (rowsO 1 .dlex).map (fun r => wsum r [a]) = [a] := by simp [rowsO, unitR, wsum, List.range, List.range.loop, List.replicate]
      have e2 : keyF .dlex [a] = [a] ++ a :: [] := by simp [keyF]
      rw [e1, e2, frst_drop, List.append_nil]
      intro h; have := h a (by simp); omega
    | 2, [a, b], _, _, _ =>
      have e1 : (rowsO 2 .dlex).map (fun r => wsum r [a, b]) = [a + b, a] := by simp [rowsO, unitR, wsum, List.range, List.range.loop, List.replicate]
      have e2 : keyF .dlex [a, b] = [a + b, a] ++ b :: [] := by simp [keyF]
      rw [e1, e2, frst_drop, List.append_nil]
      intro h; have h1 := h (a + b) (by simp); have h2 := h a (by simp); omega
    | 3, [a, b, c], _, _, _ =>
      have e1 : (rowsO 3 .dlex).map (fun r => wsum r [a, b, c]) = [a + (b + c), a, b] := by simp [rowsO, unitR, wsum, List.range, List.range.loop, List.replicate]
      have e2 : keyF .dlex [a, b, c] = [a + (b + c), a, b] ++ c :: [] := by simp [keyF]
      rw [e1, e2, frst_drop, List.append_nil]
      intro h; have h1 := h (a + (b + c)) (by simp); have h2 := h a (by simp); have h3 := h b (by simp); omega
    | 4, [a, b, c, e], _, _, _ =>
      have e1 : (rowsO 4 .dlex).map (fun r => wsum r [a, b, c, e]) = [a + (b + (c + e)), a, b, c] := by simp [rowsO, unitR, wsum, List.range, List.range.loop, List.replicate]
      have e2 : keyF .dlex [a, b, c, e] = [a + (b + (c + e)), a, b, c] ++ e :: [] := by simp [keyF]
      rw [e1, e2, frst_drop, List.append_nil]
      intro h; have h1 := h (a + (b + (c + e))) (by simp); have h2 := h a (by simp); have h3 := h b (by simp); have h4 := h c (by simp); omega
  | drl => exact rvRows_key hn hn4 hl
  | wts ws =>
    show frst (wsum ws d :: (rvRows n 0 n).map fun r => wsum r d) = frst (wsum ws d :: rvL d)
    have := rvRows_key hn hn4 hl
    unfold frst
    rw [this]
  | blk k =>
    obtain ⟨h1, h2⟩ := ho
    match n, d, hl, k, h1, h2, hn4 with
    | 1, _, _, _, h1, h2, _ => omega
    | 2, [a, b], _, 1, _, _, _ =>
      have e1 : (rowsO 2 (.blk 1)).map (fun r => wsum r [a, b]) = [a, b] := by simp [rowsO, rvRows, segR, negR, wsum, List.range, List.range.loop]
      have e2 : keyF (.blk 1) [a, b] = [a] ++ (-a) :: ([b] ++ (-b) :: []) := by simp [keyF, rvL, negs]
      rw [e1, e2, frst_drop, ← List.append_assoc, frst_drop, List.append_nil]
      · rfl
      · intro h; have h2 := h b (by simp); omega
      · intro h; have h2 := h a (by simp); omega
    | 3, [a, b, c], _, 1, _, _, _ =>
      have e1 : (rowsO 3 (.blk 1)).map (fun r => wsum r [a, b, c]) = [a, b + c, -c] := by simp [rowsO, rvRows, segR, negR, wsum, List.range, List.range.loop]
      have e2 : keyF (.blk 1) [a, b, c] = [a] ++ (-a) :: ([b + c, -c] ++ (-b) :: []) := by simp [keyF, rvL, negs]
      rw [e1, e2, frst_drop, ← List.append_assoc, frst_drop, List.append_nil]
      · rfl
      · intro h; have h2 := h (b + c) (by simp); have h3 := h (-c) (by simp); omega
      · intro h; have h2 := h a (by simp); omega
    | 3, [a, b, c], _, 2, _, _, _ =>
      have e1 : (rowsO 3 (.blk 2)).map (fun r => wsum r [a, b, c]) = [a + b, -b, c] := by simp [rowsO, rvRows, segR, negR, wsum, List.range, List.range.loop]
      have e2 : keyF (.blk 2) [a, b, c] = [a + b, -b] ++ (-a) :: ([c] ++ (-c) :: []) := by simp [keyF, rvL, negs]
      rw [e1, e2, frst_drop, ← List.append_assoc, frst_drop, List.append_nil]
      · rfl
      · intro h; have h2 := h c (by simp); omega
      · intro h; have h2 := h (a + b) (by simp); have h3 := h (-b) (by simp); omega
    | 4, [a, b, c, e], _, 1, _, _, _ =>
      have e1 : (rowsO 4 (.blk 1)).map (fun r => wsum r [a, b, c, e]) = [a, b + (c + e), -e, -c] := by simp [rowsO, rvRows, segR, negR, wsum, List.range, List.range.loop]
      have e2 : keyF (.blk 1) [a, b, c, e] = [a] ++ (-a) :: ([b + (c + e), -e, -c] ++ (-b) :: []) := by simp [keyF, rvL, negs]
      rw [e1, e2, frst_drop, ← List.append_assoc, frst_drop, List.append_nil]
      · rfl
      · intro h; have h2 := h (b + (c + e)) (by simp); have h3 := h (-e) (by simp); have h4 := h (-c) (by simp); omega
      · intro h; have h2 := h a (by simp); omega
    | 4, [a, b, c, e], _, 2, _, _, _ =>
      have e1 : (rowsO 4 (.blk 2)).map (fun r => wsum r [a, b, c, e]) = [a + b, -b, c + e, -e] := by simp [rowsO, rvRows, segR, negR, wsum, List.range, List.range.loop]
      have e2 : keyF (.blk 2) [a, b, c, e] = [a + b, -b] ++ (-a) :: ([c + e, -e] ++ (-c) :: []) := by simp [keyF, rvL, negs]
      rw [e1, e2, frst_drop, ← List.append_assoc, frst_drop, List.append_nil]
      · rfl
      · intro h; have h2 := h (c + e) (by simp); have h3 := h (-e) (by simp); omega
      · intro h; have h2 := h (a + b) (by simp); have h3 := h (-b) (by simp); omega
    | 4, [a, b, c, e], _, 3, _, _, _ =>
      have e1 : (rowsO 4 (.blk 3)).map (fun r => wsum r [a, b, c, e]) = [a + (b + c), -c, -b, e] := by simp [rowsO, rvRows, segR, negR, wsum, List.range, List.range.loop]
      have e2 : keyF (.blk 3) [a, b, c, e] = [a + (b + c), -c, -b] ++ (-a) :: ([e] ++ (-e) :: []) := by simp [keyF, rvL, negs]
      rw [e1, e2, frst_drop, ← List.append_assoc, frst_drop, List.append_nil]
      · rfl
      · intro h; have h2 := h e (by simp); omega
      · intro h; have h2 := h (a + (b + c)) (by simp); have h3 := h (-c) (by simp); have h4 := h (-b) (by simp); omega
end
end L2.PyD
/-! Orders as values. -/
namespace L2.PyD
open PySem PySem.Spec PyProof.Rows
noncomputable section
theorem c_eqS {st : Store} {a b : Str} (ha : PyData.strOk a = true) (hb : PyData.strOk b = true) : cmpG' .Eq st (.str a) (.str b) = some (decide (a = b)) := by
  have := c_eqN (st := st) (a := .str a) (b := .str b) ha hb (Nat.zero_le _) (Nat.zero_le _)
  rw [show (N.str a).d = D.str a from rfl, show (N.str b).d = D.str b from rfl] at this
  rw [this]
  congr 1
  rw [decide_eq_decide]
  exact ⟨fun h => by injection h, fun h => by rw [h]⟩
theorem c_neS {st : Store} {a b : Str} (ha : PyData.strOk a = true) (hb : PyData.strOk b = true) : cmpG' .NotEq st (.str a) (.str b) = some (!decide (a = b)) := by
  have := c_neN (st := st) (a := .str a) (b := .str b) ha hb (Nat.zero_le _) (Nat.zero_le _)
  rw [show (N.str a).d = D.str a from rfl, show (N.str b).d = D.str b from rfl] at this
  rw [this]
  congr 2
  rw [decide_eq_decide]
  exact ⟨fun h => by injection h, fun h => by rw [h]⟩
theorem c_eqTS {st : Store} {l : List N} {b : Str} (ha : (N.tup l).ok = true) (da : (N.tup l).dep ≤ 60) (hb : PyData.strOk b = true) : cmpG' .Eq st (.tup (N.ds l)) (.str b) = some false := by
  have := c_eqN (st := st) (a := .tup l) (b := .str b) ha hb da (Nat.zero_le _)
  rw [show (N.tup l).d = D.tup (N.ds l) from rfl, show (N.str b).d = D.str b from rfl] at this
  rw [this]
  congr 1
  exact decide_eq_false fun h => nomatch h
section
variable {st : Store}
theorem strOk_lex : PyData.strOk ("lex" : Str) = true := by decide +kernel
theorem strOk_dlex : PyData.strOk ("deglex" : Str) = true := by decide +kernel
theorem strOk_drl : PyData.strOk ("degrevlex" : Str) = true := by decide +kernel
theorem strOk_w : PyData.strOk ("weights" : Str) = true := by decide +kernel
theorem strOk_b : PyData.strOk ("block" : Str) = true := by decide +kernel
theorem strOk_p : PyData.strOk ("places" : Str) = true := by decide +kernel
@[simp] theorem eqS_lex_lex : cmpG' .Eq st (.str "lex") (.str "lex") = some true := by rw [c_eqS strOk_lex strOk_lex, decide_eq_true rfl]
@[simp] theorem neS_lex_lex : cmpG' .NotEq st (.str "lex") (.str "lex") = some false := by rw [c_neS strOk_lex strOk_lex, decide_eq_true rfl]; rfl
@[simp] theorem eqS_lex_dlex : cmpG' .Eq st (.str "lex") (.str "deglex") = some false := by rw [c_eqS strOk_lex strOk_dlex, decide_eq_false (by decide +kernel)]
@[simp] theorem neS_lex_dlex : cmpG' .NotEq st (.str "lex") (.str "deglex") = some true := by rw [c_neS strOk_lex strOk_dlex, decide_eq_false (by decide +kernel)]; rfl
@[simp] theorem eqS_lex_drl : cmpG' .Eq st (.str "lex") (.str "degrevlex") = some false := by rw [c_eqS strOk_lex strOk_drl, decide_eq_false (by decide +kernel)]
@[simp] theorem neS_lex_drl : cmpG' .NotEq st (.str "lex") (.str "degrevlex") = some true := by rw [c_neS strOk_lex strOk_drl, decide_eq_false (by decide +kernel)]; rfl
@[simp] theorem eqS_lex_w : cmpG' .Eq st (.str "lex") (.str "weights") = some false := by rw [c_eqS strOk_lex strOk_w, decide_eq_false (by decide +kernel)]
@[simp] theorem neS_lex_w : cmpG' .NotEq st (.str "lex") (.str "weights") = some true := by rw [c_neS strOk_lex strOk_w, decide_eq_false (by decide +kernel)]; rfl
@[simp] theorem eqS_lex_b : cmpG' .Eq st (.str "lex") (.str "block") = some false := by rw [c_eqS strOk_lex strOk_b, decide_eq_false (by decide +kernel)]
@[simp] theorem neS_lex_b : cmpG' .NotEq st (.str "lex") (.str "block") = some true := by rw [c_neS strOk_lex strOk_b, decide_eq_false (by decide +kernel)]; rfl
@[simp] theorem eqS_lex_p : cmpG' .Eq st (.str "lex") (.str "places") = some false := by rw [c_eqS strOk_lex strOk_p, decide_eq_false (by decide +kernel)]
@[simp] theorem neS_lex_p : cmpG' .NotEq st (.str "lex") (.str "places") = some true := by rw [c_neS strOk_lex strOk_p, decide_eq_false (by decide +kernel)]; rfl
@[simp] theorem eqS_dlex_lex : cmpG' .Eq st (.str "deglex") (.str "lex") = some false := by rw [c_eqS strOk_dlex strOk_lex, decide_eq_false (by decide +kernel)]
@[simp] theorem neS_dlex_lex : cmpG' .NotEq st (.str "deglex") (.str "lex") = some true := by rw [c_neS strOk_dlex strOk_lex, decide_eq_false (by decide +kernel)]; rfl
@[simp] theorem eqS_dlex_dlex : cmpG' .Eq st (.str "deglex") (.str "deglex") = some true := by rw [c_eqS strOk_dlex strOk_dlex, decide_eq_true rfl]
@[simp] theorem neS_dlex_dlex : cmpG' .NotEq st (.str "deglex") (.str "deglex") = some false := by rw [c_neS strOk_dlex strOk_dlex, decide_eq_true rfl]; rfl
@[simp] theorem eqS_dlex_drl : cmpG' .Eq st (.str "deglex") (.str "degrevlex") = some false := by rw [c_eqS strOk_dlex strOk_drl, decide_eq_false (by decide +kernel)]
@[simp] theorem neS_dlex_drl : cmpG' .NotEq st (.str "deglex") (.str "degrevlex") = some true := by rw [c_neS strOk_dlex strOk_drl, decide_eq_false (by decide +kernel)]; rfl
@[simp] theorem eqS_dlex_w : cmpG' .Eq st (.str "deglex") (.str "weights") = some false := by rw [c_eqS strOk_dlex strOk_w, decide_eq_false (by decide +kernel)]
@[simp] theorem neS_dlex_w : cmpG' .NotEq st (.str "deglex") (.str "weights") = some true := by rw [c_neS strOk_dlex strOk_w, decide_eq_false (by decide +kernel)]; rfl
@[simp] theorem eqS_dlex_b : cmpG' .Eq st (.str "deglex") (.str "block") = some false := by rw [c_eqS strOk_dlex strOk_b, decide_eq_false (by decide +kernel)]
@[simp] theorem neS_dlex_b : cmpG' .NotEq st (.str "deglex") (.str "block") = some true := by rw [c_neS strOk_dlex strOk_b, decide_eq_false (by decide +kernel)]; rfl
@[simp] theorem eqS_dlex_p : cmpG' .Eq st (.str "deglex") (.str "places") = some false := by rw [c_eqS strOk_dlex strOk_p, decide_eq_false (by decide +kernel)]
@[simp] theorem neS_dlex_p : cmpG' .NotEq st (.str "deglex") (.str "places") = some true := by rw [c_neS strOk_dlex strOk_p, decide_eq_false (by decide +kernel)]; rfl
@[simp] theorem eqS_drl_lex : cmpG' .Eq st (.str "degrevlex") (.str "lex") = some false := by rw [c_eqS strOk_drl strOk_lex, decide_eq_false (by decide +kernel)]
@[simp] theorem neS_drl_lex : cmpG' .NotEq st (.str "degrevlex") (.str "lex") = some true := by rw [c_neS strOk_drl strOk_lex, decide_eq_false (by decide +kernel)]; rfl
@[simp] theorem eqS_drl_dlex : cmpG' .Eq st (.str "degrevlex") (.str "deglex") = some false := by rw [c_eqS strOk_drl strOk_dlex, decide_eq_false (by decide +kernel)]
@[simp] theorem neS_drl_dlex : cmpG' .NotEq st (.str "degrevlex") (.str "deglex") = some true := by rw [c_neS strOk_drl strOk_dlex, decide_eq_false (by decide +kernel)]; rfl
@[simp] theorem eqS_drl_drl : cmpG' .Eq st (.str "degrevlex") (.str "degrevlex") = some true := by rw [c_eqS strOk_drl strOk_drl, decide_eq_true rfl]
@[simp] theorem neS_drl_drl : cmpG' .NotEq st (.str "degrevlex") (.str "degrevlex") = some false := by rw [c_neS strOk_drl strOk_drl, decide_eq_true rfl]; rfl
@[simp] theorem eqS_drl_w : cmpG' .Eq st (.str "degrevlex") (.str "weights") = some false := by rw [c_eqS strOk_drl strOk_w, decide_eq_false (by decide +kernel)]
@[simp] theorem neS_drl_w : cmpG' .NotEq st (.str "degrevlex") (.str "weights") = some true := by rw [c_neS strOk_drl strOk_w, decide_eq_false (by decide +kernel)]; rfl
@[simp] theorem eqS_drl_b : cmpG' .Eq st (.str "degrevlex") (.str "block") = some false := by rw [c_eqS strOk_drl strOk_b, decide_eq_false (by decide +kernel)]
@[simp] theorem neS_drl_b : cmpG' .NotEq st (.str "degrevlex") (.str "block") = some true := by rw [c_neS strOk_drl strOk_b, decide_eq_false (by decide +kernel)]; rfl
@[simp] theorem eqS_drl_p : cmpG' .Eq st (.str "degrevlex") (.str "places") = some false := by rw [c_eqS strOk_drl strOk_p, decide_eq_false (by decide +kernel)]
@[simp] theorem neS_drl_p : cmpG' .NotEq st (.str "degrevlex") (.str "places") = some true := by rw [c_neS strOk_drl strOk_p, decide_eq_false (by decide +kernel)]; rfl
@[simp] theorem eqS_w_lex : cmpG' .Eq st (.str "weights") (.str "lex") = some false := by rw [c_eqS strOk_w strOk_lex, decide_eq_false (by decide +kernel)]
@[simp] theorem neS_w_lex : cmpG' .NotEq st (.str "weights") (.str "lex") = some true := by rw [c_neS strOk_w strOk_lex, decide_eq_false (by decide +kernel)]; rfl
@[simp] theorem eqS_w_dlex : cmpG' .Eq st (.str "weights") (.str "deglex") = some false := by rw [c_eqS strOk_w strOk_dlex, decide_eq_false (by decide +kernel)]
@[simp] theorem neS_w_dlex : cmpG' .NotEq st (.str "weights") (.str "deglex") = some true := by rw [c_neS strOk_w strOk_dlex, decide_eq_false (by decide +kernel)]; rfl
@[simp] theorem eqS_w_drl : cmpG' .Eq st (.str "weights") (.str "degrevlex") = some false := by rw [c_eqS strOk_w strOk_drl, decide_eq_false (by decide +kernel)]
@[simp] theorem neS_w_drl : cmpG' .NotEq st (.str "weights") (.str "degrevlex") = some true := by rw [c_neS strOk_w strOk_drl, decide_eq_false (by decide +kernel)]; rfl
@[simp] theorem eqS_w_w : cmpG' .Eq st (.str "weights") (.str "weights") = some true := by rw [c_eqS strOk_w strOk_w, decide_eq_true rfl]
@[simp] theorem neS_w_w : cmpG' .NotEq st (.str "weights") (.str "weights") = some false := by rw [c_neS strOk_w strOk_w, decide_eq_true rfl]; rfl
@[simp] theorem eqS_w_b : cmpG' .Eq st (.str "weights") (.str "block") = some false := by rw [c_eqS strOk_w strOk_b, decide_eq_false (by decide +kernel)]
@[simp] theorem neS_w_b : cmpG' .NotEq st (.str "weights") (.str "block") = some true := by rw [c_neS strOk_w strOk_b, decide_eq_false (by decide +kernel)]; rfl
@[simp] theorem eqS_w_p : cmpG' .Eq st (.str "weights") (.str "places") = some false := by rw [c_eqS strOk_w strOk_p, decide_eq_false (by decide +kernel)]
@[simp] theorem neS_w_p : cmpG' .NotEq st (.str "weights") (.str "places") = some true := by rw [c_neS strOk_w strOk_p, decide_eq_false (by decide +kernel)]; rfl
@[simp] theorem eqS_b_lex : cmpG' .Eq st (.str "block") (.str "lex") = some false := by rw [c_eqS strOk_b strOk_lex, decide_eq_false (by decide +kernel)]
@[simp] theorem neS_b_lex : cmpG' .NotEq st (.str "block") (.str "lex") = some true := by rw [c_neS strOk_b strOk_lex, decide_eq_false (by decide +kernel)]; rfl
@[simp] theorem eqS_b_dlex : cmpG' .Eq st (.str "block") (.str "deglex") = some false := by rw [c_eqS strOk_b strOk_dlex, decide_eq_false (by decide +kernel)]
@[simp] theorem neS_b_dlex : cmpG' .NotEq st (.str "block") (.str "deglex") = some true := by rw [c_neS strOk_b strOk_dlex, decide_eq_false (by decide +kernel)]; rfl
@[simp] theorem eqS_b_drl : cmpG' .Eq st (.str "block") (.str "degrevlex") = some false := by rw [c_eqS strOk_b strOk_drl, decide_eq_false (by decide +kernel)]
@[simp] theorem neS_b_drl : cmpG' .NotEq st (.str "block") (.str "degrevlex") = some true := by rw [c_neS strOk_b strOk_drl, decide_eq_false (by decide +kernel)]; rfl
@[simp] theorem eqS_b_w : cmpG' .Eq st (.str "block") (.str "weights") = some false := by rw [c_eqS strOk_b strOk_w, decide_eq_false (by decide +kernel)]
@[simp] theorem neS_b_w : cmpG' .NotEq st (.str "block") (.str "weights") = some true := by rw [c_neS strOk_b strOk_w, decide_eq_false (by decide +kernel)]; rfl
@[simp] theorem eqS_b_b : cmpG' .Eq st (.str "block") (.str "block") = some true := by rw [c_eqS strOk_b strOk_b, decide_eq_true rfl]
@[simp] theorem neS_b_b : cmpG' .NotEq st (.str "block") (.str "block") = some false := by rw [c_neS strOk_b strOk_b, decide_eq_true rfl]; rfl
@[simp] theorem eqS_b_p : cmpG' .Eq st (.str "block") (.str "places") = some false := by rw [c_eqS strOk_b strOk_p, decide_eq_false (by decide +kernel)]
@[simp] theorem neS_b_p : cmpG' .NotEq st (.str "block") (.str "places") = some true := by rw [c_neS strOk_b strOk_p, decide_eq_false (by decide +kernel)]; rfl
@[simp] theorem eqS_p_lex : cmpG' .Eq st (.str "places") (.str "lex") = some false := by rw [c_eqS strOk_p strOk_lex, decide_eq_false (by decide +kernel)]
@[simp] theorem neS_p_lex : cmpG' .NotEq st (.str "places") (.str "lex") = some true := by rw [c_neS strOk_p strOk_lex, decide_eq_false (by decide +kernel)]; rfl
@[simp] theorem eqS_p_dlex : cmpG' .Eq st (.str "places") (.str "deglex") = some false := by rw [c_eqS strOk_p strOk_dlex, decide_eq_false (by decide +kernel)]
@[simp] theorem neS_p_dlex : cmpG' .NotEq st (.str "places") (.str "deglex") = some true := by rw [c_neS strOk_p strOk_dlex, decide_eq_false (by decide +kernel)]; rfl
@[simp] theorem eqS_p_drl : cmpG' .Eq st (.str "places") (.str "degrevlex") = some false := by rw [c_eqS strOk_p strOk_drl, decide_eq_false (by decide +kernel)]
@[simp] theorem neS_p_drl : cmpG' .NotEq st (.str "places") (.str "degrevlex") = some true := by rw [c_neS strOk_p strOk_drl, decide_eq_false (by decide +kernel)]; rfl
@[simp] theorem eqS_p_w : cmpG' .Eq st (.str "places") (.str "weights") = some false := by rw [c_eqS strOk_p strOk_w, decide_eq_false (by decide +kernel)]
@[simp] theorem neS_p_w : cmpG' .NotEq st (.str "places") (.str "weights") = some true := by rw [c_neS strOk_p strOk_w, decide_eq_false (by decide +kernel)]; rfl
@[simp] theorem eqS_p_b : cmpG' .Eq st (.str "places") (.str "block") = some false := by rw [c_eqS strOk_p strOk_b, decide_eq_false (by decide +kernel)]
@[simp] theorem neS_p_b : cmpG' .NotEq st (.str "places") (.str "block") = some true := by rw [c_neS strOk_p strOk_b, decide_eq_false (by decide +kernel)]; rfl
@[simp] theorem eqS_p_p : cmpG' .Eq st (.str "places") (.str "places") = some true := by rw [c_eqS strOk_p strOk_p, decide_eq_true rfl]
@[simp] theorem neS_p_p : cmpG' .NotEq st (.str "places") (.str "places") = some false := by rw [c_neS strOk_p strOk_p, decide_eq_true rfl]; rfl
theorem wts_d (ws : List Int) : (Ordr.wts ws).n.d = .tup [.str "weights", .tup (ws.map D.int)] := by
  show D.tup [.str "weights", (tn ws).d] = _
  rw [tn_d]
theorem blk_d (b : Nat) : (Ordr.blk b).n.d = .tup [.str "block", .int b] := rfl
theorem ord_ok : ∀ o : Ordr, o.n.ok = true ∧ o.n.dep ≤ 2
  | .lex => ⟨strOk_lex, Nat.zero_le _⟩
  | .dlex => ⟨strOk_dlex, Nat.zero_le _⟩
  | .drl => ⟨strOk_drl, Nat.zero_le _⟩
  | .wts ws => ⟨by show (PyData.strOk _ && ((tn ws).ok && true)) = true; rw [tn_ok, strOk_w]; rfl, by show max 0 (max (tn ws).dep 0) + 1 ≤ 2; rw [tn_dep]; decide⟩
  | .blk b => ⟨by show (PyData.strOk _ && (true && true)) = true; rw [strOk_b]; rfl, by show max 0 (max 0 0) + 1 ≤ 2; decide⟩
@[simp] theorem eqW_lex (ws : List Int) : cmpG' .Eq st (.tup [.str "weights", .tup (ws.map D.int)]) (.str "lex") = some false := by
  have := c_eqN (st := st) (a := (Ordr.wts ws).n) (b := .str "lex") (ord_ok _).1 strOk_lex (Nat.le_trans (ord_ok _).2 (by decide)) (Nat.zero_le _)
  rw [wts_d] at this
  rw [show (D.str "lex" : D) = (N.str "lex").d from rfl, this, decide_eq_false (fun h => nomatch h)]
@[simp] theorem eqB_lex (k : Nat) : cmpG' .Eq st (.tup [.str "block", .int (k : Nat)]) (.str "lex") = some false := by
  have := c_eqN (st := st) (a := (Ordr.blk k).n) (b := .str "lex") (ord_ok _).1 strOk_lex (Nat.le_trans (ord_ok _).2 (by decide)) (Nat.zero_le _)
  rw [blk_d] at this
  rw [show (D.str "lex" : D) = (N.str "lex").d from rfl, this, decide_eq_false (fun h => nomatch h)]
@[simp] theorem eqW_dlex (ws : List Int) : cmpG' .Eq st (.tup [.str "weights", .tup (ws.map D.int)]) (.str "deglex") = some false := by
  have := c_eqN (st := st) (a := (Ordr.wts ws).n) (b := .str "deglex") (ord_ok _).1 strOk_dlex (Nat.le_trans (ord_ok _).2 (by decide)) (Nat.zero_le _)
  rw [wts_d] at this
  rw [show (D.str "deglex" : D) = (N.str "deglex").d from rfl, this, decide_eq_false (fun h => nomatch h)]
@[simp] theorem eqB_dlex (k : Nat) : cmpG' .Eq st (.tup [.str "block", .int (k : Nat)]) (.str "deglex") = some false := by
  have := c_eqN (st := st) (a := (Ordr.blk k).n) (b := .str "deglex") (ord_ok _).1 strOk_dlex (Nat.le_trans (ord_ok _).2 (by decide)) (Nat.zero_le _)
  rw [blk_d] at this
  rw [show (D.str "deglex" : D) = (N.str "deglex").d from rfl, this, decide_eq_false (fun h => nomatch h)]
@[simp] theorem eqW_drl (ws : List Int) : cmpG' .Eq st (.tup [.str "weights", .tup (ws.map D.int)]) (.str "degrevlex") = some false := by
  have := c_eqN (st := st) (a := (Ordr.wts ws).n) (b := .str "degrevlex") (ord_ok _).1 strOk_drl (Nat.le_trans (ord_ok _).2 (by decide)) (Nat.zero_le _)
  rw [wts_d] at this
  rw [show (D.str "degrevlex" : D) = (N.str "degrevlex").d from rfl, this, decide_eq_false (fun h => nomatch h)]
@[simp] theorem eqB_drl (k : Nat) : cmpG' .Eq st (.tup [.str "block", .int (k : Nat)]) (.str "degrevlex") = some false := by
  have := c_eqN (st := st) (a := (Ordr.blk k).n) (b := .str "degrevlex") (ord_ok _).1 strOk_drl (Nat.le_trans (ord_ok _).2 (by decide)) (Nat.zero_le _)
  rw [blk_d] at this
  rw [show (D.str "degrevlex" : D) = (N.str "degrevlex").d from rfl, this, decide_eq_false (fun h => nomatch h)]
@[simp] theorem isi_str_str {x : Str} : Bi.g .isi st [.str x, .ty "str"] = some (.val (.bl true)) := isi_one rfl (by decide +kernel)
@[simp] theorem isi_tup_str {x : List D} : Bi.g .isi st [.tup x, .ty "str"] = some (.val (.bl false)) := isi_one rfl (by decide +kernel)
@[simp] theorem isi_tup_int {x : List D} : Bi.g .isi st [.tup x, .ty "int"] = some (.val (.bl false)) := isi_one rfl (by decide +kernel)
@[simp] theorem isi_tup_bool {x : List D} : Bi.g .isi st [.tup x, .ty "bool"] = some (.val (.bl false)) := isi_one rfl (by decide +kernel)
@[simp] theorem isi_lst_str {x : List D} : Bi.g .isi st [.lst x, .ty "str"] = some (.val (.bl false)) := isi_one rfl (by decide +kernel)
@[simp] theorem isi_non_str : Bi.g .isi st [.non, .ty "str"] = some (.val (.bl false)) := isi_one rfl (by decide +kernel)
@[simp] theorem isi_non_seq : Bi.g .isi st [.non, .tup [.ty "tuple", .ty "list"]] = some (.val (.bl false)) := isi_two (r := false) (r' := false) rfl (by decide +kernel) (by decide +kernel)
@[simp] theorem isi_str_seq {x : Str} : Bi.g .isi st [.str x, .tup [.ty "tuple", .ty "list"]] = some (.val (.bl false)) := isi_two (r := false) (r' := false) rfl (by decide +kernel) (by decide +kernel)
@[simp] theorem nonD_str {x : Str} : isNonD (.str x) = false := rfl
theorem keyN_is_tup (o : Ordr) (m : List Int) : ∃ l, keyN o m = .tup l := by
  cases o <;> exact ⟨_, rfl⟩
theorem c_gtK {o : Ordr} {a b : List Int} (h : a.length = b.length) : cmpG' .Gt st (keyN o a).d (keyN o b).d = some (decide (0 < lx (keyF o a) (keyF o b))) := by
  obtain ⟨l, e⟩ := keyN_is_tup o a
  have h1 := keyN_sh h o
  have h2 := keyN_ok a o
  have h3 := keyN_dep a o
  rw [← keyN_flat, ← keyN_flat]
  rw [e] at h1 h2 h3 ⊢
  exact c_gtN h1 h2 (keyN_ok b o) (Nat.le_trans h3 (by decide)) (Nat.le_trans (keyN_dep b o) (by decide))
theorem c_ltK {o : Ordr} {a b : List Int} (h : a.length = b.length) : cmpG' .Lt st (keyN o a).d (keyN o b).d = some (decide (lx (keyF o a) (keyF o b) < 0)) := by
  obtain ⟨l, e⟩ := keyN_is_tup o a
  have h1 := keyN_sh h o
  have h2 := keyN_ok a o
  have h3 := keyN_dep a o
  rw [← keyN_flat, ← keyN_flat]
  rw [e] at h1 h2 h3 ⊢
  exact c_ltN h1 h2 (keyN_ok b o) (Nat.le_trans h3 (by decide)) (Nat.le_trans (keyN_dep b o) (by decide))
@[simp] theorem int_bl {x : Bool} : Bi.g .int st [.bl x] = some (.val (.int (if x then 1 else 0))) := rfl
theorem lx_sign (a b : List Int) : (if 0 < lx a b then (1 : Int) else 0) - (if lx a b < 0 then 1 else 0) = lx a b := by
  rcases lx_val a b with h | h | h <;> rw [h] <;> rfl
end
end
end L2.PyD
/-! The law's row at the head of the store; what is drawn by it. -/
namespace L2.PyD
open PySem PySem.Spec PyProof.Rows
noncomputable section
/-- a law's row -/
structure RowC (ns : List Int) (r : Cell) : Prop where
  ex : ∃ i s t : Int, r = rowC ns i s t ∧ 0 ≤ i ∧ 0 ≤ s ∧ s < 2147483647
theorem RowC.undr {ns : List Int} {r : Cell} (R : RowC ns r) (n : Nat) : r.undr n = true := by
  obtain ⟨i, s, t, rfl, _⟩ := R.ex
  exact row_undr n
theorem taken_row {G : Nat → D} {tbl : List Fd} {k j : Nat} {f : Fd} (hf : tbl[j]? = some f) (hb : f.body = B_taken) (hN : f.N.length = 4) {ns : List Int} {r : Cell} {s : Store} {m : Int} (R : RowC ns r) (h0 : 0 < m) (h1 : m < 2 ^ 64) :
    ∃ (v : Int) (r' : Cell), callN G tbl (k + 1) j [.cell 0, .int m] (r :: s) = .ok (.int v) (r' :: s) ∧ RowC ns r' ∧ 0 ≤ v ∧ v < m := by
  obtain ⟨i, q, t, rfl, h2, h3, h4⟩ := R.ex
  obtain ⟨v, r', e, R', g1, g2⟩ := taken_ok (G := G) (tbl := tbl) (k := k) hf hb hN (st := rowC ns i q t :: s) (c := 0) ⟨i, q, t, rfl, h2, h3, h4⟩ h0 h1
  refine ⟨v, r', e, ?_, g1, g2⟩
  obtain ⟨i', s', t', e', h⟩ := R'.ex
  have : r' = rowC ns i' s' t' := by
    have e2 : (r' :: s)[0]? = some (rowC ns i' s' t') := e'
    simpa using e2
  exact ⟨i', s', t', this, h⟩
theorem leave_rowS {ns : List Int} {r r' : Cell} {s t : Store} {d : D} (R : RowC ns r') (hd : d.undr (r :: s).length = true) : leave (r :: s) (r' :: (s ++ t)) d = .ok d (r' :: s) := by
  have := leave_top (st0 := r :: s) (s := r' :: (s ++ t)) (d := d) (by
    have := closed_set (st0 := r :: s) (j := 0) (c := r') (R.undr _) t
    simpa using this) hd
  rw [this]
  simp
theorem leave_row0 {ns : List Int} {r r' : Cell} {s : Store} {d : D} (R : RowC ns r') (hd : d.undr (r :: s).length = true) : leave (r :: s) (r' :: s) d = .ok d (r' :: s) := by
  have := leave_rowS (r := r) (s := s) (t := []) (d := d) R hd
  simpa using this
/-- a comprehension that draws -/
theorem comp_draw {p : Pr} {it : I} {own : List (Str × Nat)} {t : T} {e : E} {env : Env} {ns : List Int} {α β : Type} (xs : List α) (emb : α → D) (f : β → D) (P : β → Prop) {r : Cell} {s : Store} (R : RowC ns r)
    (hI : evI p it env (r :: s) = .ok (xs.map emb, none) (r :: s)) (hz : xs.length ≤ sizeLine) (hu : ∀ y, (f y).undr (r :: s).length = true)
    (hb : ∀ x ∈ xs, ∀ (r : Cell) (s' : Store), RowC ns r → ∃ e1, tg t (emb x) (wipeE env (own.map (·.2))) = some e1 ∧ ∃ (y : β) (r' : Cell), (ev p e).v e1 (r :: (s ++ s')) = .ok (f y) (r' :: (s ++ s')) ∧ RowC ns r' ∧ P y) :
    ∃ (ys : List β) (r' : Cell), (ev p (.comp false it own t e)).v env (r :: s) = .ok (.lst (ys.map f)) (r' :: s) ∧ RowC ns r' ∧ ys.length = xs.length ∧ ∀ y ∈ ys, P y := by
  have go : ∀ (zs : List α) (r : Cell) (acc : List β), RowC ns r → (∀ z ∈ zs, z ∈ xs) → acc.length + zs.length ≤ sizeLine → (∀ y ∈ acc, P y) → ∃ (ys : List β) (r' : Cell), compL (s.length + 1) none (wipeE env (own.map (·.2))) (tg t) bYes (ev p e).v (zs.map emb) (r :: (s ++ [.lst (acc.map f)])) = .ok () (r' :: (s ++ [.lst (ys.map f)])) ∧ RowC ns r' ∧ ys.length = acc.length + zs.length ∧ ∀ y ∈ ys, P y := by
    intro zs
    induction zs with
    | nil => exact fun r acc R _ _ hP => ⟨acc, r, rfl, R, rfl, hP⟩
    | cons z zs ih =>
      intro r acc R hm hl hP
      rw [List.length_cons] at hl
      obtain ⟨e1, h1, y, r', h2, h3, h4⟩ := hb z (hm z (List.mem_cons_self ..)) r [.lst (acc.map f)] R
      obtain ⟨ys, r2, h5, h6, h7, h8⟩ := ih r' (acc ++ [y]) h3 (fun q hq => hm q (List.mem_cons_of_mem _ hq)) (by rw [List.length_append, List.length_singleton]; omega) (fun q hq => by
        rcases List.mem_append.mp hq with hq | hq
        · exact hP q hq
        · rw [List.mem_singleton.mp hq]; exact h4)
      refine ⟨ys, r2, ?_, h6, by rw [h7, List.length_append, List.length_singleton, List.length_cons]; omega, h8⟩
      rw [List.map_cons]
      unfold compL
      rw [h1]
      have hp : push (s.length + 1) (f y) (r' :: (s ++ [.lst (acc.map f)])) = some (r' :: (s ++ [.lst ((acc ++ [y]).map f)])) := by
        have := push_last (st1 := r' :: s) (acc := acc.map f) (y := f y) (by rw [List.length_map]; omega)
        rw [List.map_append, List.map_singleton]
        exact this
      simp only [bYes, onox_ok, obind_ok, if_true, h2, hp]
      rw [if_pos (show Gd none _ from trivial)]
      exact h5
  obtain ⟨ys, r', h1, h2, h3, h4⟩ := go xs r [] R (fun z h => h) (by simpa using hz) (fun y h => by cases h)
  refine ⟨ys, r', ?_, h2, by simpa using h3, h4⟩
  rw [v_comp, hI]
  simp only [obind_ok]
  show (compL (s.length + 1) none (wipeE env (own.map (·.2))) (tg t) bYes (ev p e).v (xs.map emb) (r :: (s ++ [.lst []]))).bind _ = _
  have h1 : compL (s.length + 1) none (wipeE env (own.map (·.2))) (tg t) bYes (ev p e).v (xs.map emb) (r :: (s ++ [.lst []])) = .ok () (r' :: (s ++ [.lst (ys.map f)])) := h1
  rw [h1]
  simp only [obind_ok]
  show give false (r :: s) (r' :: (s ++ [.lst (ys.map f)])) = _
  unfold give
  simp only [Bool.false_eq_true, if_false]
  have hc : Closed (r :: s) (r' :: (s ++ [.lst (ys.map f)])) := by
    have := closed_set (st0 := r :: s) (j := 0) (c := r') (h2.undr _) [.lst (ys.map f)]
    simpa using this
  have hun : D.undrL (r :: s).length (ys.map f) = true := undrL_all fun d hd => by
    obtain ⟨y, _, rfl⟩ := List.mem_map.mp hd
    exact hu y
  have e2 : frz (r' :: (s ++ [.lst (ys.map f)])) (r :: s).length frzDepth (.cell (r :: s).length) = some (.lst (ys.map f)) := by
    show frz _ _ 6 _ = _
    unfold frz
    have h5 : ¬ (D.cell (r :: s).length).undr (r :: s).length = true := by
      unfold D.undr
      simp
    rw [if_neg h5]
    have h6 : (r' :: (s ++ [Cell.lst (ys.map f)]))[(r :: s).length]? = some (.lst (ys.map f)) := by simp
    simp only [h6]
    rw [mapO_id fun d m => frz_flat (undrL_mem hun d m)]
    rfl
  unfold leave
  rw [if_pos hc, e2]
  simp
/-- lists that change, behind the row -/
theorem seqD_cell {st : Store} {n : Nat} {ds : List D} (h : st[n]? = some (.lst ds)) : seqD st (.cell n) = some (ds, some (n, .lst ds)) := by
  unfold seqD
  simp only [h]
theorem ix_cell {st : Store} {n : Nat} {ds : List D} (h : st[n]? = some (.lst ds)) {i : Nat} {x : D} (e : ds[i]? = some x) : gIx st (.cell n) (.int (i : Nat)) = some (.val x) := seqD_at (seqD_cell h) e
theorem ix_cell_last {st : Store} {n : Nat} {ds : List D} {x : D} (h : st[n]? = some (.lst (ds ++ [x]))) : gIx st (.cell n) (.int (-1)) = some (.val x) := by
  unfold gIx
  rw [seqD_cell h]
  have : atI (ds ++ [x]) (-1) = some x := by
    unfold atI ixN
    rw [if_neg (by decide), if_pos (by rw [List.length_append, List.length_singleton]; omega)]
    show (ds ++ [x])[((-1 : Int) + ((ds ++ [x]).length : Int)).toNat]? = _
    rw [List.length_append, List.length_singleton, show ((-1 : Int) + ((ds.length + 1 : Nat) : Int)).toNat = ds.length by omega]
    simp
  simp only [this]
theorem gSl_cell {st : Store} {n : Nat} {ds : List D} {lo hi : Option Int} (h : st[n]? = some (.lst ds)) : gSl st (.cell n) lo hi = some (.newL (cutD ds lo hi)) := by
  unfold gSl
  rw [seqD_cell h]
theorem has_cell {st : Store} {n : Nat} {ds : List D} (h : st[n]? = some (.lst ds)) : hasT "list" st (.cell n) = true := by
  unfold hasT
  simp only [h]
  rfl
theorem app_cell {st : Store} {n : Nat} {acc : List D} {y : D} (h : st[n]? = some (.lst acc)) (hl : acc.length ≤ 1000000) : mAppend st (.cell n) [y] = .ok .non (st.set n (.lst (acc ++ [y]))) := by
  unfold mAppend push
  simp only [h]
  rw [if_pos (dec_eq (Nat.lt_of_le_of_lt hl (by decide)))]
end
end L2.PyD
/-! Alg: formal sums of terms over the rationals (plain, no program in sight). -/
namespace L2.PyD
abbrev Tm := List Int × Rat
/-- the coefficient -/
def co : List Tm → List Int → Rat
  | [], _ => 0
  | x :: l, m => (if x.1 = m then x.2 else 0) + co l m
theorem co_app (a b : List Tm) (m : List Int) : co (a ++ b) m = co a m + co b m := by
  induction a with
  | nil => simp [co, Rat.zero_add]
  | cons x a ih => rw [List.cons_append, co, co, ih, Rat.add_assoc]
theorem co_perm {a b : List Tm} (h : a.Perm b) (m : List Int) : co a m = co b m := by
  induction h with
  | nil => rfl
  | cons x _ ih => rw [co, co, ih]
  | swap x y l => rw [co, co, co, co]; grind
  | trans _ _ h1 h2 => rw [h1, h2]
def mulT (x : Tm) (l : List Tm) : List Tm := l.map fun y => (addL x.1 y.1, x.2 * y.2)
def mulL (a b : List Tm) : List Tm := a.flatMap fun x => mulT x b
def Len (n : Nat) (l : List Tm) : Prop := ∀ x ∈ l, x.1.length = n
theorem add_eq_iff {n : Nat} {a b m : List Int} (ha : a.length = n) (hb : b.length = n) (hm : m.length = n) : addL a b = m ↔ b = subL m a := by
  constructor
  · rintro rfl
    apply List.ext_getElem
    · rw [subL_len (by rw [addL_len (by omega)]), addL_len (by omega)]; omega
    · intro i h1 h2
      simp [subL, addL]
      omega
  · rintro rfl
    apply List.ext_getElem
    · rw [addL_len (by rw [subL_len (by omega)]; omega)]; omega
    · intro i h1 h2
      simp [subL, addL]
      omega
theorem co_mulT {n : Nat} {x : Tm} {l : List Tm} {m : List Int} (hx : x.1.length = n) (hl : Len n l) (hm : m.length = n) : co (mulT x l) m = x.2 * co l (subL m x.1) := by
  induction l with
  | nil => simp [mulT, co, Rat.mul_zero]
  | cons y l ih =>
    have ih := ih fun z hz => hl z (List.mem_cons_of_mem _ hz)
    unfold mulT at ih ⊢
    rw [List.map_cons, co, co, ih, Rat.mul_add]
    congr 1
    have := add_eq_iff hx (hl y (List.mem_cons_self ..)) hm
    by_cases h : y.1 = subL m x.1
    · rw [if_pos h, if_pos (this.mpr h)]
    · rw [if_neg h, if_neg (fun e => h (this.mp e)), Rat.mul_zero]
theorem mulL_cons (x : Tm) (a b : List Tm) : mulL (x :: a) b = mulT x b ++ mulL a b := rfl
theorem co_mul_congr {n : Nat} {a b c : List Tm} {m : List Int} (ha : Len n a) (hb : Len n b) (hc : Len n c) (hm : m.length = n) (h : ∀ k : List Int, k.length = n → co b k = co c k) : co (mulL a b) m = co (mulL a c) m := by
  induction a with
  | nil => rfl
  | cons x a ih =>
    have hx := ha x (List.mem_cons_self ..)
    rw [mulL_cons, mulL_cons, co_app, co_app, ih fun z hz => ha z (List.mem_cons_of_mem _ hz), co_mulT hx hb hm, co_mulT hx hc hm, h _ (by rw [subL_len (by omega)]; omega)]
theorem addL_comm (a b : List Int) : addL a b = addL b a := by
  unfold addL
  rw [List.zipWith_comm]
  congr 1
  funext x y
  exact Int.add_comm _ _
theorem mulT_nil (x : Tm) : mulT x [] = [] := rfl
theorem mulL_nil : ∀ a : List Tm, mulL a [] = []
  | [] => rfl
  | x :: a => by rw [mulL_cons, mulL_nil a]; rfl
theorem mul_snoc (a b : List Tm) (y : Tm) (m : List Int) : co (mulL a (y :: b)) m = co (mulT y a) m + co (mulL a b) m := by
  induction a with
  | nil => simp [mulL, mulT, co, Rat.add_zero]
  | cons x a ih =>
    rw [mulL_cons, mulL_cons, co_app, co_app, ih]
    have e1 : mulT x (y :: b) = (addL x.1 y.1, x.2 * y.2) :: mulT x b := rfl
    have e2 : mulT y (x :: a) = (addL y.1 x.1, y.2 * x.2) :: mulT y a := rfl
    rw [e1, e2, co, co, addL_comm y.1 x.1, Rat.mul_comm y.2 x.2]
    grind
theorem co_mul_comm (a b : List Tm) (m : List Int) : co (mulL a b) m = co (mulL b a) m := by
  induction b with
  | nil => rw [mulL_nil]; rfl
  | cons y b ih => rw [mul_snoc, mulL_cons, co_app, ih]
theorem addL_assoc (a b c : List Int) : addL (addL a b) c = addL a (addL b c) := by
  unfold addL
  induction a generalizing b c with
  | nil => simp
  | cons x a ih =>
    cases b with
    | nil => simp
    | cons y b =>
      cases c with
      | nil => simp
      | cons z c => simp [Int.add_assoc, ih]
theorem mulT_app (x : Tm) (a b : List Tm) : mulT x (a ++ b) = mulT x a ++ mulT x b := List.map_append ..
theorem mulL_app (a b c : List Tm) : mulL (a ++ b) c = mulL a c ++ mulL b c := List.flatMap_append ..
theorem mulT_mul (x : Tm) (b c : List Tm) : mulL (mulT x b) c = mulT x (mulL b c) := by
  induction b with
  | nil => rfl
  | cons y b ih =>
    have e : mulT x (y :: b) = (addL x.1 y.1, x.2 * y.2) :: mulT x b := rfl
    rw [e, mulL_cons, mulL_cons, mulT_app, ih]
    congr 1
    unfold mulT
    rw [List.map_map]
    refine List.map_congr_left fun z _ => ?_
    simp only [Function.comp]
    rw [addL_assoc, Rat.mul_assoc]
theorem mul_assoc (a b c : List Tm) : mulL (mulL a b) c = mulL a (mulL b c) := by
  induction a with
  | nil => rfl
  | cons x a ih => rw [mulL_cons, mulL_app, mulT_mul, ih, mulL_cons]
theorem co_mul_app (a b c : List Tm) (m : List Int) : co (mulL a (b ++ c)) m = co (mulL a b) m + co (mulL a c) m := by
  rw [co_mul_comm, mulL_app, co_app, co_mul_comm b a, co_mul_comm c a]
/-! ### sums over lists, multiples -/
def smul (c : Rat) (l : List Tm) : List Tm := l.map fun x => (x.1, c * x.2)
theorem co_smul (c : Rat) (l : List Tm) (m : List Int) : co (smul c l) m = c * co l m := by
  induction l with
  | nil => simp [smul, co, Rat.mul_zero]
  | cons x l ih =>
    unfold smul at ih ⊢
    rw [List.map_cons, co, co, ih, Rat.mul_add]
    split <;> simp [Rat.mul_zero]
theorem mul_smul (c : Rat) (a b : List Tm) : mulL (smul c a) b = smul c (mulL a b) := by
  induction a with
  | nil => rfl
  | cons x a ih =>
    have e : smul c (x :: a) = (x.1, c * x.2) :: smul c a := rfl
    have e2 : ∀ u v : List Tm, smul c (u ++ v) = smul c u ++ smul c v := fun u v => List.map_append ..
    rw [e, mulL_cons, mulL_cons, ih, e2]
    congr 1
    unfold mulT smul
    rw [List.map_map]
    refine List.map_congr_left fun y _ => ?_
    simp only [Function.comp, Rat.mul_assoc]
/-! ### derivatives -/
def dT (i : Nat) (x : Tm) : Tm := (x.1.set i (x.1.getD i 0 - 1), (x.1.getD i 0 : Int) * x.2)
def dL (i : Nat) (l : List Tm) : List Tm := l.map (dT i)
theorem dL_app (i : Nat) (a b : List Tm) : dL i (a ++ b) = dL i a ++ dL i b := List.map_append ..
theorem getD_add {n i : Nat} {a b : List Int} (ha : a.length = n) (hb : b.length = n) (hi : i < n) : (addL a b).getD i 0 = a.getD i 0 + b.getD i 0 := by
  have h1 : i < a.length := by omega
  have h2 : i < b.length := by omega
  simp [addL, List.getD_eq_getElem?_getD, List.getElem?_zipWith, List.getElem?_eq_getElem h1, List.getElem?_eq_getElem h2]
theorem set_addL {n i : Nat} {a b : List Int} (ha : a.length = n) (hb : b.length = n) (c : Int) : addL (a.set i (a.getD i 0 + c)) b = (addL a b).set i ((addL a b).getD i 0 + c) := by
  apply List.ext_getElem
  · simp [addL]
  · intro j h1 h2
    simp [addL] at h1 h2
    by_cases e : i = j
    · subst e
      have h3 : i < a.length := by omega
      have h4 : i < b.length := by omega
      simp [addL, List.getD_eq_getElem?_getD, List.getElem?_zipWith, List.getElem?_eq_getElem h3, List.getElem?_eq_getElem h4]
      omega
    · simp [addL, List.getElem_set_ne e]
/-- one term by one -/
theorem d_one {n i : Nat} {x y : Tm} (hx : x.1.length = n) (hy : y.1.length = n) (hi : i < n) (m : List Int) :
    co [dT i (addL x.1 y.1, x.2 * y.2)] m = co [(addL (dT i x).1 y.1, (dT i x).2 * y.2)] m + co [(addL x.1 (dT i y).1, x.2 * (dT i y).2)] m := by
  have e1 : addL (dT i x).1 y.1 = (dT i (addL x.1 y.1, x.2 * y.2)).1 := set_addL hx hy (-1)
  have e2 : addL x.1 (dT i y).1 = (dT i (addL x.1 y.1, x.2 * y.2)).1 := by
    rw [addL_comm, addL_comm x.1]
    exact set_addL hy hx (-1)
  have e3 : (dT i (addL x.1 y.1, x.2 * y.2)).2 = (dT i x).2 * y.2 + x.2 * (dT i y).2 := by
    show (((addL x.1 y.1).getD i 0 : Int) : Rat) * (x.2 * y.2) = ((x.1.getD i 0 : Int) : Rat) * x.2 * y.2 + x.2 * (((y.1.getD i 0 : Int) : Rat) * y.2)
    rw [getD_add hx hy hi, Rat.intCast_add]
    grind
  simp only [co, e1, e2, e3, Rat.add_zero]
  split
  · rfl
  · rw [Rat.add_zero]
theorem co_cons (x : Tm) (l : List Tm) (m : List Int) : co (x :: l) m = co [x] m + co l m := by
  rw [show x :: l = [x] ++ l from rfl, co_app]
theorem leib1 {n i : Nat} {x : Tm} {b : List Tm} (hx : x.1.length = n) (hb : Len n b) (hi : i < n) (m : List Int) : co (dL i (mulT x b)) m = co (mulT (dT i x) b) m + co (mulT x (dL i b)) m := by
  induction b with
  | nil => simp [mulT, dL, co, Rat.add_zero]
  | cons y b ihb =>
    have ihb := ihb fun z hz => hb z (List.mem_cons_of_mem _ hz)
    have f1 : dL i (mulT x (y :: b)) = dT i (addL x.1 y.1, x.2 * y.2) :: dL i (mulT x b) := rfl
    have f2 : mulT (dT i x) (y :: b) = (addL (dT i x).1 y.1, (dT i x).2 * y.2) :: mulT (dT i x) b := rfl
    have f3 : mulT x (dL i (y :: b)) = (addL x.1 (dT i y).1, x.2 * (dT i y).2) :: mulT x (dL i b) := rfl
    rw [f1, f2, f3, co_cons, ihb, d_one hx (hb y (List.mem_cons_self ..)) hi, co_cons (_, _) (mulT (dT i x) b), co_cons (_, _) (mulT x (dL i b))]
    grind
theorem leib {n i : Nat} {a b : List Tm} (ha : Len n a) (hb : Len n b) (hi : i < n) (m : List Int) : co (dL i (mulL a b)) m = co (mulL (dL i a) b) m + co (mulL a (dL i b)) m := by
  induction a with
  | nil => simp [mulL, dL, co, Rat.add_zero]
  | cons x a ih =>
    have ih := ih fun z hz => ha z (List.mem_cons_of_mem _ hz)
    have hx := ha x (List.mem_cons_self ..)
    have e1 : dL i (x :: a) = dT i x :: dL i a := rfl
    rw [mulL_cons, dL_app, co_app, ih, e1, mulL_cons, co_app, mulL_cons, co_app, leib1 hx hb hi]
    grind
theorem Len.mul {n : Nat} {a b : List Tm} (ha : Len n a) (hb : Len n b) : Len n (mulL a b) := fun x hx => by
  obtain ⟨y, hy, hx⟩ := List.mem_flatMap.mp hx
  obtain ⟨z, hz, rfl⟩ := List.mem_map.mp hx
  show (addL y.1 z.1).length = n
  rw [addL_len (by rw [ha y hy, hb z hz]), ha y hy]
theorem Len.d {n : Nat} {a : List Tm} (ha : Len n a) (i : Nat) : Len n (dL i a) := fun x hx => by
  obtain ⟨y, hy, rfl⟩ := List.mem_map.mp hx
  show (y.1.set i _).length = n
  rw [List.length_set, ha y hy]
theorem Len.smul {n : Nat} {a : List Tm} (ha : Len n a) (c : Rat) : Len n (smul c a) := fun x hx => by
  obtain ⟨y, hy, rfl⟩ := List.mem_map.mp hx
  exact ha y hy
theorem Len.app {n : Nat} {a b : List Tm} (ha : Len n a) (hb : Len n b) : Len n (a ++ b) := fun x hx => by
  rcases List.mem_append.mp hx with h | h
  · exact ha x h
  · exact hb x h
/-! ### powers -/
def unitT (n : Nat) : Tm := (List.replicate n 0, 1)
def powL (n : Nat) (l : List Tm) : Nat → List Tm
  | 0 => [unitT n]
  | k + 1 => mulL (powL n l k) l
theorem Len.pow {n : Nat} {l : List Tm} (hl : Len n l) : ∀ k, Len n (powL n l k)
  | 0 => fun x hx => by rw [List.mem_singleton.mp hx]; exact List.length_replicate
  | k + 1 => (Len.pow hl k).mul hl
theorem co_d_unit (n i : Nat) (m : List Int) : co (dL i [unitT n]) m = 0 := by
  have e : (List.replicate n (0 : Int)).getD i 0 = 0 := by
    rw [List.getD_eq_getElem?_getD]
    cases h : (List.replicate n (0 : Int))[i]? with
    | none => rfl
    | some x => exact List.eq_of_mem_replicate (List.mem_of_getElem? h)
  show (if _ then (((List.replicate n (0 : Int)).getD i 0 : Int) : Rat) * 1 else 0) + 0 = 0
  rw [e]
  split <;> first | rfl | decide +kernel | simp [Rat.add_zero, Rat.zero_mul]
theorem pow_d {n i : Nat} {l : List Tm} (hl : Len n l) (hi : i < n) : ∀ (k : Nat) (m : List Int), m.length = n → co (dL i (powL n l (k + 1))) m = ((k + 1 : Nat) : Rat) * co (mulL (powL n l k) (dL i l)) m
  | 0, m, hm => by
    show co (dL i (mulL [unitT n] l)) m = _
    have hu : Len n [unitT n] := Len.pow hl 0
    rw [leib hu hl hi, co_mul_comm (dL i [unitT n]) l, co_mul_congr (c := []) hl (hu.d i) (fun _ h => nomatch h) hm fun k _ => co_d_unit n i k, mulL_nil]
    show co [] m + co (mulL (powL n l 0) (dL i l)) m = _
    simp [co, Rat.zero_add, Rat.one_mul]
  | k + 1, m, hm => by
    have ih := pow_d hl hi k
    have hp := Len.pow hl (k + 1)
    have hk := Len.pow hl k
    show co (dL i (mulL (powL n l (k + 1)) l)) m = _
    have hs : Len n (smul ((k + 1 : Nat) : Rat) (mulL (powL n l k) (dL i l))) := (hk.mul (hl.d i)).smul _
    rw [leib hp hl hi, co_mul_comm (dL i (powL n l (k + 1))) l, co_mul_congr hl (hp.d i) hs hm fun j hj => by rw [co_smul, ih j hj], co_mul_comm l, mul_smul, co_smul, co_mul_comm (mulL (powL n l k) (dL i l)) l, ← mul_assoc, co_mul_comm _ (dL i l), co_mul_comm _ (dL i l),
      co_mul_congr (b := mulL l (powL n l k)) (c := powL n l (k + 1)) (hl.d i) (hl.mul hk) hp hm fun j hj => co_mul_comm _ _ _, co_mul_comm (dL i l)]
    have e : (((k + 1 + 1 : Nat)) : Rat) = ((k + 1 : Nat) : Rat) + 1 := by
      rw [Rat.natCast_add]
      rfl
    rw [e]
    grind
end L2.PyD
/-! Alg2: Euclid's loop within few turns; fractions in lowest terms as Lean's rationals; sizes. -/
namespace L2.PyD
open PySem
theorem gcd_forL {t : T} {body : DenS} {mk : Nat → Nat → Option D → Env} (h0 : ∀ a y st, body (mk a 0 y) st = .ret (.int (a : Nat)) st) (hs : ∀ a b y st, b ≠ 0 → body (mk a b y) st = .nx (mk b (a % b) y) st)
    (ht : ∀ d a b y, tg t d (mk a b y) = some (mk a b (some d))) : ∀ (k : Nat) (ds : List D) (a b : Nat) (y : Option D) (st : Store), b < 2 ^ k → 2 * k + 1 ≤ ds.length → forL none (tg t) body ds (mk a b y) st = .ret (.int ((Nat.gcd a b : Nat) : Int)) st := by
  have one : ∀ (d : D) (ds : List D) (a : Nat) (y : Option D) (st : Store), forL none (tg t) body (d :: ds) (mk a 0 y) st = .ret (.int (a : Nat)) st := fun d ds a y st => by
    unfold forL
    rw [ht]
    simp only [h0]
  have two : ∀ (d : D) (ds : List D) (a b : Nat) (y : Option D) (st : Store), b ≠ 0 → forL none (tg t) body (d :: ds) (mk a b y) st = forL none (tg t) body ds (mk b (a % b) (some d)) st := fun d ds a b y st hb => by
    rw [forL, ht]
    simp only [hs a b (some d) st hb]
    exact if_pos trivial
  intro k
  induction k with
  | zero =>
    intro ds a b y st hb hl
    have : b = 0 := by omega
    subst this
    cases ds with
    | nil => simp at hl
    | cons d ds => rw [one, Nat.gcd_zero_right]
  | succ k ih =>
    intro ds a b y st hb hl
    match ds, hl with
    | d :: e :: ds, hl =>
      by_cases z : b = 0
      · subst z
        rw [one, Nat.gcd_zero_right]
      · rw [two _ _ _ _ _ _ z]
        have hr : a % b < b := Nat.mod_lt _ (by omega)
        have eg : Nat.gcd a b = Nat.gcd b (a % b) := by rw [Nat.gcd_comm a b, Nat.gcd_rec b a, Nat.gcd_comm]
        rw [eg]
        generalize a % b = r at *
        by_cases z2 : r = 0
        · subst z2
          rw [one, Nat.gcd_zero_right]
        · rw [two _ _ _ _ _ _ z2]
          have eg2 : Nat.gcd b r = Nat.gcd r (b % r) := by rw [Nat.gcd_comm b r, Nat.gcd_rec r b, Nat.gcd_comm]
          rw [eg2]
          have h1 : b % r < r := Nat.mod_lt _ (by omega)
          have h2 : r * (b / r) + b % r = b := Nat.div_add_mod b r
          have h3 : 1 ≤ b / r := Nat.div_pos (by omega) (by omega)
          have h4 : r ≤ r * (b / r) := Nat.le_mul_of_pos_right _ h3
          have h5 : 2 ^ (k + 1) = 2 * 2 ^ k := by rw [Nat.pow_succ]; omega
          refine ih ds r (b % r) _ st (by omega) (by simp at hl; omega)
    | [], hl => simp at hl
theorem rat_den (q : Rat) : q * ((q.den : Int) : Rat) = (q.num : Rat) := by
  have h := Rat.num_divInt_den q
  rw [Rat.divInt_eq_div] at h
  have hz : ((q.den : Int) : Rat) ≠ 0 := fun z => by
    have z : ((q.den : Int) : Rat) = ((0 : Int) : Rat) := z
    have := Rat.intCast_inj.mp z
    have := q.den_pos
    omega
  calc q * ((q.den : Int) : Rat) = (q.num : Rat) / ((q.den : Int) : Rat) * ((q.den : Int) : Rat) := by rw [h]
    _ = (q.num : Rat) := Rat.div_mul_cancel hz
/-- n / d in lowest terms, as a rational -/
theorem rat_low {n d : Int} (hd : 0 < d) {q : Rat} (h : (n : Rat) = q * d) : n / (Int.gcd n d : Int) = q.num ∧ d / (Int.gcd n d : Int) = (q.den : Int) := by
  have e : n * q.den = q.num * d := by
    have h1 : ((n * q.den : Int) : Rat) = ((q.num * d : Int) : Rat) := by
      rw [Rat.intCast_mul, Rat.intCast_mul, h]
      have := rat_den q
      grind
    exact Rat.intCast_inj.mp h1
  have hg : Int.gcd q.num (q.den : Int) = 1 := q.reduced
  have hq : (0 : Int) < q.den := by have := q.den_pos; omega
  have g0 : 0 < Int.gcd n d := Int.gcd_pos_of_ne_zero_right _ (by omega)
  obtain ⟨n', hn⟩ := Int.gcd_dvd_left n d
  obtain ⟨d', hd'⟩ := Int.gcd_dvd_right n d
  have c1 : Int.gcd (n / (Int.gcd n d : Int)) (d / (Int.gcd n d : Int)) = 1 := Int.gcd_ediv_gcd_ediv_gcd g0
  generalize Int.gcd n d = g at *
  have gz : (g : Int) ≠ 0 := by omega
  rw [hn, hd', Int.mul_ediv_cancel_left _ gz, Int.mul_ediv_cancel_left _ gz] at c1
  rw [hn, hd', Int.mul_ediv_cancel_left _ gz, Int.mul_ediv_cancel_left _ gz]
  have e2 : n' * q.den = q.num * d' := by
    have : (g : Int) * (n' * q.den) = g * (q.num * d') := by
      rw [hn, hd'] at e
      calc (g : Int) * (n' * q.den) = g * n' * q.den := by ac_rfl
        _ = q.num * (g * d') := e
        _ = g * (q.num * d') := by ac_rfl
    exact Int.eq_of_mul_eq_mul_left gz this
  have cop : ∀ {a b c : Int}, a ∣ b * c → Int.gcd a c = 1 → a ∣ b := fun {a b c} h g => by
    rw [← Int.natAbs_dvd_natAbs, Int.natAbs_mul] at h
    rw [← Int.natAbs_dvd_natAbs]
    exact Nat.Coprime.dvd_of_dvd_mul_right g h
  have d1 : d' ∣ (q.den : Int) := cop (c := n') ⟨q.num, by rw [Int.mul_comm, e2, Int.mul_comm]⟩ (by rw [Int.gcd_comm]; exact c1)
  have d2 : (q.den : Int) ∣ d' := cop (c := q.num) ⟨n', by rw [Int.mul_comm, ← e2, Int.mul_comm]⟩ (by rw [Int.gcd_comm]; exact hg)
  have p1 : 0 < d' := Int.pos_of_mul_pos_right (by rw [← hd']; exact hd) (by omega)
  have e3 : d' = (q.den : Int) := Int.le_antisymm (Int.le_of_dvd hq d1) (Int.le_of_dvd p1 d2)
  subst e3
  exact ⟨Int.eq_of_mul_eq_mul_right (by omega) e2, rfl⟩
theorem mulOk_big {i j : Int} (hi : i.natAbs < 2 ^ 3000) (hj : j.natAbs < 2 ^ 3000) : mulOk i j := by
  have lg : ∀ n : Nat, n < 2 ^ 3000 → n.log2 ≤ 3000 := fun n h => by
    by_cases z : n = 0
    · rw [z]; decide
    · have := (Nat.log2_lt z).mpr h
      omega
  have h1 := lg _ hi
  have h2 := lg _ hj
  exact .inr (by omega)
theorem divOk_big {i j : Int} (h : j ≠ 0) (hj : j.natAbs < 2 ^ 3000) : divOk i j := by
  refine ⟨h, ?_⟩
  have := (Nat.log2_lt (show j.natAbs ≠ 0 by omega)).mpr hj
  omega
end L2.PyD
/-! Alg3: numbers reduced to the field (field 0: the rational itself, field p: the residue of an integer); lists in strict order. -/
namespace L2.PyD
open PySem
/-- the number of the field f that stands for a rational -/
def rd (f : Int) (q : Rat) : Rat := if f = 0 then q else ((q.num % f : Int) : Rat)
/-- what may stand as a coefficient over the field f -/
def Fq (f : Int) (q : Rat) : Prop := f = 0 ∨ ∃ z : Int, q = (z : Rat)
theorem Fq.int (f z : Int) : Fq f (z : Rat) := .inr ⟨z, rfl⟩
theorem Fq.add {f : Int} {a b : Rat} (ha : Fq f a) (hb : Fq f b) : Fq f (a + b) := by
  rcases ha with h | ⟨x, rfl⟩
  · exact .inl h
  · rcases hb with h | ⟨y, rfl⟩
    · exact .inl h
    · exact .inr ⟨x + y, by rw [Rat.intCast_add]⟩
theorem Fq.mul {f : Int} {a b : Rat} (ha : Fq f a) (hb : Fq f b) : Fq f (a * b) := by
  rcases ha with h | ⟨x, rfl⟩
  · exact .inl h
  · rcases hb with h | ⟨y, rfl⟩
    · exact .inl h
    · exact .inr ⟨x * y, by rw [Rat.intCast_mul]⟩
theorem rd_zero (q : Rat) : rd 0 q = q := by unfold rd; rw [if_pos rfl]
theorem rd_int {f : Int} (h : f ≠ 0) (z : Int) : rd f (z : Rat) = ((z % f : Int) : Rat) := by
  unfold rd; rw [if_neg h, Rat.num_intCast]
theorem Fq.rd {f : Int} {a : Rat} (ha : Fq f a) : Fq f (rd f a) := by
  by_cases h : f = 0
  · exact .inl h
  · unfold L2.PyD.rd; rw [if_neg h]; exact Fq.int ..
theorem rd_rd {f : Int} {a : Rat} (ha : Fq f a) : rd f (rd f a) = rd f a := by
  by_cases h : f = 0
  · subst h; rw [rd_zero]
  · rcases ha with h0 | ⟨x, rfl⟩
    · exact absurd h0 h
    · rw [rd_int h, rd_int h, Int.emod_emod]
theorem rd_add {f : Int} {a b : Rat} (ha : Fq f a) (hb : Fq f b) : rd f (rd f a + rd f b) = rd f (a + b) := by
  by_cases h : f = 0
  · subst h; simp only [rd_zero]
  · rcases ha with h0 | ⟨x, rfl⟩
    · exact absurd h0 h
    · rcases hb with h0 | ⟨y, rfl⟩
      · exact absurd h0 h
      · rw [rd_int h, rd_int h, ← Rat.intCast_add, ← Rat.intCast_add, rd_int h, rd_int h, ← Int.add_emod]
theorem rd_mul {f : Int} {a b : Rat} (ha : Fq f a) (hb : Fq f b) : rd f (rd f a * rd f b) = rd f (a * b) := by
  by_cases h : f = 0
  · subst h; simp only [rd_zero]
  · rcases ha with h0 | ⟨x, rfl⟩
    · exact absurd h0 h
    · rcases hb with h0 | ⟨y, rfl⟩
      · exact absurd h0 h
      · rw [rd_int h, rd_int h, ← Rat.intCast_mul, ← Rat.intCast_mul, rd_int h, rd_int h, ← Int.mul_emod]
/-- two lists in strict order that hold the same are equal -/
theorem eq_of_strict {α : Type} {r : α → α → Prop} (irr : ∀ a, ¬ r a a) (asy : ∀ a b, r a b → ¬ r b a) : ∀ p q : List α, p.Pairwise r → q.Pairwise r → (∀ x, x ∈ p ↔ x ∈ q) → p = q
  | [], [], _, _, _ => rfl
  | [], b :: q, _, _, h => nomatch (h b).mpr List.mem_cons_self
  | a :: p, [], _, _, h => nomatch (h a).mp List.mem_cons_self
  | a :: p, b :: q, hp, hq, h => by
    have hp' := List.pairwise_cons.mp hp
    have hq' := List.pairwise_cons.mp hq
    have e : a = b := by
      rcases List.mem_cons.mp ((h a).mp List.mem_cons_self) with e | ha
      · exact e
      · rcases List.mem_cons.mp ((h b).mpr List.mem_cons_self) with e | hb
        · exact e.symm
        · exact absurd (hq'.1 a ha) (asy _ _ (hp'.1 b hb))
    subst e
    rw [eq_of_strict irr asy p q hp'.2 hq'.2 fun x => ⟨fun hx => by
      rcases List.mem_cons.mp ((h x).mp (List.mem_cons_of_mem _ hx)) with e | hq2
      · subst e; exact absurd (hp'.1 x hx) (irr x)
      · exact hq2, fun hx => by
      rcases List.mem_cons.mp ((h x).mpr (List.mem_cons_of_mem _ hx)) with e | hq2
      · subst e; exact absurd (hq'.1 x hx) (irr x)
      · exact hq2⟩]
/-- the coefficient of a monomial that stands once is its number -/
theorem co_mem : ∀ {p : List Tm} {x : Tm}, (p.map (·.1)).Nodup → x ∈ p → co p x.1 = x.2
  | y :: p, x, hn, hx => by
    rw [List.map_cons, List.nodup_cons] at hn
    rw [co]
    rcases List.mem_cons.mp hx with e | hx
    · subst e
      have z : ∀ l : List Tm, x.1 ∉ l.map (·.1) → co l x.1 = 0 := fun l => by
        induction l with
        | nil => exact fun _ => rfl
        | cons w l ih =>
          intro hw
          rw [List.map_cons, List.mem_cons, not_or] at hw
          rw [co, if_neg (fun e => hw.1 e.symm), ih hw.2, Rat.zero_add]
      rw [if_pos rfl, z p hn.1, Rat.add_zero]
    · have ne : y.1 ≠ x.1 := fun e => hn.1 (by rw [e]; exact List.mem_map.mpr ⟨x, hx, rfl⟩)
      rw [if_neg ne, co_mem hn.2 hx, Rat.zero_add]
theorem co_no : ∀ {p : List Tm} {m : List Int}, m ∉ p.map (·.1) → co p m = 0
  | [], _, _ => rfl
  | w :: l, m, hw => by
    rw [List.map_cons, List.mem_cons, not_or] at hw
    rw [co, if_neg (fun e => hw.1 e.symm), co_no hw.2, Rat.zero_add]
/-- a polynomial (each monomial once, no zero) is told by its coefficients -/
theorem mem_of_co {p q : List Tm} (hp : (p.map (·.1)).Nodup) (hq : (q.map (·.1)).Nodup) (zp : ∀ x ∈ p, x.2 ≠ 0) (h : ∀ x ∈ p, co p x.1 = co q x.1) : ∀ x ∈ p, x ∈ q := fun x hx => by
  have e := h x hx
  rw [co_mem hp hx] at e
  by_cases hm : x.1 ∈ q.map (·.1)
  · obtain ⟨y, hy, hyx⟩ := List.mem_map.mp hm
    rw [← hyx, co_mem hq hy] at e
    have : y = x := Prod.ext hyx e.symm
    exact this ▸ hy
  · rw [co_no hm] at e
    exact absurd e (zp x hx)
end L2.PyD
/-! Alg4: the size of rationals (a bound on q * D and a denominator D); sums and products of sized ones. -/
namespace L2.PyD
open PySem
/-- q is z / D with |z| ≤ M -/
def Sz (M D : Nat) (q : Rat) : Prop := ∃ z : Int, q * ((D : Int) : Rat) = (z : Rat) ∧ z.natAbs ≤ M
theorem Sz.zero (M D : Nat) : Sz M D 0 := ⟨0, by rw [Rat.zero_mul]; rfl, by simp⟩
theorem Sz.add {M M' D : Nat} {a b : Rat} (ha : Sz M D a) (hb : Sz M' D b) : Sz (M + M') D (a + b) := by
  obtain ⟨x, hx, hx'⟩ := ha
  obtain ⟨y, hy, hy'⟩ := hb
  exact ⟨x + y, by rw [Rat.add_mul, hx, hy, Rat.intCast_add], by omega⟩
theorem Sz.neg {M D : Nat} {a : Rat} (ha : Sz M D a) : Sz M D (-a) := by
  obtain ⟨x, hx, hx'⟩ := ha
  exact ⟨-x, by rw [Rat.neg_mul, hx, Rat.intCast_neg], by omega⟩
theorem Sz.mul {M M' D D' : Nat} {a b : Rat} (ha : Sz M D a) (hb : Sz M' D' b) : Sz (M * M') (D * D') (a * b) := by
  obtain ⟨x, hx, hx'⟩ := ha
  obtain ⟨y, hy, hy'⟩ := hb
  refine ⟨x * y, ?_, by rw [Int.natAbs_mul]; exact Nat.mul_le_mul hx' hy'⟩
  have e : (((D * D' : Nat) : Int) : Rat) = ((D : Int) : Rat) * ((D' : Int) : Rat) := by
    rw [← Rat.intCast_mul]; congr 1
  rw [e, Rat.intCast_mul, ← hx, ← hy]
  grind
theorem Sz.mono {M M' D : Nat} {a : Rat} (ha : Sz M D a) (h : M ≤ M') : Sz M' D a := by
  obtain ⟨x, hx, hx'⟩ := ha
  exact ⟨x, hx, by omega⟩
theorem Sz.ofInt {M : Nat} {z : Int} (h : z.natAbs ≤ M) : Sz M 1 (z : Rat) := ⟨z, by
  show (z : Rat) * 1 = z
  exact Rat.mul_one _, h⟩
/-- the bounds on the pair -/
theorem Sz.pair {M D : Nat} {q : Rat} (h : Sz M D q) (hD : 0 < D) : q.den ≤ D ∧ q.num.natAbs ≤ M := by
  obtain ⟨z, hz, hz'⟩ := h
  have hd : (0 : Int) < (D : Int) := by omega
  obtain ⟨e1, e2⟩ := rat_low (n := z) (d := (D : Int)) hd (q := q) hz.symm
  have g0 : (0 : Int) < (Int.gcd z D : Int) := by exact_mod_cast Int.gcd_pos_of_ne_zero_right z (by omega)
  constructor
  · have : ((q.den : Nat) : Int) ≤ (D : Int) := by
      rw [← e2]
      exact Int.ediv_le_self _ (by omega)
    omega
  · rw [← e1]
    obtain ⟨w, hw⟩ := Int.gcd_dvd_left z D
    generalize (Int.gcd z D : Int) = g at *
    have : z / g = w := by rw [hw]; exact Int.mul_ediv_cancel_left _ (by omega)
    rw [this]
    have : z.natAbs = g.natAbs * w.natAbs := by rw [hw, Int.natAbs_mul]
    have : w.natAbs ≤ z.natAbs := by rw [this]; exact Nat.le_mul_of_pos_left _ (by omega)
    omega
/-- the coefficients of a formal sum of sized numbers -/
theorem Sz.co {M D : Nat} : ∀ {l : List Tm}, (∀ x ∈ l, Sz M D x.2) → ∀ m, Sz (l.length * M) D (co l m)
  | [], _, m => by rw [L2.PyD.co]; exact Sz.zero ..
  | x :: l, h, m => by
    rw [L2.PyD.co, List.length_cons]
    have h2 := Sz.co (l := l) (fun y hy => h y (List.mem_cons_of_mem _ hy)) m
    have h1 : Sz M D (if x.1 = m then x.2 else 0) := by
      by_cases e : x.1 = m
      · rw [if_pos e]; exact h x List.mem_cons_self
      · rw [if_neg e]; exact Sz.zero ..
    exact (h1.add h2).mono (by rw [Nat.succ_mul]; omega)
theorem Sz.mulL {M D M' D' : Nat} {a b : List Tm} (ha : ∀ x ∈ a, Sz M D x.2) (hb : ∀ x ∈ b, Sz M' D' x.2) : ∀ x ∈ mulL a b, Sz (M * M') (D * D') x.2 := fun x hx => by
  obtain ⟨y, hy, hx⟩ := List.mem_flatMap.mp hx
  obtain ⟨z, hz, rfl⟩ := List.mem_map.mp hx
  exact (ha y hy).mul (hb z hz)
theorem mulL_len (a b : List Tm) : (mulL a b).length = a.length * b.length := by
  induction a with
  | nil => simp [L2.PyD.mulL]
  | cons x a ih => rw [mulL_cons, List.length_append, ih, mulT, List.length_map, List.length_cons, Nat.succ_mul, Nat.add_comm]
end L2.PyD
/-! Alg5: the pair of a rational as data; sums and products of pairs in lowest terms. -/
namespace L2.PyD
open PySem
/-- the number of the field f that a rational is -/
def nR (f : Int) (q : Rat) : N := if f > 0 then .int q.num else .tup [.int q.num, .int q.den]
theorem nR_pos {f : Int} {q : Rat} (h : f > 0) : (nR f q).d = .int q.num := by unfold nR; rw [if_pos h]; rfl
theorem nR_zero {q : Rat} : (nR 0 q).d = .tup [.int q.num, .int q.den] := rfl
theorem nR_int {f : Int} (h : f > 0) (z : Int) : (nR f (z : Rat)).d = .int z := by rw [nR_pos h, Rat.num_intCast]
theorem add_low (a b : Rat) : ((a.num * b.den + b.num * a.den : Int) : Rat) = (a + b) * ((a.den * b.den : Int) : Rat) := by
  have ha := rat_den a
  have hb := rat_den b
  rw [Rat.intCast_add, Rat.intCast_mul, Rat.intCast_mul, Rat.intCast_mul, ← ha, ← hb]
  grind
theorem mul_low (a b : Rat) : ((a.num * b.num : Int) : Rat) = (a * b) * ((a.den * b.den : Int) : Rat) := by
  have ha := rat_den a
  have hb := rat_den b
  rw [Rat.intCast_mul, Rat.intCast_mul, ← ha, ← hb]
  grind
theorem den_posI (a : Rat) : (0 : Int) < (a.den : Int) := by have := a.den_pos; omega
theorem den_mul_pos (a b : Rat) : (0 : Int) < (a.den : Int) * (b.den : Int) := Int.mul_pos (den_posI a) (den_posI b)
theorem num_zero_iff (a : Rat) : a.num = 0 ↔ a = 0 := Rat.num_eq_zero
theorem gcd_one (a : Rat) : Int.gcd a.num (a.den : Int) = 1 := a.reduced
/-- a number of the field, within a bound -/
def nOkR (f : Int) (B : Nat) (q : Rat) : Prop := if f > 0 then ∃ z : Int, q = (z : Rat) ∧ 0 ≤ z ∧ z < f else q.num.natAbs < B ∧ q.den < B
theorem nOkR.int {f : Int} {B : Nat} {q : Rat} (h : f > 0) (hq : nOkR f B q) : ∃ z : Int, q = (z : Rat) ∧ 0 ≤ z ∧ z < f := by
  unfold nOkR at hq; rwa [if_pos h] at hq
theorem nOkR.rat {B : Nat} {q : Rat} (hq : nOkR 0 B q) : q.num.natAbs < B ∧ q.den < B := by
  unfold nOkR at hq; rwa [if_neg (by decide)] at hq
theorem nOkR.mono {f : Int} {B B' : Nat} {q : Rat} (hq : nOkR f B q) (h : B ≤ B') : nOkR f B' q := by
  unfold nOkR at *
  by_cases e : f > 0
  · rw [if_pos e] at *; exact hq
  · rw [if_neg e] at *; omega
theorem nOkR.rd {f : Int} {B : Nat} {q : Rat} (h : f > 0) (hq : Fq f q) : nOkR f B (rd f q) := by
  rcases hq with e | ⟨z, rfl⟩
  · omega
  · unfold nOkR
    rw [if_pos h, rd_int (by omega)]
    exact ⟨z % f, rfl, Int.emod_nonneg _ (by omega), Int.emod_lt_of_pos _ h⟩
theorem nOkR.fixed {f : Int} {B : Nat} {q : Rat} (h : f ≥ 0) (hq : nOkR f B q) : L2.PyD.rd f q = q := by
  by_cases e : f > 0
  · obtain ⟨z, rfl, z0, z1⟩ := hq.int e
    rw [rd_int (by omega), Int.emod_eq_of_lt z0 z1]
  · have : f = 0 := by omega
    subst this
    rw [rd_zero]
theorem nOkR.fq {f : Int} {B : Nat} {q : Rat} (h : f ≥ 0) (hq : nOkR f B q) : Fq f q := by
  by_cases e : f > 0
  · obtain ⟨z, rfl, _, _⟩ := hq.int e
    exact Fq.int ..
  · exact .inl (by omega)
/-- the pairs of two rationals are equal exactly when these are -/
theorem nR_inj {f : Int} {B : Nat} {a b : Rat} (ha : nOkR f B a) (hb : nOkR f B b) (h : nR f a = nR f b) : a = b := by
  unfold nR at h
  by_cases e : f > 0
  · obtain ⟨x, rfl, _, _⟩ := ha.int e
    obtain ⟨y, rfl, _, _⟩ := hb.int e
    rw [if_pos e, if_pos e] at h
    injection h with h
    rw [Rat.num_intCast, Rat.num_intCast] at h
    rw [h]
  · rw [if_neg e, if_neg e] at h
    injection h with h
    injection h with h1 h2
    injection h2 with h2
    injection h1 with h1
    injection h2 with h2
    exact Rat.ext h1 (by omega)
end L2.PyD
/-! Alg6: the dict of a formal sum, and its canonical polynomial (plain). -/
namespace L2.PyD
open PySem
abbrev Pv := List Tm
def nz (p : Pv) : Pv := p.filter fun x => !decide (x.2 = 0)
def srt (o : Ordr) (p : Pv) : Pv := sortK true (fun x => keyF o x.1) p
def getI (p : Pv) (m : List Int) : Option Rat := (p.find? fun x => decide (x.1 = m)).map (·.2)
def putI (p : Pv) (m : List Int) (w : Rat) : Pv := if (getI p m).isSome then p.map (fun x => if x.1 = m then (x.1, w) else x) else p ++ [(m, w)]
/-- one term more -/
def addR (f : Int) (p : Pv) (x : Tm) : Pv := putI p x.1 (rd f (co p x.1 + x.2))
def sumR (f : Int) (t : Pv) : Pv := t.foldl (addR f) []
/-- the canonical polynomial -/
def cn (f : Int) (o : Ordr) (t : Pv) : Pv := srt o (nz (sumR f t))
variable {n : Nat} {f : Int} {o : Ordr} {p q t t' s S : Pv} {m : List Int}
theorem getI_none : getI p m = none ↔ m ∉ p.map (·.1) := by
  unfold getI
  rw [Option.map_eq_none_iff, List.find?_eq_none]
  constructor
  · intro h hm
    obtain ⟨x, hx, rfl⟩ := List.mem_map.mp hm
    exact h x hx (by simp)
  · intro h x hx e
    exact h (List.mem_map.mpr ⟨x, hx, by simpa using e⟩)
theorem getI_some {u : Rat} (h : getI p m = some u) : (m, u) ∈ p := by
  unfold getI at h
  obtain ⟨x, hx, rfl⟩ := Option.map_eq_some_iff.mp h
  have := List.find?_some hx
  have e : x.1 = m := by simpa using this
  rw [← e]
  exact List.mem_of_find?_eq_some hx
theorem getI_co {u : Rat} (hn : (p.map (·.1)).Nodup) (h : getI p m = some u) : co p m = u := co_mem hn (getI_some h)
theorem getI_co0 (h : getI p m = none) : co p m = 0 := co_no (getI_none.mp h)
theorem putI_keys {w : Rat} : (putI p m w).map (·.1) = if (getI p m).isSome then p.map (·.1) else p.map (·.1) ++ [m] := by
  unfold putI
  split
  · rw [List.map_map]
    refine List.map_congr_left fun x _ => ?_
    simp only [Function.comp]
    split <;> rfl
  · rw [List.map_append]
    rfl
theorem putI_mem {w : Rat} {x : Tm} (h : x ∈ putI p m w) : x = (m, w) ∨ x ∈ p := by
  unfold putI at h
  split at h
  · obtain ⟨y, hy, e⟩ := List.mem_map.mp h
    split at e
    · rename_i c; left; rw [← e, c]
    · right; rw [← e]; exact hy
  · rcases List.mem_append.mp h with q | q
    · exact .inr q
    · exact .inl (List.mem_singleton.mp q)
theorem putI_len {w : Rat} : (putI p m w).length ≤ p.length + 1 := by
  unfold putI
  split <;> simp
theorem putI_nd {w : Rat} (h : (p.map (·.1)).Nodup) : ((putI p m w).map (·.1)).Nodup := by
  rw [putI_keys]
  split
  · exact h
  · rename_i c
    have : getI p m = none := by simpa using c
    rw [List.nodup_append]
    exact ⟨h, by simp, fun a ha b hb e => by
      rw [List.mem_singleton.mp hb] at e
      exact getI_none.mp this (e ▸ ha)⟩
theorem co_put {w : Rat} (h : (p.map (·.1)).Nodup) (k : List Int) : co (putI p m w) k = if k = m then w else co p k := by
  have hP := putI_nd (m := m) (w := w) h
  unfold putI at hP ⊢
  split
  · rename_i c
    rw [if_pos c] at hP
    obtain ⟨u, hu⟩ := Option.isSome_iff_exists.mp c
    have hmem := getI_some hu
    by_cases e : k = m
    · subst e
      rw [if_pos rfl]
      exact co_mem (x := (k, w)) hP (List.mem_map.mpr ⟨_, hmem, if_pos rfl⟩)
    · rw [if_neg e]
      by_cases hk : k ∈ p.map (·.1)
      · obtain ⟨y, hy, rfl⟩ := List.mem_map.mp hk
        rw [co_mem h hy]
        exact co_mem (x := y) hP (List.mem_map.mpr ⟨y, hy, if_neg e⟩)
      · rw [co_no hk]
        refine co_no fun hk2 => hk ?_
        obtain ⟨y, hy, rfl⟩ := List.mem_map.mp hk2
        obtain ⟨z, hz, rfl⟩ := List.mem_map.mp hy
        refine List.mem_map.mpr ⟨z, hz, ?_⟩
        split <;> rfl
  · rename_i c
    have hm : getI p m = none := by simpa using c
    rw [co_app]
    by_cases e : k = m
    · subst e
      rw [if_pos rfl, getI_co0 hm]
      simp [co, Rat.zero_add, Rat.add_zero]
    · rw [if_neg e, co, if_neg (fun h => e h.symm)]
      simp [co, Rat.add_zero]
/-! ### the dict of a formal sum -/
theorem Fq.zero (f : Int) : Fq f 0 := Fq.int f 0
theorem Fq.co : ∀ {s : Pv}, (∀ x ∈ s, Fq f x.2) → ∀ m, Fq f (L2.PyD.co s m)
  | [], _, m => by rw [L2.PyD.co]; exact Fq.zero f
  | x :: s, h, m => by
    rw [L2.PyD.co]
    refine Fq.add ?_ (Fq.co (fun y hy => h y (List.mem_cons_of_mem _ hy)) m)
    split
    · exact h x List.mem_cons_self
    · exact Fq.zero f
theorem rd_addl {a b : Rat} (ha : Fq f a) (hb : Fq f b) : rd f (rd f a + b) = rd f (a + b) := by
  rw [← rd_add ha.rd hb, rd_rd ha, rd_add ha hb]
theorem rd_addr {a b : Rat} (ha : Fq f a) (hb : Fq f b) : rd f (a + rd f b) = rd f (a + b) := by
  rw [Rat.add_comm, rd_addl hb ha, Rat.add_comm]
theorem rd_mull {a b : Rat} (ha : Fq f a) (hb : Fq f b) : rd f (rd f a * b) = rd f (a * b) := by
  rw [← rd_mul ha.rd hb, rd_rd ha, rd_mul ha hb]
theorem rd_mulr {a b : Rat} (ha : Fq f a) (hb : Fq f b) : rd f (a * rd f b) = rd f (a * b) := by
  rw [Rat.mul_comm, rd_mull hb ha, Rat.mul_comm]
theorem rd_0 (f : Int) : rd f 0 = 0 := by
  by_cases h : f = 0
  · subst h; exact rd_zero 0
  · have := rd_int h 0
    rw [Int.zero_emod] at this
    exact this
structure DkR (f : Int) (s S : Pv) : Prop where
  nd : (S.map (·.1)).Nodup
  co : ∀ m, L2.PyD.co S m = rd f (L2.PyD.co s m)
  ks : ∀ x ∈ S, ∃ y ∈ s, y.1 = x.1
  len : S.length ≤ s.length
theorem DkR.nil : DkR f [] [] := ⟨List.nodup_nil, fun m => (rd_0 f).symm, fun _ h => (nomatch h), Nat.le_refl _⟩
theorem DkR.add {x : Tm} (h : DkR f s S) (hs : ∀ x ∈ s, Fq f x.2) (hx : Fq f x.2) : DkR f (s ++ [x]) (addR f S x) := by
  refine ⟨putI_nd h.nd, fun m => ?_, fun y hy => ?_, ?_⟩
  · unfold addR
    rw [co_put h.nd, co_app, h.co]
    by_cases e : m = x.1
    · subst e
      rw [if_pos rfl, rd_addl (Fq.co hs _) hx]
      simp [L2.PyD.co, Rat.add_zero]
    · rw [if_neg e, h.co]
      simp [L2.PyD.co, Rat.add_zero, show x.1 ≠ m from fun e' => e e'.symm]
  · rcases putI_mem hy with e | e
    · exact ⟨x, List.mem_append_right _ (List.mem_singleton.mpr rfl), by rw [e]⟩
    · obtain ⟨z, hz, e⟩ := h.ks y e
      exact ⟨z, List.mem_append_left _ hz, e⟩
  · rw [List.length_append]
    have := h.len
    exact Nat.le_trans putI_len (by simp; omega)
theorem DkR.fold : ∀ (t : Pv) {s S : Pv}, DkR f s S → (∀ x ∈ s, Fq f x.2) → (∀ x ∈ t, Fq f x.2) → DkR f (s ++ t) (t.foldl (addR f) S)
  | [], s, S, h, _, _ => by rw [List.append_nil]; exact h
  | x :: t, s, S, h, hs, ht => by
    have hx := ht x List.mem_cons_self
    have := DkR.fold t (h.add hs hx) (fun y hy => by
      rcases List.mem_append.mp hy with q | q
      · exact hs y q
      · rw [List.mem_singleton.mp q]; exact hx) fun y hy => ht y (List.mem_cons_of_mem _ hy)
    rw [List.append_assoc] at this
    exact this
theorem sumR_dk (h : ∀ x ∈ t, Fq f x.2) : DkR f t (sumR f t) := DkR.fold t DkR.nil (fun _ h => (nomatch h)) h
theorem sumR_snoc (x : Tm) : sumR f (t ++ [x]) = addR f (sumR f t) x := by
  unfold sumR
  rw [List.foldl_append]
  rfl
theorem sumR_app : sumR f (s ++ t) = t.foldl (addR f) (sumR f s) := List.foldl_append ..
theorem fold_fix : ∀ (xs acc : Pv), ((acc ++ xs).map (·.1)).Nodup → (∀ x ∈ xs, rd f x.2 = x.2) → xs.foldl (addR f) acc = acc ++ xs
  | [], acc, _, _ => by simp
  | x :: xs, acc, h, hx => by
    have hn : getI acc x.1 = none := getI_none.mpr fun hm => by
      rw [List.map_append, List.map_cons, List.nodup_append] at h
      exact h.2.2 x.1 hm x.1 (List.mem_cons_self ..) rfl
    have e : addR f acc x = acc ++ [x] := by
      unfold addR putI
      rw [hn, getI_co0 hn, Rat.zero_add, hx x List.mem_cons_self]
      rfl
    rw [List.foldl_cons, e, fold_fix xs (acc ++ [x]) (by rw [List.append_assoc]; exact h) fun y hy => hx y (List.mem_cons_of_mem _ hy), List.append_assoc]
    rfl
theorem sumR_fix (h : (p.map (·.1)).Nodup) (hx : ∀ x ∈ p, rd f x.2 = x.2) : sumR f p = p := by
  unfold sumR
  rw [fold_fix p [] (by simpa using h) hx, List.nil_append]
/-! ### the canonical polynomial -/
theorem inj_of (hm : ∀ x ∈ p, x.1.length = n) (hn : (p.map (·.1)).Nodup) : ∀ a ∈ p, ∀ b ∈ p, keyF o a.1 = keyF o b.1 → a = b := fun a ha b hb e => by
  have e := keyF_inj (by rw [hm a ha, hm b hb]) e
  obtain ⟨i, hi, rfl⟩ := List.getElem_of_mem ha
  obtain ⟨j, hj, rfl⟩ := List.getElem_of_mem hb
  have : i = j := (List.getElem_inj (xs := p.map (·.1)) (h₀ := by simpa using hi) (h₁ := by simpa using hj) hn).mp (by simpa using e)
  subst this
  rfl
theorem keys_perm (h : q.Perm p) (hn : (p.map (·.1)).Nodup) : (q.map (·.1)).Nodup := (h.map _).nodup_iff.mpr hn
theorem nz_keys (hn : (p.map (·.1)).Nodup) : ((nz p).map (·.1)).Nodup := (List.Sublist.map _ List.filter_sublist).nodup hn
theorem nz_mem {x : Tm} (h : x ∈ nz p) : x ∈ p ∧ x.2 ≠ 0 := by
  obtain ⟨a, b⟩ := List.mem_filter.mp h
  exact ⟨a, by simpa using b⟩
theorem srt_perm0 (o : Ordr) (p : Pv) : (srt o p).Perm p := sortK_perm _ _ _
theorem srt_desc (hm : ∀ x ∈ p, x.1.length = n) (hn : (p.map (·.1)).Nodup) : (srt o p).Pairwise fun a b => 0 < lx (keyF o a.1) (keyF o b.1) := by
  have hp : (srt o p).Perm p := sortK_perm _ _ _
  have h1 := sortK_pw true (fun x : Tm => keyF o x.1) p
  have h2 : (srt o p).Pairwise (· ≠ ·) := (List.pairwise_map.mp (keys_perm hp hn)).imp fun h e => h (by rw [e])
  refine (List.Pairwise.and h1 h2).imp_of_mem fun {a b} ha hb ⟨h, hne⟩ => ?_
  have h : decide (lx (keyF o b.1) (keyF o a.1) ≤ 0) = true := h
  have h := of_decide_eq_true h
  have hz : lx (keyF o a.1) (keyF o b.1) ≠ 0 := fun z => hne (inj_of hm hn a (hp.mem_iff.mp ha) b (hp.mem_iff.mp hb) (lx_zero z))
  have := lx_neg (keyF o a.1) (keyF o b.1)
  omega
theorem co_nz : ∀ (p : Pv) (m : List Int), co (nz p) m = co p m
  | [], _ => rfl
  | x :: p, m => by
    have ih := co_nz p m
    unfold nz at ih ⊢
    by_cases e : x.2 = 0
    · rw [List.filter_cons_of_neg (by simp [e]), ih, co, e]
      split <;> rw [Rat.zero_add]
    · rw [List.filter_cons_of_pos (by simp [e]), co, ih, co]
theorem desc_nd (h : p.Pairwise fun a b => 0 < lx (keyF o a.1) (keyF o b.1)) : (p.map (·.1)).Nodup := by
  refine List.pairwise_map.mpr (h.imp fun {a b} h e => ?_)
  rw [e, lx_self] at h
  omega
theorem cn_perm : (cn f o t).Perm (nz (sumR f t)) := sortK_perm _ _ _
theorem cn_mem {x : Tm} (h : x ∈ cn f o t) : x ∈ sumR f t ∧ x.2 ≠ 0 := nz_mem (cn_perm.mem_iff.mp h)
theorem cn_nd (h : ∀ x ∈ t, Fq f x.2) : ((cn f o t).map (·.1)).Nodup := keys_perm cn_perm (nz_keys (sumR_dk h).nd)
theorem cn_key (h : ∀ x ∈ t, Fq f x.2) {x : Tm} (hx : x ∈ cn f o t) : ∃ y ∈ t, y.1 = x.1 := (sumR_dk h).ks x (cn_mem hx).1
theorem cn_desc (h : ∀ x ∈ t, Fq f x.2) (hl : Len n t) : (cn f o t).Pairwise fun a b => 0 < lx (keyF o a.1) (keyF o b.1) :=
  srt_desc (n := n) (fun x hx => by
    obtain ⟨y, hy, e⟩ := (sumR_dk h).ks x (nz_mem hx).1
    rw [← e]
    exact hl y hy) (nz_keys (sumR_dk h).nd)
theorem cn_co (h : ∀ x ∈ t, Fq f x.2) (m : List Int) : co (cn f o t) m = rd f (co t m) := by
  rw [co_perm cn_perm, co_nz, (sumR_dk h).co]
theorem cn_val (h : ∀ x ∈ t, Fq f x.2) {x : Tm} (hx : x ∈ cn f o t) : x.2 = rd f (co t x.1) := by
  rw [← cn_co h, co_mem (cn_nd h) hx]
theorem cn_fq (h : ∀ x ∈ t, Fq f x.2) : ∀ x ∈ cn f o t, Fq f x.2 := fun x hx => by
  rw [cn_val h hx]
  exact (Fq.co h _).rd
theorem cn_len0 (h : Len n t) (hq : ∀ x ∈ t, Fq f x.2) : Len n (cn f o t) := fun x hx => by
  obtain ⟨y, hy, e⟩ := cn_key hq hx
  rw [← e]
  exact h y hy
theorem eq_of_desc (hp : p.Pairwise fun a b => 0 < lx (keyF o a.1) (keyF o b.1)) (hq : q.Pairwise fun a b => 0 < lx (keyF o a.1) (keyF o b.1)) (zp : ∀ x ∈ p, x.2 ≠ 0) (zq : ∀ x ∈ q, x.2 ≠ 0) (h : ∀ x, x ∈ p ∨ x ∈ q → co p x.1 = co q x.1) : p = q := by
  refine eq_of_strict (r := fun a b : Tm => 0 < lx (keyF o a.1) (keyF o b.1)) (fun a h => by rw [lx_self] at h; omega) (fun a b h h' => by
    have := lx_neg (keyF o a.1) (keyF o b.1)
    omega) p q hp hq fun x => ⟨?_, ?_⟩
  · exact mem_of_co (desc_nd hp) (desc_nd hq) zp (fun x hx => h x (.inl hx)) x
  · exact mem_of_co (desc_nd hq) (desc_nd hp) zq (fun x hx => (h x (.inr hx)).symm) x
theorem cn_uniq (hl : Len n t) (hl' : Len n t') (h : ∀ x ∈ t, Fq f x.2) (h' : ∀ x ∈ t', Fq f x.2) (he : ∀ m : List Int, m.length = n → rd f (co t m) = rd f (co t' m)) : cn f o t = cn f o t' := by
  refine eq_of_desc (o := o) (cn_desc h hl) (cn_desc h' hl') (fun x hx => (cn_mem hx).2) (fun x hx => (cn_mem hx).2) fun x hx => ?_
  rw [cn_co h, cn_co h']
  refine he _ ?_
  rcases hx with hx | hx
  · exact cn_len0 hl h x hx
  · exact cn_len0 hl' h' x hx
theorem cn_fix (hd : p.Pairwise fun a b => 0 < lx (keyF o a.1) (keyF o b.1)) (hl : Len n p) (hz : ∀ x ∈ p, x.2 ≠ 0) (hq : ∀ x ∈ p, Fq f x.2) (hx : ∀ x ∈ p, rd f x.2 = x.2) : cn f o p = p := by
  refine eq_of_desc (o := o) (cn_desc hq hl) hd (fun x hx => (cn_mem hx).2) hz fun x _ => ?_
  rw [cn_co hq]
  by_cases hm : x.1 ∈ p.map (·.1)
  · obtain ⟨y, hy, e⟩ := List.mem_map.mp hm
    rw [← e, co_mem (desc_nd hd) hy, hx y hy]
  · rw [co_no hm, rd_0]
/-- no more terms than there are monomials -/
theorem nodup_le {α : Type} [DecidableEq α] : ∀ {l k : List α}, l.Nodup → (∀ x ∈ l, x ∈ k) → l.length ≤ k.length
  | [], _, _, _ => Nat.zero_le _
  | a :: l, k, hn, h => by
    have ha := h a List.mem_cons_self
    have hn := List.nodup_cons.mp hn
    have ih := nodup_le (l := l) (k := k.erase a) hn.2 fun x hx => (List.mem_erase_of_ne (fun e => by subst e; exact hn.1 hx)).mpr (h x (List.mem_cons_of_mem _ hx))
    rw [List.length_erase_of_mem ha] at ih
    have : 0 < k.length := List.length_pos_of_mem ha
    rw [List.length_cons]
    omega
theorem cn_len (h : ∀ x ∈ t, Fq f x.2) : (cn f o t).length ≤ t.length := by
  rw [cn_perm.length_eq]
  exact Nat.le_trans (List.length_filter_le _ _) (sumR_dk h).len
theorem cn_count (h : ∀ x ∈ t, Fq f x.2) {ks : List (List Int)} (hk : ∀ x ∈ t, x.1 ∈ ks) : (cn f o t).length ≤ ks.length := by
  have := nodup_le (cn_nd (o := o) h) (k := ks) fun x hx => by
    obtain ⟨y, hy, rfl⟩ := List.mem_map.mp hx
    obtain ⟨z, hz, e⟩ := cn_key h hy
    rw [← e]
    exact hk z hz
  rwa [List.length_map] at this
/-! ### sums, products, derivatives of canonical polynomials -/
theorem fq_app (h : ∀ x ∈ s, Fq f x.2) (h' : ∀ x ∈ t, Fq f x.2) : ∀ x ∈ s ++ t, Fq f x.2 := fun x hx => by
  rcases List.mem_append.mp hx with q | q
  · exact h x q
  · exact h' x q
theorem fq_mul (h : ∀ x ∈ s, Fq f x.2) (h' : ∀ x ∈ t, Fq f x.2) : ∀ x ∈ mulL s t, Fq f x.2 := fun x hx => by
  obtain ⟨y, hy, hx⟩ := List.mem_flatMap.mp hx
  obtain ⟨z, hz, rfl⟩ := List.mem_map.mp hx
  exact (h y hy).mul (h' z hz)
theorem fq_d (h : ∀ x ∈ s, Fq f x.2) (i : Nat) : ∀ x ∈ dL i s, Fq f x.2 := fun x hx => by
  obtain ⟨y, hy, rfl⟩ := List.mem_map.mp hx
  exact (Fq.int f _).mul (h y hy)
/-- equal modulo f -/
def Eqm (f : Int) (n : Nat) (s t : Pv) : Prop := ∀ m : List Int, m.length = n → rd f (co s m) = rd f (co t m)
theorem Eqm.refl (s : Pv) : Eqm f n s s := fun _ _ => rfl
theorem Eqm.symm (h : Eqm f n s t) : Eqm f n t s := fun m hm => (h m hm).symm
theorem Eqm.trans {u : Pv} (h : Eqm f n s t) (h' : Eqm f n t u) : Eqm f n s u := fun m hm => (h m hm).trans (h' m hm)
theorem Eqm.of (h : ∀ m : List Int, m.length = n → co s m = co t m) : Eqm f n s t := fun m hm => by rw [h m hm]
theorem Eqm.cn (h : ∀ x ∈ t, Fq f x.2) : Eqm f n (cn f o t) t := fun m hm => by rw [cn_co h, rd_rd (Fq.co h _)]
theorem Eqm.app {s' t' : Pv} (hs : ∀ x ∈ s, Fq f x.2) (ht : ∀ x ∈ t, Fq f x.2) (hs' : ∀ x ∈ s', Fq f x.2) (ht' : ∀ x ∈ t', Fq f x.2) (h : Eqm f n s s') (h' : Eqm f n t t') : Eqm f n (s ++ t) (s' ++ t') := fun m hm => by
  rw [co_app, co_app, ← rd_add (Fq.co hs m) (Fq.co ht m), h m hm, h' m hm, rd_add (Fq.co hs' m) (Fq.co ht' m)]
theorem Eqm.comm (a b : Pv) : Eqm f n (mulL a b) (mulL b a) := fun m _ => by rw [co_mul_comm]
theorem Eqm.mulr {a b c : Pv} (ha : ∀ x ∈ a, Fq f x.2) (hb : ∀ x ∈ b, Fq f x.2) (hc : ∀ x ∈ c, Fq f x.2) (la : Len n a) (lb : Len n b) (lc : Len n c) (h : Eqm f n b c) : Eqm f n (mulL a b) (mulL a c) := fun m hm => by
  induction a with
  | nil => rfl
  | cons x a ih =>
    have hx := ha x List.mem_cons_self
    have lx := la x List.mem_cons_self
    have ha' : ∀ y ∈ a, Fq f y.2 := fun y hy => ha y (List.mem_cons_of_mem _ hy)
    have e : ∀ d : Pv, (∀ x ∈ d, Fq f x.2) → Len n d → rd f (co (mulL (x :: a) d) m) = rd f (rd f (x.2 * rd f (co d (subL m x.1))) + rd f (co (mulL a d) m)) := fun d hd ld => by
      rw [mulL_cons, co_app, co_mulT lx ld hm, rd_mulr hx (Fq.co hd _), rd_add (hx.mul (Fq.co hd _)) (Fq.co (fq_mul ha' hd) m)]
    rw [e b hb lb, e c hc lc, h _ (by rw [subL_len (by omega)]; omega), ih ha' fun y hy => la y (List.mem_cons_of_mem _ hy)]
theorem Eqm.mull {a b c : Pv} (ha : ∀ x ∈ a, Fq f x.2) (hb : ∀ x ∈ b, Fq f x.2) (hc : ∀ x ∈ c, Fq f x.2) (la : Len n a) (lb : Len n b) (lc : Len n c) (h : Eqm f n b c) : Eqm f n (mulL b a) (mulL c a) :=
  (Eqm.comm b a).trans ((Eqm.mulr ha hb hc la lb lc h).trans (Eqm.comm a c))
theorem co_d {i : Nat} {m : List Int} (hl : Len n s) (hi : i < n) (hm : m.length = n) : co (dL i s) m = ((m.getD i 0 + 1 : Int) : Rat) * co s (m.set i (m.getD i 0 + 1)) := by
  induction s with
  | nil => simp [dL, co, Rat.mul_zero]
  | cons x s ih =>
    have hx := hl x List.mem_cons_self
    have e : dL i (x :: s) = dT i x :: dL i s := rfl
    rw [e, co, co, ih fun y hy => hl y (List.mem_cons_of_mem _ hy), Rat.mul_add]
    congr 1
    have hi1 : i < x.1.length := by omega
    have hi2 : i < m.length := by omega
    have ek : ∀ (l : List Int) (h : i < l.length), l.getD i 0 = l[i] := fun l h => by rw [List.getD_eq_getElem?_getD, List.getElem?_eq_getElem h]; rfl
    have iff : (dT i x).1 = m ↔ x.1 = m.set i (m.getD i 0 + 1) := by
      show x.1.set i (x.1.getD i 0 - 1) = m ↔ _
      constructor
      · rintro rfl
        rw [ek _ hi1, ek _ (by simpa using hi1), List.getElem_set_self, List.set_set, Int.sub_add_cancel, List.set_getElem_self]
      · intro h
        have e3 : ∀ v : Int, (m.set i v).getD i 0 = v := fun v => by rw [ek _ (by simpa using hi2), List.getElem_set_self]
        rw [h, e3, List.set_set, ek _ hi2, Int.add_sub_cancel, List.set_getElem_self]
    by_cases c : (dT i x).1 = m
    · rw [if_pos c, if_pos (iff.mp c)]
      show ((x.1.getD i 0 : Int) : Rat) * x.2 = _
      have := iff.mp c
      have e2 : x.1.getD i 0 = m.getD i 0 + 1 := by
        rw [this, ek _ (by simpa using hi2), List.getElem_set_self]
      rw [e2]
    · rw [if_neg c, if_neg (fun h => c (iff.mpr h)), Rat.mul_zero]
theorem Eqm.d {i : Nat} (hs : ∀ x ∈ s, Fq f x.2) (ht : ∀ x ∈ t, Fq f x.2) (ls : Len n s) (lt : Len n t) (hi : i < n) (h : Eqm f n s t) : Eqm f n (dL i s) (dL i t) := fun m hm => by
  rw [co_d ls hi hm, co_d lt hi hm, ← rd_mulr (Fq.int f _) (Fq.co hs _), h _ (by rw [List.length_set]; exact hm), rd_mulr (Fq.int f _) (Fq.co ht _)]
theorem cn_eqm (ls : Len n s) (lt : Len n t) (hs : ∀ x ∈ s, Fq f x.2) (ht : ∀ x ∈ t, Fq f x.2) (h : Eqm f n s t) : cn f o s = cn f o t := cn_uniq ls lt hs ht h
/-- the terms whose exponent is not zero -/
def dF (i : Nat) (p : Pv) : Pv := (p.filter fun x => decide (0 < x.1.getD i 0)).map (dT i)
theorem co_dF {i : Nat} : ∀ {p : Pv}, (∀ x ∈ p, 0 ≤ x.1.getD i 0) → ∀ m, co (dF i p) m = co (dL i p) m
  | [], _, _ => rfl
  | x :: p, h, m => by
    have ih := co_dF fun y hy => h y (List.mem_cons_of_mem _ hy)
    have hx := h x List.mem_cons_self
    have e : dL i (x :: p) = dT i x :: dL i p := rfl
    unfold dF at ih ⊢
    rw [e, co]
    by_cases c : 0 < x.1.getD i 0
    · rw [List.filter_cons_of_pos (by simpa using c), List.map_cons, co, ih]
    · rw [List.filter_cons_of_neg (by simpa using c), ih]
      have z : x.1.getD i 0 = 0 := by omega
      have : (dT i x).2 = 0 := by
        show ((x.1.getD i 0 : Int) : Rat) * x.2 = 0
        rw [z]
        exact Rat.zero_mul _
      rw [this]
      split <;> rw [Rat.zero_add]
theorem d_comm (i j : Nat) (p : Pv) : dL i (dL j p) = dL j (dL i p) := by
  unfold dL
  rw [List.map_map, List.map_map]
  refine List.map_congr_left fun x _ => ?_
  simp only [Function.comp]
  by_cases e : i = j
  · subst e; rfl
  · have e1 : ∀ (l : List Int) (a : Int) (i j : Nat), i ≠ j → (l.set j a).getD i 0 = l.getD i 0 := fun l a i j h => by
      rw [List.getD_eq_getElem?_getD, List.getElem?_set_ne (fun h' => h h'.symm), ← List.getD_eq_getElem?_getD]
    unfold dT
    simp only [e1 _ _ _ _ e, e1 _ _ _ _ (Ne.symm e)]
    refine Prod.ext ?_ ?_
    · exact List.set_comm _ _ (Ne.symm e)
    · simp only []
      grind
end L2.PyD
/-! Alg7: sizes of polynomials (degree, numbers, number of terms); sums, products, derivatives, powers. -/
namespace L2.PyD
open PySem
variable {n d d' M M' D D' L L' : Nat} {f : Int} {o : Ordr} {p q t t' s S : Pv} {m : List Int}
/-- a monomial of at most a degree -/
structure Mg (n d : Nat) (m : List Int) : Prop where
  len : m.length = n
  pos : ∀ x ∈ m, 0 ≤ x
  sum : m.sum ≤ (d : Int)
theorem Mg.mono (h : Mg n d m) (hd : d ≤ d') : Mg n d' m := ⟨h.len, h.pos, by have := h.sum; omega⟩
theorem Mg.add {m m' : List Int} (h : Mg n d m) (h' : Mg n d' m') : Mg n (d + d') (addL m m') := by
  have e : m.length = m'.length := by rw [h.len, h'.len]
  refine ⟨by rw [addL_len e, h.len], fun x hx => ?_, ?_⟩
  · obtain ⟨i, hi, rfl⟩ := List.getElem_of_mem hx
    rw [addL_len e] at hi
    have hi' : i < m'.length := by omega
    have a := h.pos _ (List.getElem_mem hi)
    have b := h'.pos _ (List.getElem_mem hi')
    simp only [addL, List.getElem_zipWith]
    omega
  · rw [sum_add e]
    have := h.sum
    have := h'.sum
    omega
theorem Mg.unit (n d : Nat) : Mg n d (List.replicate n 0) := ⟨List.length_replicate, fun x hx => by rw [List.eq_of_mem_replicate hx]; exact Int.le_refl _, by rw [show (List.replicate n (0 : Int)).sum = 0 by induction n with | zero => rfl | succ n ih => rw [List.replicate_succ, List.sum_cons, ih]; rfl]; omega⟩
theorem le_sumI : ∀ {m : List Int}, (∀ x ∈ m, 0 ≤ x) → ∀ x ∈ m, x ≤ m.sum
  | e :: r, h, x, hx => by
    have h1 := (sum_pos (a := r) fun x m => h x (List.mem_cons_of_mem _ m)).1
    have hd := h e (List.mem_cons_self ..)
    rw [List.sum_cons]
    rcases List.mem_cons.mp hx with e | hx
    · omega
    · have := le_sumI (m := r) (fun x m => h x (List.mem_cons_of_mem _ m)) x hx
      omega
theorem Mg.at (h : Mg n d m) {i : Nat} (hi : i < n) : 0 ≤ m.getD i 0 ∧ m.getD i 0 ≤ (d : Int) := by
  have hi : i < m.length := by rw [h.len]; exact hi
  rw [List.getD_eq_getElem?_getD, List.getElem?_eq_getElem hi]
  exact ⟨h.pos _ (List.getElem_mem hi), Int.le_trans (le_sumI h.pos _ (List.getElem_mem hi)) h.sum⟩
theorem sum_set : ∀ (m : List Int) (i : Nat) (v : Int), i < m.length → (m.set i v).sum = m.sum - m.getD i 0 + v
  | x :: m, 0, v, _ => by simp; omega
  | x :: m, i + 1, v, h => by
    rw [List.set_cons_succ, List.sum_cons, sum_set m i v (by simpa using h), List.sum_cons, List.getD_cons_succ]
    omega
theorem Mg.dec (h : Mg n d m) {i : Nat} (hi : i < n) (hp : 0 < m.getD i 0) : Mg n d (m.set i (m.getD i 0 - 1)) := by
  refine ⟨by rw [List.length_set, h.len], fun x hx => ?_, ?_⟩
  · rcases List.mem_or_eq_of_mem_set hx with q | q
    · exact h.pos x q
    · omega
  · rw [sum_set _ _ _ (by rw [h.len]; exact hi)]
    have := h.sum
    omega
/-- a number of a size -/
def Fz (f : Int) (M D : Nat) (q : Rat) : Prop := Fq f q ∧ (f = 0 → Sz M D q)
theorem Fz.zero : Fz f M D 0 := ⟨Fq.zero f, fun _ => Sz.zero M D⟩
theorem Fz.add {a b : Rat} (ha : Fz f M D a) (hb : Fz f M' D b) : Fz f (M + M') D (a + b) := ⟨ha.1.add hb.1, fun h => (ha.2 h).add (hb.2 h)⟩
theorem Fz.mul {a b : Rat} (ha : Fz f M D a) (hb : Fz f M' D' b) : Fz f (M * M') (D * D') (a * b) := ⟨ha.1.mul hb.1, fun h => (ha.2 h).mul (hb.2 h)⟩
theorem Fz.neg {a : Rat} (ha : Fz f M D a) : Fz f M D (-a) := ⟨by
  rcases ha.1 with e | ⟨z, rfl⟩
  · exact .inl e
  · rw [← Rat.intCast_neg]; exact Fq.int ..
  , fun h => (ha.2 h).neg⟩
theorem Fz.mono {a : Rat} (ha : Fz f M D a) (h : M ≤ M') : Fz f M' D a := ⟨ha.1, fun e => (ha.2 e).mono h⟩
theorem Fz.int {z : Int} (h : z.natAbs ≤ M) : Fz f M 1 (z : Rat) := ⟨Fq.int .., fun _ => Sz.ofInt h⟩
theorem Fz.rd {a : Rat} (ha : Fz f M D a) : Fz f M D (rd f a) := ⟨ha.1.rd, fun e => by
  have := ha.2 e
  subst e
  rwa [rd_zero]⟩
theorem Fz.co (h : ∀ x ∈ s, Fz f M D x.2) (m : List Int) : Fz f (s.length * M) D (co s m) := ⟨Fq.co (fun x hx => (h x hx).1) m, fun e => Sz.co (fun x hx => (h x hx).2 e) m⟩
theorem Sz.scale {q : Rat} (h : Sz M D q) (k : Nat) : Sz (M * k) (D * k) q := by
  have := h.mul (Sz.ofInt (M := k) (z := k) (by omega))
  obtain ⟨z, hz, hz'⟩ := h
  refine ⟨z * k, ?_, by rw [Int.natAbs_mul]; exact Nat.mul_le_mul hz' (by omega)⟩
  have e : (((D * k : Nat) : Int) : Rat) = ((D : Int) : Rat) * ((k : Int) : Rat) := by
    rw [← Rat.intCast_mul]; congr 1
  rw [e, Rat.intCast_mul, ← hz]
  grind
theorem Fz.scale {a : Rat} (ha : Fz f M D a) (k : Nat) : Fz f (M * k) (D * k) a := ⟨ha.1, fun e => (ha.2 e).scale k⟩
theorem Fz.ok {B : Nat} {a : Rat} (hf : 0 ≤ f) (ha : Fz f M D a) (hx : L2.PyD.rd f a = a) (hD0 : 0 < D) (hM : M < B) (hD : D < B) : nOkR f B a := by
  unfold nOkR
  by_cases e : f > 0
  · rw [if_pos e]
    rcases ha.1 with h | ⟨z, rfl⟩
    · omega
    · rw [rd_int (by omega)] at hx
      have hx := Rat.intCast_inj.mp hx
      refine ⟨z, rfl, ?_, ?_⟩
      · rw [← hx]; exact Int.emod_nonneg _ (by omega)
      · rw [← hx]; exact Int.emod_lt_of_pos _ e
  · rw [if_neg e]
    obtain ⟨a1, a2⟩ := (ha.2 (by omega)).pair hD0
    omega
/-- the terms of a formal sum -/
structure Ts (f : Int) (n d M D L : Nat) (t : Pv) : Prop where
  mn : ∀ x ∈ t, Mg n d x.1
  fz : ∀ x ∈ t, Fz f M D x.2
  len : t.length ≤ L
/-- a polynomial -/
structure Ps (f : Int) (n : Nat) (o : Ordr) (d M D L : Nat) (p : Pv) : Prop where
  mn : ∀ x ∈ p, Mg n d x.1
  fz : ∀ x ∈ p, Fz f M D x.2
  len : p.length ≤ L
  nz : ∀ x ∈ p, x.2 ≠ 0
  fx : ∀ x ∈ p, rd f x.2 = x.2
  desc : p.Pairwise fun a b => 0 < lx (keyF o a.1) (keyF o b.1)
theorem Ts.fq (h : Ts f n d M D L t) : ∀ x ∈ t, Fq f x.2 := fun x hx => (h.fz x hx).1
theorem Ts.ln (h : Ts f n d M D L t) : Len n t := fun x hx => (h.mn x hx).len
theorem Ts.mono (h : Ts f n d M D L t) (h1 : d ≤ d') (h2 : M ≤ M') (h3 : L ≤ L') : Ts f n d' M' D L' t := ⟨fun x hx => (h.mn x hx).mono h1, fun x hx => (h.fz x hx).mono h2, Nat.le_trans h.len h3⟩
theorem Ts.scale (h : Ts f n d M D L t) (k : Nat) : Ts f n d (M * k) (D * k) L t := ⟨h.mn, fun x hx => (h.fz x hx).scale k, h.len⟩
theorem Ts.app (h : Ts f n d M D L t) (h' : Ts f n d M D L' t') : Ts f n d M D (L + L') (t ++ t') := ⟨fun x hx => by
  rcases List.mem_append.mp hx with q | q
  · exact h.mn x q
  · exact h'.mn x q, fun x hx => by
  rcases List.mem_append.mp hx with q | q
  · exact h.fz x q
  · exact h'.fz x q, by
  rw [List.length_append]
  have := h.len
  have := h'.len
  omega⟩
theorem Ts.mul (h : Ts f n d M D L t) (h' : Ts f n d' M' D' L' t') : Ts f n (d + d') (M * M') (D * D') (L * L') (mulL t t') := ⟨fun x hx => by
  obtain ⟨y, hy, hx⟩ := List.mem_flatMap.mp hx
  obtain ⟨z, hz, rfl⟩ := List.mem_map.mp hx
  exact (h.mn y hy).add (h'.mn z hz), fun x hx => by
  obtain ⟨y, hy, hx⟩ := List.mem_flatMap.mp hx
  obtain ⟨z, hz, rfl⟩ := List.mem_map.mp hx
  exact (h.fz y hy).mul (h'.fz z hz), by
  rw [mulL_len]
  exact Nat.mul_le_mul h.len h'.len⟩
theorem Ts.dF {i : Nat} (hi : i < n) (h : Ts f n d M D L t) : Ts f n d (d * M) D L (L2.PyD.dF i t) := ⟨fun x hx => by
  obtain ⟨y, hy, rfl⟩ := List.mem_map.mp hx
  obtain ⟨hy, hp⟩ := List.mem_filter.mp hy
  exact (h.mn y hy).dec hi (by simpa using hp), fun x hx => by
  obtain ⟨y, hy, rfl⟩ := List.mem_map.mp hx
  obtain ⟨hy, hp⟩ := List.mem_filter.mp hy
  have ha := (h.mn y hy).at hi
  have := (Fz.int (f := f) (M := d) (z := y.1.getD i 0) (by omega)).mul (h.fz y hy)
  rw [Nat.one_mul] at this
  exact this, by
  unfold L2.PyD.dF
  rw [List.length_map]
  exact Nat.le_trans (List.length_filter_le _ _) h.len⟩
theorem Ps.ts (h : Ps f n o d M D L p) : Ts f n d M D L p := ⟨h.mn, h.fz, h.len⟩
theorem Ps.nd (h : Ps f n o d M D L p) : (p.map (·.1)).Nodup := desc_nd h.desc
theorem Ps.fix (h : Ps f n o d M D L p) : cn f o p = p := cn_fix h.desc h.ts.ln h.nz h.ts.fq h.fx
theorem Ps.mono (h : Ps f n o d M D L p) (h1 : d ≤ d') (h2 : M ≤ M') (h3 : L ≤ L') : Ps f n o d' M' D L' p := ⟨(h.ts.mono h1 h2 h3).mn, (h.ts.mono h1 h2 h3).fz, (h.ts.mono h1 h2 h3).len, h.nz, h.fx, h.desc⟩
theorem Ts.cnl (h : Ts f n d M D L t) (hl : (cn f o t).length ≤ L') : Ps f n o d (L * M) D L' (cn f o t) := by
  refine ⟨fun x hx => ?_, fun x hx => ?_, hl, fun x hx => (cn_mem hx).2, fun x hx => ?_, cn_desc h.fq h.ln⟩
  · obtain ⟨y, hy, e⟩ := cn_key h.fq hx
    rw [← e]
    exact h.mn y hy
  · rw [cn_val h.fq hx]
    exact ((Fz.co h.fz _).mono (Nat.mul_le_mul_right _ h.len)).rd
  · rw [cn_val h.fq hx, rd_rd (Fq.co h.fq _)]
theorem Ts.cn (h : Ts f n d M D L t) : Ps f n o d (L * M) D L (L2.PyD.cn f o t) := h.cnl (Nat.le_trans (cn_len h.fq) h.len)
/-! ### powers -/
theorem Ts.unit (f : Int) (n : Nat) : Ts f n 0 1 1 1 [unitT n] := ⟨fun x hx => by rw [List.mem_singleton.mp hx]; exact Mg.unit n 0, fun x hx => by rw [List.mem_singleton.mp hx]; exact Fz.int (z := 1) (by decide), Nat.le_refl _⟩
theorem Ts.powT (h : Ts f n d M D L t) : ∀ k, Ts f n (k * d) (M ^ k) (D ^ k) (L ^ k) (powL n t k)
  | 0 => by
    have := Ts.unit f n
    rw [Nat.zero_mul, Nat.pow_zero, Nat.pow_zero, Nat.pow_zero]
    exact this
  | k + 1 => by
    have := (Ts.powT h k).mul h
    rw [Nat.succ_mul, Nat.pow_succ, Nat.pow_succ, Nat.pow_succ]
    exact this
theorem cn_mulL (hs : ∀ x ∈ s, Fq f x.2) (ht : ∀ x ∈ t, Fq f x.2) (ls : Len n s) (lt : Len n t) : cn f o (mulL (cn f o s) t) = cn f o (mulL s t) :=
  cn_eqm ((cn_len0 ls hs).mul lt) (ls.mul lt) (fq_mul (cn_fq hs) ht) (fq_mul hs ht) (Eqm.mull ht (cn_fq hs) hs lt (cn_len0 ls hs) ls (Eqm.cn hs))
/-- the powers of a polynomial, one by one -/
def pwR (f : Int) (n : Nat) (o : Ordr) (p : Pv) (k : Nat) : Pv := cn f o (powL n p k)
theorem pwR_succ (h : Ts f n d M D L p) (k : Nat) : cn f o (mulL (pwR f n o p k) p) = pwR f n o p (k + 1) :=
  cn_mulL (h.powT k).fq h.fq (h.powT k).ln h.ln
theorem pwR_ps {K Lm : Nat} (h : Ts f n d M D L p) (hL : 1 ≤ Lm) (hc : ∀ k ≤ K, (pwR f n o p k).length ≤ Lm) : ∀ k ≤ K, Ps f n o (k * d) ((Lm * L * M) ^ k) (D ^ k) Lm (pwR f n o p k)
  | 0, hk => by
    have := (Ts.unit f n).cnl (o := o) (hc 0 hk)
    rw [Nat.zero_mul, Nat.pow_zero, Nat.pow_zero]
    exact this
  | k + 1, hk => by
    have ih := pwR_ps h hL hc k (by omega)
    have := (ih.ts.mul h).cnl (o := o) (L' := Lm) (by rw [pwR_succ h]; exact hc (k + 1) hk)
    rw [pwR_succ h] at this
    rw [Nat.succ_mul, Nat.pow_succ, Nat.pow_succ]
    rw [show Lm * L * ((Lm * L * M) ^ k * M) = (Lm * L * M) ^ k * (Lm * L * M) by ac_rfl] at this
    exact this
/-- the monomials of the powers of a sum of three terms -/
def lin (i j l : Nat) (a b c : List Int) : List Int := addL (addL (a.map ((i : Int) * ·)) (b.map ((j : Int) * ·))) (c.map ((l : Int) * ·))
theorem lin_len {a b c : List Int} (ha : a.length = n) (hb : b.length = n) (hc : c.length = n) (i j l : Nat) : (lin i j l a b c).length = n := by
  unfold lin addL
  simp
  omega
theorem lin_at {a b c : List Int} (ha : a.length = n) (hb : b.length = n) (hc : c.length = n) (i j l k : Nat) (h : k < (lin i j l a b c).length) : (lin i j l a b c)[k] = (i : Int) * a[k]'(by rw [lin_len ha hb hc] at h; omega) + (j : Int) * b[k]'(by rw [lin_len ha hb hc] at h; omega) + (l : Int) * c[k]'(by rw [lin_len ha hb hc] at h; omega) := by
  unfold lin addL
  simp
theorem pow_keys {a b c : List Int} (ha : a.length = n) (hb : b.length = n) (hc : c.length = n) (h : ∀ x ∈ p, x.1 = a ∨ x.1 = b ∨ x.1 = c) : ∀ k, ∀ x ∈ powL n p k, ∃ i j l, i + j + l = k ∧ x.1 = lin i j l a b c
  | 0, x, hx => ⟨0, 0, 0, rfl, by
    rw [List.mem_singleton.mp hx]
    apply List.ext_getElem
    · rw [lin_len ha hb hc]; exact List.length_replicate
    · intro k h1 h2
      rw [lin_at ha hb hc]
      simp [unitT]⟩
  | k + 1, x, hx => by
    obtain ⟨y, hy, hx⟩ := List.mem_flatMap.mp hx
    obtain ⟨z, hz, rfl⟩ := List.mem_map.mp hx
    obtain ⟨i, j, l, e, ey⟩ := pow_keys ha hb hc h k y hy
    have hz := h z hz
    have key : ∀ (i' j' l' : Nat), (∀ (t : Nat) (ht : t < n) (hl : z.1.length = n), (i' : Int) * a[t]'(by omega) + (j' : Int) * b[t]'(by omega) + (l' : Int) * c[t]'(by omega) = (i : Int) * a[t]'(by omega) + (j : Int) * b[t]'(by omega) + (l : Int) * c[t]'(by omega) + z.1[t]'(by omega)) → addL y.1 z.1 = lin i' j' l' a b c := fun i' j' l' hh => by
      have hl : z.1.length = n := by rcases hz with e | e | e <;> rw [e] <;> assumption
      apply List.ext_getElem
      · rw [lin_len ha hb hc, addL_len (by rw [ey, lin_len ha hb hc, hl]), ey, lin_len ha hb hc]
      · intro t h1 h2
        have ht : t < n := by rw [lin_len ha hb hc] at h2; exact h2
        rw [lin_at ha hb hc, hh t ht hl]
        simp only [addL, List.getElem_zipWith, ey]
        rw [lin_at ha hb hc]
    rcases hz with e' | e' | e'
    · exact ⟨i + 1, j, l, by omega, key _ _ _ fun t ht hl => by simp only [e']; rw [Int.natCast_add, Int.add_mul]; simp; omega⟩
    · exact ⟨i, j + 1, l, by omega, key _ _ _ fun t ht hl => by simp only [e']; rw [Int.natCast_add, Int.add_mul]; simp; omega⟩
    · exact ⟨i, j, l + 1, by omega, key _ _ _ fun t ht hl => by simp only [e']; rw [Int.natCast_add, Int.add_mul]; simp; omega⟩
theorem abc_of (hl : Len n p) (h3 : p.length ≤ 3) : ∃ a b c : List Int, a.length = n ∧ b.length = n ∧ c.length = n ∧ ∀ x ∈ p, x.1 = a ∨ x.1 = b ∨ x.1 = c := by
  have h0 : (List.replicate n (0 : Int)).length = n := List.length_replicate
  match p, h3 with
  | [], _ => exact ⟨_, _, _, h0, h0, h0, fun _ h => (nomatch h)⟩
  | [x], _ => exact ⟨_, _, _, hl x (by simp), h0, h0, fun y hy => by rw [List.mem_singleton.mp hy]; exact .inl rfl⟩
  | [x, y], _ => exact ⟨_, _, _, hl x (by simp), hl y (by simp), h0, fun z hz => by
      simp at hz
      rcases hz with rfl | rfl
      · exact .inl rfl
      · exact .inr (.inl rfl)⟩
  | [x, y, z], _ => exact ⟨_, _, _, hl x (by simp), hl y (by simp), hl z (by simp), fun w hw => by
      simp at hw
      rcases hw with rfl | rfl | rfl
      · exact .inl rfl
      · exact .inr (.inl rfl)
      · exact .inr (.inr rfl)⟩
theorem pwR_len (h : Ts f n d M D L p) (h3 : p.length ≤ 3) {k : Nat} (hk : k ≤ 12) : (pwR f n o p k).length ≤ 169 := by
  obtain ⟨a, b, c, ha, hb, hc, habc⟩ := abc_of h.ln h3
  have := cn_count (o := o) (h.powT k).fq (ks := (List.range 13).flatMap fun i => (List.range 13).map fun j => lin i j (k - i - j) a b c) fun x hx => by
    obtain ⟨i, j, l, e, ex⟩ := pow_keys ha hb hc habc k x hx
    refine List.mem_flatMap.mpr ⟨i, List.mem_range.mpr (by omega), List.mem_map.mpr ⟨j, List.mem_range.mpr (by omega), ?_⟩⟩
    rw [ex, show k - i - j = l by omega]
  refine Nat.le_trans this ?_
  simp [List.length_flatMap]
  decide
end L2.PyD
/-! Inv: inverses in the fields of at most 31 elements; quotients of integers as numbers. Plain. -/
namespace L2.PyD
open PySem
theorem pow_emod (f a : Int) : ∀ k : Nat, (a % f) ^ k % f = a ^ k % f
  | 0 => by rw [Int.pow_zero, Int.pow_zero]
  | k + 1 => by
    rw [Int.pow_succ, Int.pow_succ, Int.mul_emod, pow_emod f a k, Int.emod_emod, ← Int.mul_emod]
theorem sq_pow (b : Int) : ∀ k : Nat, (b * b) ^ k = b ^ (2 * k)
  | 0 => by rw [Nat.mul_zero, Int.pow_zero, Int.pow_zero]
  | k + 1 => by
    rw [Int.pow_succ, sq_pow b k, show 2 * (k + 1) = 2 * k + 1 + 1 by omega, Int.pow_succ, Int.pow_succ, Int.mul_assoc]
theorem mul_pow_emod (f x y : Int) (k : Nat) : (x % f) * (y % f) ^ k % f = x * y ^ k % f := by
  rw [Int.mul_emod, pow_emod, Int.emod_emod, ← Int.mul_emod]
/-- the inverse of d -/
def invM (f d : Int) : Int := (d % f) ^ (f - 2).toNat % f
def isFp (f : Int) : Prop := f = 2 ∨ f = 3 ∨ f = 5 ∨ f = 7 ∨ f = 11 ∨ f = 13 ∨ f = 17 ∨ f = 19 ∨ f = 23 ∨ f = 29 ∨ f = 31
theorem fermat : ∀ p ∈ [2, 3, 5, 7, 11, 13, 17, 19, 23, 29, 31], ∀ r < p, 0 < r → r * (r ^ (p - 2) % p) % p = 1 := by decide +kernel
theorem isFp.pos {f : Int} (h : isFp f) : 2 ≤ f ∧ f ≤ 31 := by unfold isFp at h; omega
theorem inv_unit {f d : Int} (hf : isFp f) (hd : d % f ≠ 0) : ∃ a, d * invM f d - 1 = f * a := by
  obtain ⟨f2, f31⟩ := hf.pos
  obtain ⟨p, rfl⟩ := Int.eq_ofNat_of_zero_le (show 0 ≤ f by omega)
  have h0 := Int.emod_nonneg d (show (p : Int) ≠ 0 by omega)
  have h1 := Int.emod_lt_of_pos d (show (0 : Int) < (p : Int) by omega)
  obtain ⟨r, hr⟩ := Int.eq_ofNat_of_zero_le h0
  have hp : p ∈ [2, 3, 5, 7, 11, 13, 17, 19, 23, 29, 31] := by
    unfold isFp at hf
    simp
    omega
  have hF := fermat p hp r (by omega) (by omega)
  have e1 : invM p d = ((r ^ (p - 2) % p : Nat) : Int) := by
    unfold invM
    rw [hr, show ((p : Int) - 2).toNat = p - 2 by omega, Int.natCast_emod, Int.natCast_pow]
  have e2 : d * invM p d % p = 1 := by
    rw [Int.mul_emod, hr, e1, ← Int.natCast_emod, Nat.mod_mod, ← Int.natCast_mul, ← Int.natCast_emod, hF]
    rfl
  refine ⟨d * invM p d / p, ?_⟩
  have := Int.mul_ediv_add_emod (d * invM p d) p
  omega
theorem invM_range {f d : Int} (h : 0 < f) : 0 ≤ invM f d ∧ invM f d < f := ⟨Int.emod_nonneg _ (by omega), Int.emod_lt_of_pos _ h⟩
/-- d may stand below -/
def dOk (f d : Int) : Prop := d ≠ 0 ∧ (f > 0 → d % f ≠ 0)
/-- n / d -/
def qv (f n d : Int) : Rat := if f > 0 then ((n * invM f d % f : Int) : Rat) else (n : Rat) / (d : Rat)
theorem qv_pos {f n d : Int} (h : f > 0) : qv f n d = ((n * invM f d % f : Int) : Rat) := if_pos h
theorem qv_zero {n d : Int} : qv 0 n d = (n : Rat) / (d : Rat) := if_neg (by decide)
theorem cast_ne {d : Int} (h : d ≠ 0) : (d : Rat) ≠ 0 := fun z => h (Rat.intCast_inj.mp (show (d : Rat) = ((0 : Int) : Rat) from z))
theorem qv_mul {n d : Int} (h : d ≠ 0) : (n : Rat) = qv 0 n d * (d : Rat) := by
  rw [qv_zero, Rat.div_mul_cancel (cast_ne h)]
theorem emod_eq_of {f x y a : Int} (h : x - y = f * a) : x % f = y % f := by
  rw [show x = y + f * a by omega, Int.add_mul_emod_self_left]
theorem emod_sub {f x : Int} : ∃ a, x % f = x + f * a := ⟨-(x / f), by have := Int.mul_ediv_add_emod x f; rw [Int.mul_neg]; omega⟩
/-- what fits is the quotient -/
theorem fits_iff {f d : Int} (hf : isFp f) (hd : d % f ≠ 0) (n i : Int) : (i * d - n) % f = 0 ↔ (i - n * invM f d) % f = 0 := by
  obtain ⟨a, ha⟩ := inv_unit hf hd
  generalize invM f d = I at *
  constructor
  · intro h
    obtain ⟨u, hu⟩ := Int.dvd_of_emod_eq_zero h
    refine Int.emod_eq_zero_of_dvd ⟨I * u - i * a, ?_⟩
    grind
  · intro h
    obtain ⟨u, hu⟩ := Int.dvd_of_emod_eq_zero h
    refine Int.emod_eq_zero_of_dvd ⟨d * u + n * a, ?_⟩
    grind
theorem dOk.mul {f d e : Int} (hf : f = 0 ∨ isFp f) (h : dOk f d) (h' : dOk f e) : dOk f (d * e) := by
  refine ⟨Int.mul_ne_zero h.1 h'.1, fun hp z => ?_⟩
  rcases hf with rfl | hf
  · exact absurd hp (by decide)
  obtain ⟨a, ha⟩ := inv_unit hf (h.2 hp)
  refine h'.2 hp ?_
  obtain ⟨u, hu⟩ := Int.dvd_of_emod_eq_zero z
  refine Int.emod_eq_zero_of_dvd ⟨invM f d * u - a * e, ?_⟩
  grind
theorem qv_add {f n d n' d' : Int} (hf : f = 0 ∨ isFp f) (h : dOk f d) (h' : dOk f d') : rd f (qv f n d + qv f n' d') = qv f (n * d' + n' * d) (d * d') := by
  have hm := dOk.mul hf h h'
  rcases hf with rfl | hf
  · have h1 := cast_ne h.1
    have h2 := cast_ne h'.1
    rw [rd_zero, qv_zero, qv_zero, qv_zero, Rat.intCast_add, Rat.intCast_mul, Rat.intCast_mul, Rat.intCast_mul]
    grind
  · have hp : f > 0 := by have := hf.pos; omega
    rw [qv_pos hp, qv_pos hp, qv_pos hp, ← Rat.intCast_add, rd_int (by omega)]
    obtain ⟨a, ha⟩ := inv_unit hf (h.2 hp)
    obtain ⟨b, hb⟩ := inv_unit hf (h'.2 hp)
    obtain ⟨c, hc⟩ := inv_unit hf (hm.2 hp)
    obtain ⟨u, hu⟩ := emod_sub (f := f) (x := n * invM f d)
    obtain ⟨v, hv⟩ := emod_sub (f := f) (x := n' * invM f d')
    rw [hu, hv]
    generalize invM f d = I at *
    generalize invM f d' = I' at *
    generalize invM f (d * d') = J at *
    congr 1
    refine emod_eq_of (a := u + v + n * (d' * J * a - I * c) + n' * (d * J * b - I' * c)) ?_
    grind
theorem qv_prod {f n d n' d' : Int} (hf : f = 0 ∨ isFp f) (h : dOk f d) (h' : dOk f d') : rd f (qv f n d * qv f n' d') = qv f (n * n') (d * d') := by
  have hm := dOk.mul hf h h'
  rcases hf with rfl | hf
  · have h1 := cast_ne h.1
    have h2 := cast_ne h'.1
    rw [rd_zero, qv_zero, qv_zero, qv_zero, Rat.intCast_mul, Rat.intCast_mul]
    grind
  · have hp : f > 0 := by have := hf.pos; omega
    rw [qv_pos hp, qv_pos hp, qv_pos hp, ← Rat.intCast_mul, rd_int (by omega)]
    obtain ⟨a, ha⟩ := inv_unit hf (h.2 hp)
    obtain ⟨b, hb⟩ := inv_unit hf (h'.2 hp)
    obtain ⟨c, hc⟩ := inv_unit hf (hm.2 hp)
    obtain ⟨u, hu⟩ := emod_sub (f := f) (x := n * invM f d)
    obtain ⟨v, hv⟩ := emod_sub (f := f) (x := n' * invM f d')
    rw [hu, hv]
    generalize invM f d = I at *
    generalize invM f d' = I' at *
    generalize invM f (d * d') = J at *
    congr 1
    refine emod_eq_of (a := n * I * v + u * n' * I' + f * u * v + n * n' * (J * (a * d' * I' + b) - I * I' * c)) ?_
    grind
/-- a quotient that is not zero, and its inverse -/
theorem qv_ne {f n d : Int} (hf : f = 0 ∨ isFp f) (h : dOk f d) (hz : qv f n d ≠ 0) : dOk f n := by
  rcases hf with rfl | hf
  · refine ⟨fun z => hz ?_, fun z => absurd z (by decide)⟩
    rw [z, qv_zero]
    show (0 : Rat) / _ = 0
    grind
  · have hp : f > 0 := by have := hf.pos; omega
    have key : n % f ≠ 0 := fun z => hz (by
      rw [qv_pos hp]
      obtain ⟨u, hu⟩ := Int.dvd_of_emod_eq_zero z
      rw [hu, Int.mul_assoc, Int.mul_emod_right]
      rfl)
    exact ⟨fun z => key (by rw [z]; exact Int.zero_emod _), fun _ => key⟩
theorem inv_inv {f n d z : Int} (hf : isFp f) (hn : n % f ≠ 0) (hd : d % f ≠ 0) (hz : z = n * invM f d % f) : invM f z = d * invM f n % f := by
  have hp : f > 0 := by have := hf.pos; omega
  obtain ⟨a, ha⟩ := inv_unit hf hn
  obtain ⟨b, hb⟩ := inv_unit hf hd
  obtain ⟨u, hu⟩ := emod_sub (f := f) (x := n * invM f d)
  obtain ⟨v, hv⟩ := emod_sub (f := f) (x := d * invM f n)
  have hzf : z % f ≠ 0 := fun zz => by
    obtain ⟨w, hw⟩ := Int.dvd_of_emod_eq_zero zz
    refine hn (Int.emod_eq_zero_of_dvd ⟨d * w - d * u - n * b, ?_⟩)
    grind
  obtain ⟨c, hc⟩ := inv_unit hf hzf
  obtain ⟨r1, r2⟩ := invM_range (d := z) hp
  have e : invM f z % f = d * invM f n % f := by
    rw [hz, hu] at hc
    rw [hz, hu] at *
    generalize invM f n = N at *
    generalize invM f d = I at *
    generalize invM f (n * I + f * u) = Z at *
    refine emod_eq_of (a := d * N * c - Z * (d * N * u + a * (1 + f * b) + b)) ?_
    grind
  rwa [Int.emod_eq_of_lt r1 r2] at e
end L2.PyD
namespace Lw_k00
open PySem PySem.Spec PyProof.Rows L2 L2.PyD
def topS (i : Nat) : Stmt := PySem.Challenge.pw_idealcore_k00_numbers.main.body.getD i (.Pass ⟨0, 0, 0, 0⟩)
/-- is_int(value): 0:value -/
def b_is_int : S :=
  .seq (.ret (.and (.blt false .isi (.cons (.var 0) (.cons (.tyn "int") .nil))) (.not (.blt false .isi (.cons (.var 0) (.cons (.tyn "bool") .nil)))))) .skip
def f_is_int : Fd := ⟨"is_int", ["value"], ["value"], b_is_int⟩
/-- is_in(value, least, most): 0:value 1:least 2:most -/
def b_is_in : S :=
  .seq (.ret (.and (.call 0 (.cons (.var 0) .nil)) (.cmp2 .LtE .LtE (.var 1) (.var 0) (.var 2)))) .skip
def f_is_in : Fd := ⟨"is_in", ["value", "least", "most"], ["value", "least", "most"], b_is_in⟩
/-- is_field(value): 0:value -/
def b_is_field : S :=
  .seq (.ret (.and (.call 0 (.cons (.var 0) .nil)) (.or (.cmp .Eq (.var 0) (.con (.int 0))) (.cmp .In (.var 0) (.glb 0))))) .skip
def f_is_field : Fd := ⟨"is_field", ["value"], ["value"], b_is_field⟩
/-- need_field(value): 0:value -/
def b_need_field : S :=
  .seq (.ifs (.not (.call 2 (.cons (.var 0) .nil))) (.seq (.rais "BadField") .skip) (.skip)) .skip
def f_need_field : Fd := ⟨"need_field", ["value"], ["value"], b_need_field⟩
/-- is_number(field, value): 0:field 1:value -/
def b_is_number : S :=
  .seq (.ifs (.cmp .Gt (.var 0) (.con (.int 0))) (.seq (.ret (.call 1 (.cons (.var 1) (.cons (.con (.int 0)) (.cons (.bin false .Sub (.var 0) (.con (.int 1))) .nil))))) .skip) (.skip))
  (.seq (.ifs (.or (.not (.blt false .isi (.cons (.var 1) (.cons (.tyn "tuple") .nil)))) (.or (.cmp .NotEq (.blt false .len (.cons (.var 1) .nil)) (.con (.int 2))) (.or (.not (.call 0 (.cons (.ix (.var 1) (.con (.int 0))) .nil))) (.not (.call 0 (.cons (.ix (.var 1) (.con (.int 1))) .nil)))))) (.seq (.ret (.con (.bl false))) .skip) (.skip))
  (.seq (.ret (.and (.cmp2 .Lt .Lt (.con (.int 0)) (.ix (.var 1) (.con (.int 1))) (.glb 1)) (.and (.cmp2 .Lt .Lt (.neg (.glb 1)) (.ix (.var 1) (.con (.int 0))) (.glb 1)) (.cmp .Eq (.blt false .gcd (.cons (.ix (.var 1) (.con (.int 0))) (.cons (.ix (.var 1) (.con (.int 1))) .nil))) (.con (.int 1))))))
  .skip))
def f_is_number : Fd := ⟨"is_number", ["field", "value"], ["field", "value"], b_is_number⟩
/-- need_number(field, value): 0:field 1:value -/
def b_need_number : S :=
  .seq (.ifs (.not (.call 4 (.cons (.var 0) (.cons (.var 1) .nil)))) (.seq (.rais "BadNumber") .skip) (.skip)) .skip
def f_need_number : Fd := ⟨"need_number", ["field", "value"], ["field", "value"], b_need_number⟩
/-- num_of(field, n, d): 0:field 1:n 2:d 3:shared -/
def b_num_of : S :=
  .seq (.ifs (.cmp .Gt (.var 0) (.con (.int 0))) (.seq (.ret (.bin false .Mod (.bin false .Mult (.var 1) (.call 7 (.cons (.var 2) (.cons (.var 0) .nil)))) (.var 0))) .skip) (.skip))
  (.seq (.asg (.nm 3) (.ite (.cmp .Gt (.var 2) (.con (.int 0))) (.blt false .gcd (.cons (.var 1) (.cons (.var 2) .nil))) (.neg (.blt false .gcd (.cons (.var 1) (.cons (.var 2) .nil))))))
  (.seq (.ret (.tup (.cons (.bin false .FloorDiv (.var 1) (.var 3)) (.cons (.bin false .FloorDiv (.var 2) (.var 3)) .nil)))) .skip))
def f_num_of : Fd := ⟨"num_of", ["field", "n", "d", "shared"], ["field", "n", "d"], b_num_of⟩
def t_inverse_mod_0 : E := .cmp .Gt (.var 4) (.con (.int 0))
def w_inverse_mod_1 : S := .seq (.ifs (.cmp .Eq (.bin false .Mod (.var 4) (.con (.int 2))) (.con (.int 1))) (.seq (.asg (.nm 2) (.bin false .Mod (.bin false .Mult (.var 2) (.var 3)) (.var 1))) .skip) (.skip))
  (.seq (.asg (.nm 3) (.bin false .Mod (.bin false .Mult (.var 3) (.var 3)) (.var 1)))
  (.seq (.asg (.nm 4) (.bin false .FloorDiv (.var 4) (.con (.int 2)))) .skip))
/-- inverse_mod(n, prime): 0:n 1:prime 2:found 3:factor 4:exponent -/
def b_inverse_mod : S :=
  .seq (.par3 2 3 4 (.cons (.con (.int 1)) (.cons (.bin false .Mod (.var 0) (.var 1)) (.cons (.bin false .Sub (.var 1) (.con (.int 2))) .nil))))
  (.seq (.whl t_inverse_mod_0 w_inverse_mod_1) (.seq (.ret (.bin false .Mod (.var 2) (.var 1))) .skip))
def f_inverse_mod : Fd := ⟨"inverse_mod", ["n", "prime", "found", "factor", "exponent"], ["n", "prime"], b_inverse_mod⟩
/-- num_is_zero(field, a): 0:field 1:a -/
def b_num_is_zero : S :=
  .seq (.ret (.ite (.cmp .Gt (.var 0) (.con (.int 0))) (.cmp .Eq (.var 1) (.con (.int 0))) (.cmp .Eq (.ix (.var 1) (.con (.int 0))) (.con (.int 0))))) .skip
def f_num_is_zero : Fd := ⟨"num_is_zero", ["field", "a"], ["field", "a"], b_num_is_zero⟩
/-- num_add(field, a, b): 0:field 1:a 2:b -/
def b_num_add : S :=
  .seq (.ifs (.cmp .Gt (.var 0) (.con (.int 0))) (.seq (.ret (.bin false .Mod (.bin false .Add (.var 1) (.var 2)) (.var 0))) .skip) (.skip))
  (.seq (.ret (.call 6 (.cons (.con (.int 0)) (.cons (.bin false .Add (.bin false .Mult (.ix (.var 1) (.con (.int 0))) (.ix (.var 2) (.con (.int 1)))) (.bin false .Mult (.ix (.var 2) (.con (.int 0))) (.ix (.var 1) (.con (.int 1))))) (.cons (.bin false .Mult (.ix (.var 1) (.con (.int 1))) (.ix (.var 2) (.con (.int 1)))) .nil)))))
  .skip)
def f_num_add : Fd := ⟨"num_add", ["field", "a", "b"], ["field", "a", "b"], b_num_add⟩
/-- num_mul(field, a, b): 0:field 1:a 2:b -/
def b_num_mul : S :=
  .seq (.ifs (.cmp .Gt (.var 0) (.con (.int 0))) (.seq (.ret (.bin false .Mod (.bin false .Mult (.var 1) (.var 2)) (.var 0))) .skip) (.skip))
  (.seq (.ret (.call 6 (.cons (.con (.int 0)) (.cons (.bin false .Mult (.ix (.var 1) (.con (.int 0))) (.ix (.var 2) (.con (.int 0)))) (.cons (.bin false .Mult (.ix (.var 1) (.con (.int 1))) (.ix (.var 2) (.con (.int 1)))) .nil)))))
  .skip)
def f_num_mul : Fd := ⟨"num_mul", ["field", "a", "b"], ["field", "a", "b"], b_num_mul⟩
/-- num_inv(field, a): 0:field 1:a -/
def b_num_inv : S :=
  .seq (.ret (.ite (.cmp .Gt (.var 0) (.con (.int 0))) (.call 7 (.cons (.var 1) (.cons (.var 0) .nil))) (.call 6 (.cons (.con (.int 0)) (.cons (.ix (.var 1) (.con (.int 1))) (.cons (.ix (.var 1) (.con (.int 0))) .nil))))))
  .skip
def f_num_inv : Fd := ⟨"num_inv", ["field", "a"], ["field", "a"], b_num_inv⟩
/-- number(field, n, d): 0:field 1:n 2:d -/
def b_number : S :=
  .seq (.expr (.call 3 (.cons (.var 0) .nil)))
  (.seq (.ifs (.or (.not (.call 0 (.cons (.var 1) .nil))) (.not (.call 0 (.cons (.var 2) .nil)))) (.seq (.rais "BadInteger") .skip) (.skip))
  (.seq (.ifs (.or (.cmp .Eq (.var 2) (.con (.int 0))) (.and (.cmp .Gt (.var 0) (.con (.int 0))) (.cmp .Eq (.bin false .Mod (.var 2) (.var 0)) (.con (.int 0))))) (.seq (.rais "ZeroDivisor") .skip) (.skip))
  (.seq (.ret (.call 6 (.cons (.var 0) (.cons (.var 1) (.cons (.var 2) .nil))))) .skip)))
def f_number : Fd := ⟨"number", ["field", "n", "d"], ["field", "n", "d"], b_number⟩
/-- number_sum(field, a, b): 0:field 1:a 2:b -/
def b_number_sum : S :=
  .seq (.expr (.call 3 (.cons (.var 0) .nil)))
  (.seq (.expr (.call 5 (.cons (.var 0) (.cons (.var 1) .nil))))
  (.seq (.expr (.call 5 (.cons (.var 0) (.cons (.var 2) .nil)))) (.seq (.ret (.call 9 (.cons (.var 0) (.cons (.var 1) (.cons (.var 2) .nil))))) .skip)))
def f_number_sum : Fd := ⟨"number_sum", ["field", "a", "b"], ["field", "a", "b"], b_number_sum⟩
/-- number_product(field, a, b): 0:field 1:a 2:b -/
def b_number_product : S :=
  .seq (.expr (.call 3 (.cons (.var 0) .nil)))
  (.seq (.expr (.call 5 (.cons (.var 0) (.cons (.var 1) .nil))))
  (.seq (.expr (.call 5 (.cons (.var 0) (.cons (.var 2) .nil)))) (.seq (.ret (.call 10 (.cons (.var 0) (.cons (.var 1) (.cons (.var 2) .nil))))) .skip)))
def f_number_product : Fd := ⟨"number_product", ["field", "a", "b"], ["field", "a", "b"], b_number_product⟩
/-- number_inverse(field, a): 0:field 1:a -/
def b_number_inverse : S :=
  .seq (.expr (.call 3 (.cons (.var 0) .nil)))
  (.seq (.expr (.call 5 (.cons (.var 0) (.cons (.var 1) .nil))))
  (.seq (.ifs (.call 8 (.cons (.var 0) (.cons (.var 1) .nil))) (.seq (.rais "ZeroDivisor") .skip) (.skip))
  (.seq (.ret (.call 11 (.cons (.var 0) (.cons (.var 1) .nil)))) .skip)))
def f_number_inverse : Fd := ⟨"number_inverse", ["field", "a"], ["field", "a"], b_number_inverse⟩
/-- _law_taken(row, many): 0:row 1:many 2:cell 3:found -/
def b_law_taken : S :=
  .seq (.ifs (.cmp .Gt (.ix (.var 0) (.con (.int 3))) (.con (.int 0))) (.seq (.asg (.nm 3) (.bin false .Mod (.blt false .int (.cons (.ix (.var 0) (.con (.int 3))) .nil)) (.var 1)))
  (.seq (.setix (.var 0) (.con (.int 3)) (.bin false .FloorDiv (.ix (.var 0) (.con (.int 3))) (.var 1))) (.seq (.ret (.var 3)) .skip))) (.skip))
  (.seq (.setix (.var 0) (.con (.int 1)) (.bin false .Add (.ix (.var 0) (.con (.int 1))) (.con (.int 1))))
  (.seq (.ifs (.cmp .Gt (.ix (.var 0) (.con (.int 1))) (.blt false .len (.cons (.ix (.var 0) (.con (.int 0))) .nil))) (.seq (.setix (.var 0) (.con (.int 2)) (.bin false .Mod (.blt false .int (.cons (.bin false .Add (.bin false .Mult (.ix (.var 0) (.con (.int 2))) (.con (.int 48271))) (.con (.int 11))) .nil)) (.con (.int 2147483647))))
  (.seq (.ret (.bin false .Mod (.blt false .int (.cons (.bin false .FloorDiv (.ix (.var 0) (.con (.int 2))) (.con (.int 7))) .nil)) (.var 1))) .skip)) (.skip))
  (.seq (.asg (.nm 2) (.ix (.ix (.var 0) (.con (.int 0))) (.bin false .Sub (.ix (.var 0) (.con (.int 1))) (.con (.int 1)))))
  (.seq (.setix (.var 0) (.con (.int 2)) (.bin false .Mod (.blt false .int (.cons (.bin false .Add (.bin false .Add (.bin false .Mult (.ix (.var 0) (.con (.int 2))) (.con (.int 48271))) (.var 2)) (.con (.int 11))) .nil)) (.con (.int 2147483647))))
  (.seq (.ifs (.cmp .GtE (.var 2) (.bin false .Pow (.con (.int 10)) (.con (.int 18)))) (.seq (.setix (.var 0) (.con (.int 3)) (.bin false .FloorDiv (.var 2) (.var 1))) .skip) (.skip))
  (.seq (.ret (.bin false .Mod (.blt false .int (.cons (.var 2) .nil)) (.var 1))) .skip))))))
def f_law_taken : Fd := ⟨"_law_taken", ["row", "many", "cell", "found"], ["row", "many"], b_law_taken⟩
/-- _law_pick(row, things): 0:row 1:things -/
def b_law_pick : S :=
  .seq (.ret (.ix (.var 1) (.call 16 (.cons (.var 0) (.cons (.blt false .len (.cons (.var 1) .nil)) .nil))))) .skip
def f_law_pick : Fd := ⟨"_law_pick", ["row", "things"], ["row", "things"], b_law_pick⟩
/-- _law_integer(row): 0:row 1:found -/
def b_law_integer : S :=
  .seq (.asg (.nm 1) (.bin false .Sub (.call 16 (.cons (.var 0) (.cons (.con (.int 41)) .nil))) (.con (.int 20))))
  (.seq (.ifs (.cmp .Eq (.call 16 (.cons (.var 0) (.cons (.con (.int 4)) .nil))) (.con (.int 0))) (.seq (.asg (.nm 1) (.bin false .Add (.bin false .Mult (.bin false .Add (.bin false .Mult (.var 1) (.bin false .Pow (.con (.int 10)) (.con (.int 9)))) (.call 16 (.cons (.var 0) (.cons (.bin false .Pow (.con (.int 10)) (.con (.int 9))) .nil)))) (.bin false .Pow (.con (.int 10)) (.con (.int 9)))) (.call 16 (.cons (.var 0) (.cons (.bin false .Pow (.con (.int 10)) (.con (.int 9))) .nil)))))
  .skip) (.skip))
  (.seq (.ret (.var 1)) .skip))
def f_law_integer : Fd := ⟨"_law_integer", ["row", "found"], ["row"], b_law_integer⟩
/-- _law_zero(field): 0:field -/
def b_law_zero : S :=
  .seq (.ret (.ite (.cmp .Gt (.var 0) (.con (.int 0))) (.con (.int 0)) (.tup (.cons (.con (.int 0)) (.cons (.con (.int 1)) .nil))))) .skip
def f_law_zero : Fd := ⟨"_law_zero", ["field"], ["field"], b_law_zero⟩
def l_law_refused_0 : E := .call 12 (.cons (.var 1) (.cons (.var 2) (.cons (.var 3) .nil)))
def l_law_refused_1 : E := .call 15 (.cons (.var 1) (.cons (.call 19 (.cons (.var 1) .nil)) .nil))
/-- _law_refused(kind, field, n, d): 0:kind 1:field 2:n 3:d 4:works 5:found -/
def b_law_refused : S :=
  .refu 4 0 5 "ZeroDivisor" l_law_refused_0 l_law_refused_1 (.seq (.ret (.var 5)) .skip)
def f_law_refused : Fd := ⟨"_law_refused", ["kind", "field", "n", "d", "works", "found"], ["kind", "field", "n", "d"], b_law_refused⟩
def c_law_alike_0 : E := .not (.call 21 (.cons (.ix (.var 0) (.var 2)) (.cons (.ix (.var 1) (.var 2)) .nil)))
def e_law_alike_1 : E := .var 2
/-- _law_alike(found, due): 0:found 1:due 2:k -/
def b_law_alike : S :=
  .seq (.ifs (.blt false .isi (.cons (.var 1) (.cons (.tup (.cons (.tyn "tuple") (.cons (.tyn "list") .nil))) .nil))) (.seq (.ifs (.or (.not (.blt false .isi (.cons (.var 0) (.cons (.tup (.cons (.tyn "tuple") (.cons (.tyn "list") .nil))) .nil)))) (.cmp .NotEq (.blt false .isi (.cons (.var 0) (.cons (.tyn "list") .nil))) (.blt false .isi (.cons (.var 1) (.cons (.tyn "list") .nil))))) (.seq (.ret (.con (.bl false))) .skip) (.skip))
  (.seq (.ifs (.cmp .NotEq (.blt false .len (.cons (.var 0) .nil)) (.blt false .len (.cons (.var 1) .nil))) (.seq (.ret (.con (.bl false))) .skip) (.skip))
  (.seq (.ret (.cmp .Eq (.compIf false (.rng (.cons (.blt false .len (.cons (.var 1) .nil)) .nil)) [("k", 2)] (.nm 2) c_law_alike_0 e_law_alike_1) (.lst false (.nil))))
  .skip))) (.skip))
  (.seq (.ifs (.or (.cmp .Is (.var 1) (.con .non)) (.blt false .isi (.cons (.var 1) (.cons (.tyn "str") .nil)))) (.seq (.ret (.and (.cmp .Eq (.var 0) (.var 1)) (.cmp .Eq (.blt false .isi (.cons (.var 0) (.cons (.tyn "str") .nil))) (.blt false .isi (.cons (.var 1) (.cons (.tyn "str") .nil))))))
  .skip) (.skip))
  (.seq (.ret (.and (.blt false .isi (.cons (.var 0) (.cons (.tyn "int") .nil))) (.and (.cmp .Eq (.blt false .isi (.cons (.var 0) (.cons (.tyn "bool") .nil))) (.blt false .isi (.cons (.var 1) (.cons (.tyn "bool") .nil)))) (.cmp .Eq (.var 0) (.var 1)))))
  .skip))
def f_law_alike : Fd := ⟨"_law_alike", ["found", "due", "k"], ["found", "due"], b_law_alike⟩
def w_law_gcd_0 : S := .seq (.ifs (.cmp .Eq (.var 1) (.con (.int 0))) (.seq (.ret (.var 0)) .skip) (.skip))
  (.seq (.par 0 1 (.cons (.var 1) (.cons (.bin false .Mod (.blt false .int (.cons (.var 0) .nil)) (.var 1)) .nil))) .skip)
/-- _law_gcd(a, b): 0:a 1:b 2:turn -/
def b_law_gcd : S :=
  .seq (.par 0 1 (.cons (.blt false .abs (.cons (.var 0) .nil)) (.cons (.blt false .abs (.cons (.var 1) .nil)) .nil)))
  (.seq (.fors (.nm 2) (.rng (.cons (.con (.int 20000)) .nil)) w_law_gcd_0) (.seq (.ret (.var 0)) .skip))
def f_law_gcd : Fd := ⟨"_law_gcd", ["a", "b", "turn"], ["a", "b"], b_law_gcd⟩
def c_law_num_0 : E := .cmp .Eq (.bin false .Mod (.blt false .int (.cons (.bin false .Sub (.bin false .Mult (.var 4) (.var 2)) (.var 1)) .nil)) (.var 0)) (.con (.int 0))
def e_law_num_1 : E := .var 4
/-- _law_num(field, n, d): 0:field 1:n 2:d 3:shared 4:k -/
def b_law_num : S :=
  .seq (.ifs (.cmp .Gt (.var 0) (.con (.int 0))) (.seq (.ret (.ix (.compIf false (.rng (.cons (.var 0) .nil)) [("k", 4)] (.nm 4) c_law_num_0 e_law_num_1) (.con (.int 0)))) .skip) (.skip))
  (.seq (.asg (.nm 3) (.ite (.cmp .Gt (.var 2) (.con (.int 0))) (.call 22 (.cons (.var 1) (.cons (.var 2) .nil))) (.bin false .Sub (.con (.int 0)) (.call 22 (.cons (.var 1) (.cons (.var 2) .nil))))))
  (.seq (.ret (.tup (.cons (.bin false .FloorDiv (.var 1) (.var 3)) (.cons (.bin false .FloorDiv (.var 2) (.var 3)) .nil)))) .skip))
def f_law_num : Fd := ⟨"_law_num", ["field", "n", "d", "shared", "k"], ["field", "n", "d"], b_law_num⟩
def r_law_0 : S := .seq (.asg (.nm 4) (.bin false .Add (.bin false .Mult (.bin false .Pow (.bin false .Pow (.con (.int 10)) (.con (.int 50))) (.con (.int 3))) (.bin false .Pow (.con (.int 10)) (.con (.int 49)))) (.bin false .Mult (.con (.int 7)) (.call 16 (.cons (.var 1) (.cons (.con (.int 100)) .nil))))))
  (.seq (.ifs (.and (.cmp .Eq (.var 2) (.con (.int 0))) (.not (.call 21 (.cons (.call 15 (.cons (.con (.int 0)) (.cons (.tup (.cons (.con (.int 1)) (.cons (.var 4) .nil))) .nil))) (.cons (.tup (.cons (.var 4) (.cons (.con (.int 1)) .nil))) .nil))))) (.seq (.ret (.con (.bl false))) .skip) (.skip))
  (.seq (.ret (.and (.call 20 (.cons (.con (.int 1)) (.cons (.var 2) (.cons (.con (.int 1)) (.cons (.con (.int 1)) .nil))))) (.call 20 (.cons (.con (.int 0)) (.cons (.var 2) (.cons (.con (.int 1)) (.cons (.con (.int 0)) .nil)))))))
  .skip))
def r_law_1 : S := .seq (.ifs (.not (.call 21 (.cons (.call 14 (.cons (.var 2) (.cons (.var 9) (.cons (.var 10) .nil)))) (.cons (.call 23 (.cons (.var 2) (.cons (.bin false .Mult (.var 6) (.var 8)) (.cons (.bin false .Mult (.var 7) (.var 5)) .nil)))) .nil)))) (.seq (.ret (.con (.bl false))) .skip) (.skip))
  (.seq (.ifs (.and (.cmp .NotEq (.var 9) (.call 19 (.cons (.var 2) .nil))) (.not (.call 21 (.cons (.call 15 (.cons (.var 2) (.cons (.var 9) .nil))) (.cons (.call 23 (.cons (.var 2) (.cons (.var 7) (.cons (.var 6) .nil)))) .nil))))) (.seq (.ret (.con (.bl false))) .skip) (.skip))
  .skip)
def r_law_2 : S := .seq (.par 9 10 (.cons (.call 12 (.cons (.var 2) (.cons (.var 6) (.cons (.var 7) .nil)))) (.cons (.call 12 (.cons (.var 2) (.cons (.var 8) (.cons (.var 5) .nil)))) .nil)))
  (.seq (.ifs (.or (.not (.call 21 (.cons (.var 9) (.cons (.call 23 (.cons (.var 2) (.cons (.var 6) (.cons (.var 7) .nil)))) .nil)))) (.not (.call 21 (.cons (.var 10) (.cons (.call 23 (.cons (.var 2) (.cons (.var 8) (.cons (.var 5) .nil)))) .nil))))) (.seq (.ret (.con (.bl false))) .skip) (.skip))
  (.seq (.ifs (.not (.call 21 (.cons (.call 13 (.cons (.var 2) (.cons (.var 9) (.cons (.var 10) .nil)))) (.cons (.call 23 (.cons (.var 2) (.cons (.bin false .Add (.bin false .Mult (.var 6) (.var 5)) (.bin false .Mult (.var 8) (.var 7))) (.cons (.bin false .Mult (.var 7) (.var 5)) .nil)))) .nil)))) (.seq (.ret (.con (.bl false))) .skip) (.skip))
  r_law_1))
def w_law_3 : S := .seq (.asg (.tup [6, 7, 8, 5]) (.tup (.cons (.call 18 (.cons (.var 1) .nil)) (.cons (.call 18 (.cons (.var 1) .nil)) (.cons (.call 18 (.cons (.var 1) .nil)) (.cons (.call 18 (.cons (.var 1) .nil)) .nil))))))
  (.seq (.ifs (.or (.cmp .Eq (.var 7) (.con (.int 0))) (.and (.cmp .Gt (.var 2) (.con (.int 0))) (.cmp .Eq (.bin false .Mod (.blt false .int (.cons (.var 7) .nil)) (.var 2)) (.con (.int 0))))) (.seq (.ifs (.not (.call 20 (.cons (.con (.int 0)) (.cons (.var 2) (.cons (.var 6) (.cons (.var 7) .nil)))))) (.seq (.ret (.con (.bl false))) .skip) (.skip))
  (.seq (.asg (.nm 7) (.con (.int 1))) .skip)) (.skip))
  (.seq (.asg (.nm 5) (.ite (.or (.cmp .Eq (.var 5) (.con (.int 0))) (.and (.cmp .Gt (.var 2) (.con (.int 0))) (.cmp .Eq (.bin false .Mod (.blt false .int (.cons (.var 5) .nil)) (.var 2)) (.con (.int 0))))) (.con (.int 1)) (.var 5)))
  r_law_2))
/-- law(script): 0:script 1:row 2:field 3:turn 4:far 5:less 6:n 7:d 8:more 9:a 10:b -/
def b_law : S :=
  .seq (.asg (.nm 1) (.lst true (.cons (.var 0) (.cons (.con (.int 0)) (.cons (.con (.int 4100)) (.cons (.con (.int 0)) .nil))))))
  (.seq (.asg (.nm 2) (.call 17 (.cons (.var 1) (.cons (.lst false (.cons (.con (.int 0)) (.cons (.con (.int 0)) (.cons (.con (.int 2)) (.cons (.con (.int 3)) (.cons (.con (.int 5)) (.cons (.con (.int 7)) (.cons (.con (.int 11)) (.cons (.con (.int 13)) (.cons (.con (.int 17)) (.cons (.con (.int 19)) (.cons (.con (.int 23)) (.cons (.con (.int 29)) (.cons (.con (.int 31)) .nil)))))))))))))) .nil))))
  (.seq (.fors (.nm 3) (.rng (.cons (.con (.int 3)) .nil)) w_law_3) r_law_0))
def f_law : Fd := ⟨"law", ["script", "row", "field", "turn", "far", "less", "n", "d", "more", "a", "b"], ["script"], b_law⟩
def tbl : List Fd := [
  f_is_int,
  f_is_in,
  f_is_field,
  f_need_field,
  f_is_number,
  f_need_number,
  f_num_of,
  f_inverse_mod,
  f_num_is_zero,
  f_num_add,
  f_num_mul,
  f_num_inv,
  f_number,
  f_number_sum,
  f_number_product,
  f_number_inverse,
  f_law_taken,
  f_law_pick,
  f_law_integer,
  f_law_zero,
  f_law_refused,
  f_law_alike,
  f_law_gcd,
  f_law_num,
  f_law]
def sts : List Stmt := [topS 10, topS 11, topS 12, topS 13, topS 14, topS 15, topS 16, topS 17, topS 18, topS 19, topS 20, topS 21, topS 22, topS 23, topS 24, topS 25, topS 27, topS 28, topS 29, topS 30, topS 31, topS 32, topS 33, topS 34, topS 35]
def gn : Gn := ⟨[("PRIMES", (.tup [(.int 2), (.int 3), (.int 5), (.int 7), (.int 11), (.int 13), (.int 17), (.int 19), (.int 23), (.int 29), (.int 31)])), ("BOUND", (.int 100000000000000000000000000000000000000000000000000000000000000000000000000000000000000000000000000000000000000000000000000000000000000000000000000000000000000000000000000000000000000000000000000000000))], ["isinstance", "int", "bool", "tuple", "len", "str", "list", "range", "abs"], [("gcd", "math.gcd")], ["BadField", "BadNumber", "ZeroDivisor", "BadInteger"]⟩
abbrev i_is_int : Nat := 0
abbrev i_is_in : Nat := 1
abbrev i_is_field : Nat := 2
abbrev i_need_field : Nat := 3
abbrev i_is_number : Nat := 4
abbrev i_need_number : Nat := 5
abbrev i_num_of : Nat := 6
abbrev i_inverse_mod : Nat := 7
abbrev i_num_is_zero : Nat := 8
abbrev i_num_add : Nat := 9
abbrev i_num_mul : Nat := 10
abbrev i_num_inv : Nat := 11
abbrev i_number : Nat := 12
abbrev i_number_sum : Nat := 13
abbrev i_number_product : Nat := 14
abbrev i_number_inverse : Nat := 15
abbrev i_law_taken : Nat := 16
abbrev i_law_pick : Nat := 17
abbrev i_law_integer : Nat := 18
abbrev i_law_zero : Nat := 19
abbrev i_law_refused : Nat := 20
abbrev i_law_alike : Nat := 21
abbrev i_law_gcd : Nat := 22
abbrev i_law_num : Nat := 23
abbrev i_law : Nat := 24
@[simp] theorem G0 : gn.G 0 = (.tup [(.int 2), (.int 3), (.int 5), (.int 7), (.int 11), (.int 13), (.int 17), (.int 19), (.int 23), (.int 29), (.int 31)]) := rfl
@[simp] theorem G1 : gn.G 1 = (.int 100000000000000000000000000000000000000000000000000000000000000000000000000000000000000000000000000000000000000000000000000000000000000000000000000000000000000000000000000000000000000000000000000000000) := rfl
theorem c_is_int (k : Nat) (ds : List D) (st : Store) : callN gn.G tbl (k + 1) 0 ds st = out st (ex (prN gn.G tbl k) b_is_int (startE 1 ds) st) := call_eq (f := f_is_int) rfl ds st
theorem c_is_in (k : Nat) (ds : List D) (st : Store) : callN gn.G tbl (k + 1) 1 ds st = out st (ex (prN gn.G tbl k) b_is_in (startE 3 ds) st) := call_eq (f := f_is_in) rfl ds st
theorem c_is_field (k : Nat) (ds : List D) (st : Store) : callN gn.G tbl (k + 1) 2 ds st = out st (ex (prN gn.G tbl k) b_is_field (startE 1 ds) st) := call_eq (f := f_is_field) rfl ds st
theorem c_need_field (k : Nat) (ds : List D) (st : Store) : callN gn.G tbl (k + 1) 3 ds st = out st (ex (prN gn.G tbl k) b_need_field (startE 1 ds) st) := call_eq (f := f_need_field) rfl ds st
theorem c_is_number (k : Nat) (ds : List D) (st : Store) : callN gn.G tbl (k + 1) 4 ds st = out st (ex (prN gn.G tbl k) b_is_number (startE 2 ds) st) := call_eq (f := f_is_number) rfl ds st
theorem c_need_number (k : Nat) (ds : List D) (st : Store) : callN gn.G tbl (k + 1) 5 ds st = out st (ex (prN gn.G tbl k) b_need_number (startE 2 ds) st) := call_eq (f := f_need_number) rfl ds st
theorem c_num_of (k : Nat) (ds : List D) (st : Store) : callN gn.G tbl (k + 1) 6 ds st = out st (ex (prN gn.G tbl k) b_num_of (startE 4 ds) st) := call_eq (f := f_num_of) rfl ds st
theorem c_inverse_mod (k : Nat) (ds : List D) (st : Store) : callN gn.G tbl (k + 1) 7 ds st = out st (ex (prN gn.G tbl k) b_inverse_mod (startE 5 ds) st) := call_eq (f := f_inverse_mod) rfl ds st
theorem c_num_is_zero (k : Nat) (ds : List D) (st : Store) : callN gn.G tbl (k + 1) 8 ds st = out st (ex (prN gn.G tbl k) b_num_is_zero (startE 2 ds) st) := call_eq (f := f_num_is_zero) rfl ds st
theorem c_num_add (k : Nat) (ds : List D) (st : Store) : callN gn.G tbl (k + 1) 9 ds st = out st (ex (prN gn.G tbl k) b_num_add (startE 3 ds) st) := call_eq (f := f_num_add) rfl ds st
theorem c_num_mul (k : Nat) (ds : List D) (st : Store) : callN gn.G tbl (k + 1) 10 ds st = out st (ex (prN gn.G tbl k) b_num_mul (startE 3 ds) st) := call_eq (f := f_num_mul) rfl ds st
theorem c_num_inv (k : Nat) (ds : List D) (st : Store) : callN gn.G tbl (k + 1) 11 ds st = out st (ex (prN gn.G tbl k) b_num_inv (startE 2 ds) st) := call_eq (f := f_num_inv) rfl ds st
theorem c_number (k : Nat) (ds : List D) (st : Store) : callN gn.G tbl (k + 1) 12 ds st = out st (ex (prN gn.G tbl k) b_number (startE 3 ds) st) := call_eq (f := f_number) rfl ds st
theorem c_number_sum (k : Nat) (ds : List D) (st : Store) : callN gn.G tbl (k + 1) 13 ds st = out st (ex (prN gn.G tbl k) b_number_sum (startE 3 ds) st) := call_eq (f := f_number_sum) rfl ds st
theorem c_number_product (k : Nat) (ds : List D) (st : Store) : callN gn.G tbl (k + 1) 14 ds st = out st (ex (prN gn.G tbl k) b_number_product (startE 3 ds) st) := call_eq (f := f_number_product) rfl ds st
theorem c_number_inverse (k : Nat) (ds : List D) (st : Store) : callN gn.G tbl (k + 1) 15 ds st = out st (ex (prN gn.G tbl k) b_number_inverse (startE 2 ds) st) := call_eq (f := f_number_inverse) rfl ds st
theorem c_law_taken (k : Nat) (ds : List D) (st : Store) : callN gn.G tbl (k + 1) 16 ds st = out st (ex (prN gn.G tbl k) b_law_taken (startE 4 ds) st) := call_eq (f := f_law_taken) rfl ds st
theorem c_law_pick (k : Nat) (ds : List D) (st : Store) : callN gn.G tbl (k + 1) 17 ds st = out st (ex (prN gn.G tbl k) b_law_pick (startE 2 ds) st) := call_eq (f := f_law_pick) rfl ds st
theorem c_law_integer (k : Nat) (ds : List D) (st : Store) : callN gn.G tbl (k + 1) 18 ds st = out st (ex (prN gn.G tbl k) b_law_integer (startE 2 ds) st) := call_eq (f := f_law_integer) rfl ds st
theorem c_law_zero (k : Nat) (ds : List D) (st : Store) : callN gn.G tbl (k + 1) 19 ds st = out st (ex (prN gn.G tbl k) b_law_zero (startE 1 ds) st) := call_eq (f := f_law_zero) rfl ds st
theorem c_law_refused (k : Nat) (ds : List D) (st : Store) : callN gn.G tbl (k + 1) 20 ds st = out st (ex (prN gn.G tbl k) b_law_refused (startE 6 ds) st) := call_eq (f := f_law_refused) rfl ds st
theorem c_law_alike (k : Nat) (ds : List D) (st : Store) : callN gn.G tbl (k + 1) 21 ds st = out st (ex (prN gn.G tbl k) b_law_alike (startE 3 ds) st) := call_eq (f := f_law_alike) rfl ds st
theorem c_law_gcd (k : Nat) (ds : List D) (st : Store) : callN gn.G tbl (k + 1) 22 ds st = out st (ex (prN gn.G tbl k) b_law_gcd (startE 3 ds) st) := call_eq (f := f_law_gcd) rfl ds st
theorem c_law_num (k : Nat) (ds : List D) (st : Store) : callN gn.G tbl (k + 1) 23 ds st = out st (ex (prN gn.G tbl k) b_law_num (startE 5 ds) st) := call_eq (f := f_law_num) rfl ds st
theorem c_law (k : Nat) (ds : List D) (st : Store) : callN gn.G tbl (k + 1) 24 ds st = out st (ex (prN gn.G tbl k) b_law (startE 11 ds) st) := call_eq (f := f_law) rfl ds st
theorem tbl_ok : ((tbl.zip sts).all fun p => defB gn tbl p.1 p.2) = true := by decide +kernel
end Lw_k00
namespace Lw_k00
open PySem PySem.Spec PyProof.Rows L2 L2.PyD
theorem is_int_ok (k : Nat) (x : Int) (st : Store) : callN gn.G tbl (k + 1) i_is_int [.int x] st = .ok (.bl true) st := by
  rw [c_is_int]
  simp [b_is_int, startE]
theorem is_in_ok (k : Nat) (x a b : Int) (st : Store) (h1 : a ≤ x) (h2 : x ≤ b) : callN gn.G tbl (k + 2) i_is_in [.int x, .int a, .int b] st = .ok (.bl true) st := by
  rw [c_is_in]
  simp [b_is_in, startE, is_int_ok, h1, h2]
def isF (f : Int) : Prop := f = 0 ∨ f = 2 ∨ f = 3 ∨ f = 5 ∨ f = 7 ∨ f = 11 ∨ f = 13 ∨ f = 17 ∨ f = 19 ∨ f = 23 ∨ f = 29 ∨ f = 31
theorem is_field_ok (k : Nat) (f : Int) (st : Store) (h : isF f) : callN gn.G tbl (k + 2) i_is_field [.int f] st = .ok (.bl true) st := by
  rw [c_is_field]
  by_cases h0 : f = 0
  · subst h0
    simp [b_is_field, startE, is_int_ok]
  · have hin : cmpG' .In st (.int f) (gn.G 0) = some true := by
      rcases h with h | h | h | h | h | h | h | h | h | h | h | h
      · exact absurd h h0
      all_goals (subst h; rfl)
    rw [G0] at hin
    simp [b_is_field, startE, is_int_ok, h0, hin]
@[simp] theorem eq_nil {st : Store} : cmpG' .Eq st (.lst []) (.lst []) = some true := rfl
theorem alike_int (k : Nat) (x y : Int) (st : Store) : callN gn.G tbl (k + 1) i_law_alike [.int x, .int y] st = .ok (.bl (decide (x = y))) st := by
  rw [c_law_alike]
  simp [b_law_alike, startE]
theorem alike_seq (k : Nat) (ds : List D) (st : Store) (tp : Bool) (hl : ds.length ≤ 1000000) (h : ∀ d ∈ ds, ∀ s : Store, callN gn.G tbl k i_law_alike [d, d] (st ++ s) = .ok (.bl true) (st ++ s)) :
    callN gn.G tbl (k + 1) i_law_alike [if tp then .tup ds else .lst ds, if tp then .tup ds else .lst ds] st = .ok (.bl true) st := by
  rw [c_law_alike]
  have hc : ∀ v : D, (∀ (i : Nat) (x : D) (s : Store), ds[i]? = some x → gIx s v (.int (i : Nat)) = some (.val x)) → (∀ s : Store, Bi.g .len s [v] = some (.val (.int (ds.length : Nat)))) →
      (ev (prN gn.G tbl k) (.compIf false (.rng (.cons (.blt false .len (.cons (.var 1) .nil)) .nil)) [("k", 2)] (.nm 2) c_law_alike_0 e_law_alike_1)).v [some v, some v, none] st = .ok (.lst []) st := fun v hv hlen => by
    have := comp_gen (p := prN gn.G tbl k) (it := .rng (.cons (.blt false .len (.cons (.var 1) .nil)) .nil)) (own := [("k", 2)]) (t := .nm 2) (c := c_law_alike_0) (e := e_law_alike_1) (env := [some v, some v, none]) (st := st) (List.range ds.length) (fun i : Nat => .int ((i : Nat) : Int)) (fun _ => false) (fun _ => .non)
      (by simp [hlen, rngD_n hl]) (size_small (by simp; omega)) fun x hx s => ⟨_, rfl, by
        have hx := List.mem_range.mp hx
        have h1 := hv x _ (st ++ s) (List.getElem?_eq_getElem hx)
        have h2 := h ds[x] (List.getElem_mem hx) s
        simp [c_law_alike_0, wipeE, h1, h2], fun h => nomatch h⟩
    rw [show (List.range ds.length).filter (fun _ => false) = [] by simp] at this
    exact this
  cases tp with
  | true =>
    have hc := hc (.tup ds) (fun i x s e => ix_tupN e) (fun s => len_tup)
    simp [b_law_alike, startE, -v_compIf, hc]
  | false =>
    have hc := hc (.lst ds) (fun i x s e => ix_lstN e) (fun s => len_lst)
    simp [b_law_alike, startE, -v_compIf, hc]
theorem alike_ints (k : Nat) (l : List Int) (st : Store) (hl : l.length ≤ 1000) : callN gn.G tbl (k + 2) i_law_alike [.tup (l.map D.int), .tup (l.map D.int)] st = .ok (.bl true) st :=
  alike_seq (k + 1) (l.map D.int) st true (by simp; omega) fun d hd s => by
    obtain ⟨x, _, rfl⟩ := List.mem_map.mp hd
    rw [alike_int]
    simp
theorem tk (k : Nat) {ns : List Int} {r : Cell} {s : Store} {m : Int} (R : RowC ns r) (h0 : 0 < m) (h1 : m < 2 ^ 64) :
    ∃ (v : Int) (r' : Cell), callN gn.G tbl (k + 1) i_law_taken [.cell 0, .int m] (r :: s) = .ok (.int v) (r' :: s) ∧ RowC ns r' ∧ 0 ≤ v ∧ v < m :=
  taken_row (f := f_law_taken) rfl rfl rfl R h0 h1
theorem pick_ok (k : Nat) {ns : List Int} {r : Cell} {s : Store} {ds : List D} (R : RowC ns r) (h0 : 0 < ds.length) (h1 : ds.length ≤ 1000000) (hu : ∀ d ∈ ds, d.undr (r :: s).length = true) :
    ∃ (d : D) (r' : Cell), callN gn.G tbl (k + 2) i_law_pick [.cell 0, .lst ds] (r :: s) = .ok d (r' :: s) ∧ RowC ns r' ∧ d ∈ ds := by
  obtain ⟨v, r', h, R', g1, g2⟩ := tk k (s := s) R (m := (ds.length : Nat)) (by omega) (by omega)
  obtain ⟨i, rfl⟩ := Int.eq_ofNat_of_zero_le g1
  have hi : i < ds.length := by omega
  refine ⟨ds[i], r', ?_, R', List.getElem_mem hi⟩
  rw [c_law_pick]
  have hx : ∀ st, gIx st (.lst ds) (.int ((i : Nat) : Int)) = some (.val ds[i]) := fun st => ix_lstN (List.getElem?_eq_getElem hi)
  simp [b_law_pick, startE, h, hx]
  exact leave_row0 R' (hu _ (List.getElem_mem hi))
end Lw_k00
namespace Lw_k00
open PySem PySem.Spec PyProof.Rows L2 L2.PyD
/-! numbers: rationals (field 0) or residues -/
variable {k : Nat} {st : Store} {f : Int} {a b : Rat}
theorem isF_lt {f : Int} (h : isF f) : f = 0 ∨ (0 < f ∧ f ≤ 31) := by
  unfold isF at h
  omega
theorem gcd_le_right {n d : Int} (hd : 0 < d) : (0 : Int) < Int.gcd n d ∧ (Int.gcd n d : Int) ≤ d :=
  ⟨by exact_mod_cast Int.gcd_pos_of_ne_zero_right n (by omega), Int.le_of_dvd hd (Int.gcd_dvd_right n d)⟩
theorem fdiv_g {n d : Int} (hd : 0 < d) : n.fdiv (gcdI n d) = n / (Int.gcd n d : Int) ∧ d.fdiv (gcdI n d) = d / (Int.gcd n d : Int) := by
  have e : gcdI n d = (Int.gcd n d : Int) := rfl
  rw [e]
  exact ⟨Int.fdiv_eq_ediv_of_nonneg _ (by omega), Int.fdiv_eq_ediv_of_nonneg _ (by omega)⟩
theorem num_of_ok {n d : Int} {q : Rat} (hd : 0 < d) (hs : d.natAbs < 2 ^ 3000) (hq : (n : Rat) = q * ((d : Int) : Rat)) : callN gn.G tbl (k + 1) i_num_of [.int 0, .int n, .int d] st = .ok (nR 0 q).d st := by
  obtain ⟨g1, g2⟩ := gcd_le_right (n := n) hd
  have e : gcdI n d = (Int.gcd n d : Int) := rfl
  have gs : (gcdI n d).natAbs < 2 ^ 3000 := Nat.lt_of_le_of_lt (by rw [e]; omega) hs
  have h1 : divOk n (gcdI n d) := divOk_big (by rw [e]; omega) gs
  have h2 : divOk d (gcdI n d) := divOk_big (by rw [e]; omega) gs
  obtain ⟨f1, f2⟩ := fdiv_g (n := n) hd
  obtain ⟨l1, l2⟩ := rat_low hd hq
  rw [c_num_of]
  simp [b_num_of, startE, hd, o_div h1, o_div h2, f1, f2, l1, l2]
  exact leave_N (nR 0 q)
theorem lt_mul {x y : Int} {A B C : Nat} (hx : x.natAbs < A) (hy : y.natAbs < B) (h : A * B ≤ C) : (x * y).natAbs < C := by
  rw [Int.natAbs_mul]
  exact Nat.lt_of_lt_of_le (Nat.mul_lt_mul'' hx hy) h
theorem pw700 : 2 ^ 700 * 2 ^ 700 ≤ 2 ^ 3000 := by rw [← Nat.pow_add]; exact Nat.pow_le_pow_right (by decide) (by decide)
theorem pw7 : 2 ^ 700 ≤ 2 ^ 3000 := Nat.pow_le_pow_right (by decide) (by decide)
theorem num_add_ok (hf : isF f) (ha : nOkR f (2 ^ 700) a) (hb : nOkR f (2 ^ 700) b) : callN gn.G tbl (k + 2) i_num_add [.int f, (nR f a).d, (nR f b).d] st = .ok (nR f (rd f (a + b))).d st := by
  rcases isF_lt hf with rfl | ⟨h, h'⟩
  · obtain ⟨a1, a2⟩ := ha.rat
    obtain ⟨b1, b2⟩ := hb.rat
    have a2 : (a.den : Int).natAbs < 2 ^ 700 := a2
    have b2 : (b.den : Int).natAbs < 2 ^ 700 := b2
    have m1 := mulOk_big (Nat.lt_of_lt_of_le a1 pw7) (Nat.lt_of_lt_of_le b2 pw7)
    have m2 := mulOk_big (Nat.lt_of_lt_of_le b1 pw7) (Nat.lt_of_lt_of_le a2 pw7)
    have m3 := mulOk_big (Nat.lt_of_lt_of_le a2 pw7) (Nat.lt_of_lt_of_le b2 pw7)
    have hn := num_of_ok (k := k) (st := st) (den_mul_pos a b) (lt_mul a2 b2 pw700) (add_low a b)
    rw [c_num_add, rd_zero]
    simp [b_num_add, startE, nR_zero, o_mul m1, o_mul m2, o_mul m3]
    rw [← nR_zero] at *
    simp [hn, nR_zero]
    exact leave_N (nR 0 (a + b))
  · obtain ⟨x, rfl, x0, x1⟩ := ha.int h
    obtain ⟨y, rfl, y0, y1⟩ := hb.int h
    rw [c_num_add, ← Rat.intCast_add, rd_int (by omega)]
    simp [b_num_add, startE, nR_int h, h, o_mod (show f ≠ 0 by omega), Int.fmod_eq_emod_of_nonneg _ (show 0 ≤ f by omega)]
theorem num_mul_ok (hf : isF f) (ha : nOkR f (2 ^ 700) a) (hb : nOkR f (2 ^ 700) b) : callN gn.G tbl (k + 2) i_num_mul [.int f, (nR f a).d, (nR f b).d] st = .ok (nR f (rd f (a * b))).d st := by
  rcases isF_lt hf with rfl | ⟨h, h'⟩
  · obtain ⟨a1, a2⟩ := ha.rat
    obtain ⟨b1, b2⟩ := hb.rat
    have a2 : (a.den : Int).natAbs < 2 ^ 700 := a2
    have b2 : (b.den : Int).natAbs < 2 ^ 700 := b2
    have m1 := mulOk_big (Nat.lt_of_lt_of_le a1 pw7) (Nat.lt_of_lt_of_le b1 pw7)
    have m3 := mulOk_big (Nat.lt_of_lt_of_le a2 pw7) (Nat.lt_of_lt_of_le b2 pw7)
    have hn := num_of_ok (k := k) (st := st) (den_mul_pos a b) (lt_mul a2 b2 pw700) (mul_low a b)
    rw [c_num_mul, rd_zero]
    simp [b_num_mul, startE, nR_zero, o_mul m1, o_mul m3]
    simp [hn, nR_zero]
    exact leave_N (nR 0 (a * b))
  · obtain ⟨x, rfl, x0, x1⟩ := ha.int h
    obtain ⟨y, rfl, y0, y1⟩ := hb.int h
    have m1 : mulOk x y := .inl (.inr (by omega))
    rw [c_num_mul, ← Rat.intCast_mul, rd_int (by omega)]
    simp [b_num_mul, startE, nR_int h, h, o_mul m1, o_mod (show f ≠ 0 by omega), Int.fmod_eq_emod_of_nonneg _ (show 0 ≤ f by omega)]
theorem num_is_zero_ok (hf : isF f) (ha : nOkR f (2 ^ 700) a) : callN gn.G tbl (k + 1) i_num_is_zero [.int f, (nR f a).d] st = .ok (.bl (decide (a = 0))) st := by
  have e : decide (a.num = 0) = decide (a = 0) := by rw [decide_eq_decide]; exact Rat.num_eq_zero
  rcases isF_lt hf with rfl | ⟨h, h'⟩
  · rw [c_num_is_zero]
    simp [b_num_is_zero, startE, nR_zero, e]
  · rw [c_num_is_zero]
    simp [b_num_is_zero, startE, nR_pos h, h, e]
end Lw_k00
namespace Lw_k00
open PySem PySem.Spec PyProof.Rows L2 L2.PyD
/-! is_number: the bound is kept closed -/
variable {k : Nat} {st : Store} {f : Int} {a b : Rat}
theorem bd_nat : 2 ^ 660 < 100000000000000000000000000000000000000000000000000000000000000000000000000000000000000000000000000000000000000000000000000000000000000000000000000000000000000000000000000000000000000000000000000000000 := by
  have h : 2 ^ 660 = (2 ^ 33) ^ 20 := by rw [← Nat.pow_mul]
  rw [h]
  exact Nat.lt_of_lt_of_eq (Nat.pow_lt_pow_left (show 2 ^ 33 < 10 ^ 10 by decide) (by decide)) (by decide +kernel)
theorem G1_ex : ∃ B : Int, gn.G 1 = .int B ∧ ((2 ^ 660 : Nat) : Int) < B := ⟨_, rfl, Int.ofNat_lt.mpr bd_nat⟩
theorem abs_lt {u : Int} {B : Nat} (h : u.natAbs < B) : u < ((B : Nat) : Int) ∧ -((B : Nat) : Int) < u := by omega
theorem num_test {B u w : Int} (hG : gn.G 1 = .int B) (h0 : 0 < w) (h1 : w < B) (h2 : -B < u) (h3 : u < B) (c1 : gcdI u w = 1) : callN gn.G tbl (k + 3) i_is_number [.int 0, .tup [.int u, .int w]] st = .ok (.bl true) st := by
  have hi := fun x => is_int_ok (k + 1) x st
  have hGp : (prN gn.G tbl (k + 2)).G 1 = .int B := hG
  rw [c_is_number]
  simp [b_is_number, startE, hi, c1, hG, hGp, h0, h1, h2, h3]
theorem is_number_ok (hf : isF f) (ha : nOkR f (2 ^ 660) a) : callN gn.G tbl (k + 3) i_is_number [.int f, (nR f a).d] st = .ok (.bl true) st := by
  rcases isF_lt hf with rfl | ⟨h, h'⟩
  · obtain ⟨B, hG, hB⟩ := G1_ex
    obtain ⟨a1, a2⟩ := ha.rat
    have c1 : gcdI a.num (a.den : Int) = 1 := by
      show ((Int.gcd a.num (a.den : Int) : Nat) : Int) = 1
      rw [gcd_one a]
      rfl
    rw [nR_zero]
    exact num_test hG (den_posI a) (Int.lt_trans (Int.ofNat_lt.mpr a2) hB) (Int.lt_trans (Int.neg_lt_neg hB) (abs_lt a1).2) (Int.lt_trans (abs_lt a1).1 hB) c1
  · obtain ⟨x, rfl, x0, x1⟩ := ha.int h
    have hi := is_in_ok k x 0 (f - 1) st x0 (by omega)
    rw [c_is_number]
    simp [b_is_number, startE, nR_int h, h, hi]
end Lw_k00
namespace Lw_k00
open PySem PySem.Spec PyProof.Rows L2 L2.PyD
/-! quotients of integers as numbers, both ways; what is refused -/
variable {k : Nat} {st : Store} {f : Int} {a b : Rat}
theorem isF_fp (hf : isF f) : f = 0 ∨ isFp f := by
  unfold isF at hf
  unfold isFp
  omega
theorem two_big : divOk x 2 := divOk_big (by decide) (Nat.lt_of_lt_of_le (show (2 : Int).natAbs < 2 ^ 2 by decide) (Nat.pow_le_pow_right (by decide) (by decide)))
theorem inverse_mod_ok (h : 2 ≤ f) (h' : f ≤ 31) (n : Int) : callN gn.G tbl (k + 1) i_inverse_mod [.int n, .int f] st = .ok (.int (invM f n)) st := by
  have hz : f ≠ 0 := by omega
  have fm : ∀ x : Int, x.fmod f = x % f := fun x => Int.fmod_eq_emod_of_nonneg _ (by omega)
  have rg : ∀ x : Int, 0 ≤ x % f ∧ x % f < f := fun x => ⟨Int.emod_nonneg _ hz, Int.emod_lt_of_pos _ (by omega)⟩
  obtain ⟨e', st', hw, ⟨a, b, e, q1, qa⟩, q2⟩ := while_nx (t := (ev (prN gn.G tbl k) t_inverse_mod_0).t) (b := ex (prN gn.G tbl k) w_inverse_mod_1)
    (fun m env s => (∃ a b e : Int, env = [some (.int n), some (.int f), some (.int a), some (.int b), some (.int e)] ∧ 0 ≤ e ∧ e.toNat = m ∧ 0 ≤ a ∧ a < f ∧ 0 ≤ b ∧ b < f ∧ a * b ^ e.toNat % f = invM f n) ∧ s = st)
    (fun env s => (∃ a b e : Int, env = [some (.int n), some (.int f), some (.int a), some (.int b), some (.int e)] ∧ a % f = invM f n) ∧ s = st)
    (fun m env s ⟨⟨a, b, e, ee, e0, em, a0, a1, b0, b1, hab⟩, es⟩ => by
      subst ee es em
      by_cases c : 0 < e
      · right
        have d2 : e.fdiv 2 = e / 2 := Int.fdiv_eq_ediv_of_nonneg _ (by decide)
        have m2 : e.fmod 2 = e % 2 := Int.fmod_eq_emod_of_nonneg _ (by decide)
        have hd : divOk e 2 := two_big
        have m1 : mulOk a b := .inl (.inr (by omega))
        have m3 : mulOk b b := .inl (.inr (by omega))
        by_cases c2 : e % 2 = 1
        · have ek : e.toNat = 2 * (e / 2).toNat + 1 := by omega
          refine ⟨s, [some (.int n), some (.int f), some (.int (a * b % f)), some (.int (b * b % f)), some (.int (e / 2))], s, (e / 2).toNat, by simp [t_inverse_mod_0, c], .inl ⟨.inl ?_, by omega, ⟨a * b % f, b * b % f, e / 2, rfl, by omega, rfl, (rg _).1, (rg _).2, (rg _).1, (rg _).2, ?_⟩, rfl⟩⟩
          · simp [w_inverse_mod_1, o_mod (show (2 : Int) ≠ 0 by decide), o_mod hz, o_div hd, o_mul m1, o_mul m3, d2, m2, c2, fm]
          · rw [mul_pow_emod, sq_pow, ← hab, ek, Int.pow_succ]
            congr 1
            ac_rfl
        · have ek : e.toNat = 2 * (e / 2).toNat := by omega
          refine ⟨s, [some (.int n), some (.int f), some (.int a), some (.int (b * b % f)), some (.int (e / 2))], s, (e / 2).toNat, by simp [t_inverse_mod_0, c], .inl ⟨.inl ?_, by omega, ⟨a, b * b % f, e / 2, rfl, by omega, rfl, a0, a1, (rg _).1, (rg _).2, ?_⟩, rfl⟩⟩
          · simp [w_inverse_mod_1, o_mod (show (2 : Int) ≠ 0 by decide), o_mod hz, o_div hd, o_mul m3, d2, m2, c2, fm]
          · have := mul_pow_emod f a (b * b) (e / 2).toNat
            rw [Int.emod_eq_of_lt a0 a1] at this
            rw [this, sq_pow, ← hab, ek]
      · left
        have e00 : e = 0 := by omega
        subst e00
        refine ⟨s, by simp [t_inverse_mod_0], ⟨a, b, 0, rfl, ?_⟩, rfl⟩
        have : a * b ^ (0 : Int).toNat = a := by rw [show (0 : Int).toNat = 0 from rfl, Int.pow_zero, Int.mul_one]
        rw [this] at hab
        exact hab)
    (f - 2).toNat [some (.int n), some (.int f), some (.int 1), some (.int (n % f)), some (.int (f - 2))] st ⟨⟨1, n % f, f - 2, rfl, by omega, rfl, by decide, by omega, (rg _).1, (rg _).2, by rw [Int.one_mul]; rfl⟩, rfl⟩
  subst q1 q2
  rw [c_inverse_mod]
  simp [b_inverse_mod, startE, o_mod hz, fm, hw, qa]
theorem fdiv_nn (a b : Int) : a.fdiv (-b) = (-a).fdiv b := by
  have := Int.neg_fdiv_neg (-a) b
  rwa [Int.neg_neg] at this
theorem gcd_neg (n d : Int) : gcdI (-n) (-d) = gcdI n d := by unfold gcdI; rw [Int.natAbs_neg, Int.natAbs_neg]
theorem qv_fz {n d : Int} (h : f > 0) : (nR f (qv f n d)).d = .int (n * invM f d % f) := by rw [qv_pos h, nR_int h]
theorem num_of_q (hf : isF f) {n d : Int} (hd : dOk f d) (hn : n.natAbs < 2 ^ 2000) (hs : d.natAbs < 2 ^ 2000) : callN gn.G tbl (k + 2) i_num_of [.int f, .int n, .int d] st = .ok (nR f (qv f n d)).d st := by
  have up : ∀ {x : Nat}, x < 2 ^ 2000 → x < 2 ^ 3000 := fun h => Nat.lt_of_lt_of_le h (Nat.pow_le_pow_right (by decide) (by decide))
  rcases isF_fp hf with rfl | hp
  · by_cases hd0 : 0 < d
    · exact num_of_ok (k := k + 1) hd0 (up hs) (qv_mul hd.1)
    · have hd1 : 0 < -d := by have := hd.1; omega
      have hq : ((-n : Int) : Rat) = qv 0 n d * ((-d : Int) : Rat) := by
        have := qv_mul (n := n) hd.1
        rw [Rat.intCast_neg, Rat.intCast_neg, Rat.mul_neg, ← this]
      obtain ⟨l1, l2⟩ := rat_low hd1 hq
      obtain ⟨g1, g2⟩ := gcd_le_right (n := -n) hd1
      have e : gcdI (-n) (-d) = (Int.gcd (-n) (-d) : Int) := rfl
      have gs : (gcdI (-n) (-d)).natAbs < 2 ^ 3000 := Nat.lt_of_le_of_lt (by rw [e]; omega) (up (show (-d).natAbs < 2 ^ 2000 by rwa [Int.natAbs_neg]))
      have h1 : divOk n (-gcdI n d) := divOk_big (by rw [← gcd_neg, e]; omega) (by rw [Int.natAbs_neg, ← gcd_neg]; exact gs)
      have h2 : divOk d (-gcdI n d) := divOk_big (by rw [← gcd_neg, e]; omega) (by rw [Int.natAbs_neg, ← gcd_neg]; exact gs)
      obtain ⟨f1, f2⟩ := fdiv_g (n := -n) hd1
      rw [l1, gcd_neg] at f1
      rw [l2, gcd_neg] at f2
      clear hn hs gs up
      rw [c_num_of]
      simp [b_num_of, startE, hd0, o_div h1, o_div h2, fdiv_nn, f1, f2]
      exact leave_N (nR 0 (qv 0 n d))
  · obtain ⟨g1, g2⟩ := hp.pos
    have hi := inverse_mod_ok (k := k) (st := st) g1 g2 d
    have h0 : f > 0 := by omega
    have hb := (invM_range (d := d) h0)
    have m1 : mulOk n (invM f d) := mulOk_big (up hn) (Nat.lt_of_lt_of_le (show (invM f d).natAbs < 2 ^ 5 by omega) (Nat.pow_le_pow_right (by decide) (by decide)))
    rw [c_num_of]
    clear hn hs up
    simp [b_num_of, startE, h0, hi, o_mul m1, o_mod (show f ≠ 0 by omega), Int.fmod_eq_emod_of_nonneg _ (show 0 ≤ f by omega), qv_fz h0]
theorem law_gcd_ok (a b : Int) (hb : b.natAbs < 2 ^ 3000) : callN gn.G tbl (k + 1) i_law_gcd [.int a, .int b] st = .ok (.int (gcdI a b)) st := by
  have hr := rngD_n (n := 20000) (by decide)
  obtain ⟨ds, hds⟩ : ∃ ds, ds = (List.range 20000).map fun k : Nat => D.int ((k : Nat) : Int) := ⟨_, rfl⟩
  have hlen : ds.length = 20000 := by rw [hds, List.length_map, List.length_range]
  rw [← hds] at hr
  have hr : rngD [.int 20000] = some (ds, none) := hr
  have hl := gcd_forL (t := .nm 2) (body := ex (prN gn.G tbl k) w_law_gcd_0) (mk := fun a b y => [some (.int (a : Nat)), some (.int (b : Nat)), y]) (fun a y st => by simp [w_law_gcd_0]) (fun a b y st hb => by
      have hb' : ((b : Nat) : Int) ≠ 0 := by omega
      have e : ((a : Nat) : Int).fmod (b : Nat) = ((a % b : Nat) : Int) := by
        rw [Int.fmod_eq_emod_of_nonneg _ (by omega)]
        rfl
      generalize a % b = m at *
      simp [w_law_gcd_0, hb, o_mod hb', e]) (fun d a b y => rfl) 3000 ds a.natAbs b.natAbs none st hb (by rw [hlen]; decide)
  have ha : ∀ x : Int, Bi.g .abs st [.int x] = some (.val (.int ((x.natAbs : Nat) : Int))) := fun x => by
    show some (Rv.val (.int (if x < 0 then -x else x))) = _
    congr 3
    split <;> omega
  clear hb
  rw [c_law_gcd]
  simp only [b_law_gcd, startE]
  simp [ha, hr, hl]
  rfl
/-- the first of the residues that fits -/
theorem res_filter {f z : Int} (h : 0 < f) : ∃ r, ((List.range f.toNat).filter fun i : Nat => decide ((((i : Nat) : Int) - z) % f = 0)).map (fun i : Nat => D.int ((i : Nat) : Int)) = D.int (z % f) :: r := by
  have h0 := Int.emod_nonneg z (show f ≠ 0 by omega)
  have h1 := Int.emod_lt_of_pos z h
  obtain ⟨w, hw⟩ := Int.eq_ofNat_of_zero_le h0
  have e : List.range f.toNat = List.range w ++ (w :: (List.range (f.toNat - w - 1)).map (w + 1 + ·)) := by
    apply List.ext_getElem
    · simp; omega
    · intro i h1 h2
      rw [List.getElem_range]
      by_cases c : i < w
      · rw [List.getElem_append_left (by simpa using c), List.getElem_range]
      · rw [List.getElem_append_right (by simpa using c)]
        by_cases c2 : i = w
        · subst c2; simp
        · obtain ⟨j, rfl⟩ : ∃ j, i = w + 1 + j := ⟨i - w - 1, by omega⟩
          simp only [List.length_range, show w + 1 + j - w = j + 1 by omega, List.getElem_cons_succ, List.getElem_map, List.getElem_range]
  have hz : ∀ i : Nat, (((i : Nat) : Int) - z) % f = 0 ↔ ((i : Nat) : Int) % f = z % f := fun i => Int.emod_eq_emod_iff_emod_sub_eq_zero.symm
  rw [e, List.filter_append, List.filter_eq_nil_iff.mpr (fun i hi => by
    have hi := List.mem_range.mp hi
    rw [decide_eq_true_eq, hz, hw, Int.emod_eq_of_lt (by omega) (by omega)]
    omega), List.nil_append, List.filter_cons_of_pos (by
    rw [decide_eq_true_eq, hz, ← hw, Int.emod_emod]), List.map_cons, ← hw]
  exact ⟨_, rfl⟩
theorem law_num_q (hf : isF f) {n d : Int} (hd : dOk f d) (hn : n.natAbs < 2 ^ 2000) (hs : d.natAbs < 2 ^ 2000) : callN gn.G tbl (k + 2) i_law_num [.int f, .int n, .int d] st = .ok (nR f (qv f n d)).d st := by
  have up : ∀ {x : Nat}, x < 2 ^ 2000 → x < 2 ^ 3000 := fun h => Nat.lt_of_lt_of_le h (Nat.pow_le_pow_right (by decide) (by decide))
  rcases isF_fp hf with rfl | hp
  · have hg := law_gcd_ok (k := k) (st := st) n d (up hs)
    by_cases hd0 : 0 < d
    · obtain ⟨l1, l2⟩ := rat_low hd0 (qv_mul (n := n) hd.1)
      obtain ⟨g1, g2⟩ := gcd_le_right (n := n) hd0
      have e : gcdI n d = (Int.gcd n d : Int) := rfl
      have gs : (gcdI n d).natAbs < 2 ^ 3000 := Nat.lt_of_le_of_lt (by rw [e]; omega) (up hs)
      have h1 : divOk n (gcdI n d) := divOk_big (by rw [e]; omega) gs
      have h2 : divOk d (gcdI n d) := divOk_big (by rw [e]; omega) gs
      obtain ⟨f1, f2⟩ := fdiv_g (n := n) hd0
      clear hn hs gs up
      rw [c_law_num]
      simp [b_law_num, startE, hd0, hg, o_div h1, o_div h2, f1, f2, l1, l2]
      exact leave_N (nR 0 (qv 0 n d))
    · have hd1 : 0 < -d := by have := hd.1; omega
      have hq : ((-n : Int) : Rat) = qv 0 n d * ((-d : Int) : Rat) := by
        have := qv_mul (n := n) hd.1
        rw [Rat.intCast_neg, Rat.intCast_neg, Rat.mul_neg, ← this]
      obtain ⟨l1, l2⟩ := rat_low hd1 hq
      obtain ⟨g1, g2⟩ := gcd_le_right (n := -n) hd1
      have e : gcdI (-n) (-d) = (Int.gcd (-n) (-d) : Int) := rfl
      have gs : (gcdI (-n) (-d)).natAbs < 2 ^ 3000 := Nat.lt_of_le_of_lt (by rw [e]; omega) (up (show (-d).natAbs < 2 ^ 2000 by rwa [Int.natAbs_neg]))
      have z0 : 0 - gcdI n d = -gcdI n d := Int.zero_sub _
      have h1 : divOk n (-gcdI n d) := divOk_big (by rw [← gcd_neg, e]; omega) (by rw [Int.natAbs_neg, ← gcd_neg]; exact gs)
      have h2 : divOk d (-gcdI n d) := divOk_big (by rw [← gcd_neg, e]; omega) (by rw [Int.natAbs_neg, ← gcd_neg]; exact gs)
      obtain ⟨f1, f2⟩ := fdiv_g (n := -n) hd1
      rw [l1, gcd_neg] at f1
      rw [l2, gcd_neg] at f2
      clear hn hs gs up
      rw [c_law_num]
      simp [b_law_num, startE, hd0, hg, z0, o_div h1, o_div h2, fdiv_nn, f1, f2]
      exact leave_N (nR 0 (qv 0 n d))
  · obtain ⟨g1, g2⟩ := hp.pos
    have h : f > 0 := by omega
    have hdz := hd.2 h
    obtain ⟨r, hr⟩ := res_filter (z := n * invM f d) h
    have hn' := rngD_n (n := f.toNat) (by omega)
    rw [Int.toNat_of_nonneg (by omega)] at hn'
    have hc := comp_gen (p := prN gn.G tbl (k + 1)) (it := .rng (.cons (.var 0) .nil)) (own := [("k", 4)]) (t := .nm 4) (c := c_law_num_0) (e := e_law_num_1) (env := [some (.int f), some (.int n), some (.int d), none, none]) (st := st) (List.range f.toNat) (fun i : Nat => .int ((i : Nat) : Int)) (fun i : Nat => decide ((((i : Nat) : Int) - n * invM f d) % f = 0)) (fun i : Nat => .int ((i : Nat) : Int))
      (by simp [hn']) (size_small (by simp; omega)) fun i hi s => ⟨_, rfl, by
        have hi := List.mem_range.mp hi
        have m1 : mulOk ((i : Nat) : Int) d := mulOk_big (Nat.lt_of_lt_of_le (show ((i : Nat) : Int).natAbs < 2 ^ 5 by omega) (Nat.pow_le_pow_right (by decide) (by decide))) (up hs)
        have e1 : decide ((((i : Nat) : Int) * d - n) % f = 0) = decide ((((i : Nat) : Int) - n * invM f d) % f = 0) := decide_eq_decide.mpr (fits_iff hp hdz n i)
        clear hn hs up
        rw [← e1]
        simp [c_law_num_0, wipeE, o_mul m1, o_mod (show f ≠ 0 by omega), Int.fmod_eq_emod_of_nonneg _ (show 0 ≤ f by omega)], fun _ => ⟨by simp [e_law_num_1, wipeE], rfl⟩⟩
    rw [hr] at hc
    clear hn hs up
    rw [c_law_num]
    simp [-v_compIf, b_law_num, startE, h, hc, qv_fz h]
end Lw_k00
namespace Lw_k00
open PySem PySem.Spec PyProof.Rows L2 L2.PyD
/-! the package's numbers, and what is refused -/
variable {k : Nat} {st : Store} {f n d n' d' : Int} {a b : Rat}
theorem leaveX_self (st : Store) (x : Str) : leaveX st st x [] = .exc x [] st := by
  unfold leaveX
  rw [if_pos ⟨closed_self _, rfl⟩, List.take_length]
theorem need_field_ok (hf : isF f) : callN gn.G tbl (k + 3) i_need_field [.int f] st = .ok .non st := by
  have := is_field_ok k f st hf
  rw [c_need_field]
  simp [b_need_field, startE, this]
theorem dOk_iff (hf : isF f) (d : Int) : dOk f d ∨ (¬ dOk f d ∧ (d = 0 ∨ (f > 0 ∧ d % f = 0))) := by
  by_cases h : dOk f d
  · exact .inl h
  · refine .inr ⟨h, ?_⟩
    unfold dOk at h
    by_cases h0 : d = 0
    · exact .inl h0
    · refine .inr ?_
      by_cases hp : f > 0
      · by_cases hz : d % f = 0
        · exact ⟨hp, hz⟩
        · exact absurd ⟨h0, fun _ => hz⟩ h
      · exact absurd ⟨h0, fun z => absurd z hp⟩ h
theorem number_ok (hf : isF f) (hd : dOk f d) (hn : n.natAbs < 2 ^ 2000) (hs : d.natAbs < 2 ^ 2000) : callN gn.G tbl (k + 4) i_number [.int f, .int n, .int d] st = .ok (nR f (qv f n d)).d st := by
  have h1 := need_field_ok (k := k) (st := st) hf
  have h2 := fun x => is_int_ok (k + 2) x st
  have h3 := num_of_q (k := k + 1) (st := st) hf hd hn hs
  have hd0 := hd.1
  have hd1 := hd.2
  clear hn hs hd
  rw [c_number]
  by_cases hp : 0 < f
  · have hz := hd1 hp
    simp [b_number, startE, h1, h2, h3, hd0, hp, o_mod (show f ≠ 0 by omega), Int.fmod_eq_emod_of_nonneg _ (show 0 ≤ f by omega), hz]
    exact leave_N _
  · simp [b_number, startE, h1, h2, h3, hd0, hp]
    exact leave_N _
theorem number_exc (hf : isF f) (hd : ¬ dOk f d) : callN gn.G tbl (k + 4) i_number [.int f, .int n, .int d] st = .exc "ZeroDivisor" [] st := by
  have h1 := need_field_ok (k := k) (st := st) hf
  have h2 := fun x => is_int_ok (k + 2) x st
  have hx := leaveX_self st "ZeroDivisor"
  rcases dOk_iff hf d with h | ⟨_, h⟩
  · exact absurd h hd
  rw [c_number]
  by_cases hd0 : d = 0
  · simp [b_number, startE, h1, h2, hd0, hx]
  · rcases h with h | ⟨hp, hz⟩
    · exact absurd h hd0
    · simp [b_number, startE, h1, h2, hd0, hp, o_mod (show f ≠ 0 by omega), Int.fmod_eq_emod_of_nonneg _ (show 0 ≤ f by omega), hz, hx]
theorem ediv_le {x g : Int} (hg : 0 < g) (h : g ∣ x) : (x / g).natAbs ≤ x.natAbs := by
  obtain ⟨y, rfl⟩ := h
  rw [Int.mul_ediv_cancel_left _ (by omega), Int.natAbs_mul]
  exact Nat.le_mul_of_pos_left _ (by omega)
/-- the quotient's parts are no longer -/
theorem qv_small {B : Nat} (hf : isF f) (hd : dOk f d) (hn : n.natAbs < B) (hs : d.natAbs < B) : nOkR f B (qv f n d) := by
  rcases isF_fp hf with rfl | hp
  · have go : ∀ n d : Int, 0 < d → n.natAbs < B → d.natAbs < B → ∀ q : Rat, (n : Rat) = q * (d : Rat) → nOkR 0 B q := fun n d hd hn hs q hq => by
      obtain ⟨l1, l2⟩ := rat_low hd hq
      obtain ⟨g1, g2⟩ := gcd_le_right (n := n) hd
      have e1 := ediv_le g1 (Int.gcd_dvd_left n d)
      have e2 := ediv_le g1 (Int.gcd_dvd_right n d)
      rw [l1] at e1
      rw [l2] at e2
      unfold nOkR
      rw [if_neg (by decide)]
      omega
    by_cases h0 : 0 < d
    · exact go n d h0 hn hs _ (qv_mul hd.1)
    · refine go (-n) (-d) (by have := hd.1; omega) (by omega) (by omega) _ ?_
      have := qv_mul (n := n) hd.1
      rw [Rat.intCast_neg, Rat.intCast_neg, Rat.mul_neg, ← this]
  · obtain ⟨g1, g2⟩ := hp.pos
    have h : f > 0 := by omega
    unfold nOkR
    rw [if_pos h, qv_pos h]
    exact ⟨_, rfl, Int.emod_nonneg _ (by omega), Int.emod_lt_of_pos _ h⟩
theorem need_number_ok (hf : isF f) (ha : nOkR f (2 ^ 660) a) : callN gn.G tbl (k + 4) i_need_number [.int f, (nR f a).d] st = .ok .non st := by
  have := is_number_ok (k := k) (st := st) hf ha
  clear ha
  rw [c_need_number]
  simp [b_need_number, startE, this]
theorem number_sum_ok (hf : isF f) (ha : nOkR f (2 ^ 660) a) (hb : nOkR f (2 ^ 660) b) : callN gn.G tbl (k + 5) i_number_sum [.int f, (nR f a).d, (nR f b).d] st = .ok (nR f (rd f (a + b))).d st := by
  have up : ∀ {q : Rat}, nOkR f (2 ^ 660) q → nOkR f (2 ^ 700) q := fun h => h.mono (Nat.pow_le_pow_right (by decide) (by decide))
  have h1 := need_field_ok (k := k + 1) (st := st) hf
  have h2 := need_number_ok (k := k) (st := st) hf ha
  have h3 := need_number_ok (k := k) (st := st) hf hb
  have h4 := num_add_ok (k := k + 2) (st := st) hf (up ha) (up hb)
  clear ha hb up
  generalize nR f a = A at *
  generalize nR f b = B at *
  rw [c_number_sum]
  simp [b_number_sum, startE, h1, h2, h3, h4]
  exact leave_N _
theorem number_product_ok (hf : isF f) (ha : nOkR f (2 ^ 660) a) (hb : nOkR f (2 ^ 660) b) : callN gn.G tbl (k + 5) i_number_product [.int f, (nR f a).d, (nR f b).d] st = .ok (nR f (rd f (a * b))).d st := by
  have up : ∀ {q : Rat}, nOkR f (2 ^ 660) q → nOkR f (2 ^ 700) q := fun h => h.mono (Nat.pow_le_pow_right (by decide) (by decide))
  have h1 := need_field_ok (k := k + 1) (st := st) hf
  have h2 := need_number_ok (k := k) (st := st) hf ha
  have h3 := need_number_ok (k := k) (st := st) hf hb
  have h4 := num_mul_ok (k := k + 2) (st := st) hf (up ha) (up hb)
  clear ha hb up
  generalize nR f a = A at *
  generalize nR f b = B at *
  rw [c_number_product]
  simp [b_number_product, startE, h1, h2, h3, h4]
  exact leave_N _
/-- the inverse of a quotient is the quotient turned about -/
theorem num_inv_ok (hf : isF f) (hd : dOk f d) (hn : n.natAbs < 2 ^ 2000) (hs : d.natAbs < 2 ^ 2000) (hz : qv f n d ≠ 0) : callN gn.G tbl (k + 3) i_num_inv [.int f, (nR f (qv f n d)).d] st = .ok (nR f (qv f d n)).d st := by
  have hb := qv_small hf hd hn hs
  have hnk := qv_ne (isF_fp hf) hd hz
  rcases isF_fp hf with rfl | hp
  · obtain ⟨b1, b2⟩ := hb.rat
    have hq0 : (qv 0 n d).num ≠ 0 := fun z => hz (Rat.num_eq_zero.mp z)
    have h := num_of_q (k := k) (st := st) hf (n := ((qv 0 n d).den : Int)) (d := (qv 0 n d).num) ⟨hq0, fun z => absurd z (by decide)⟩ b2 b1
    have e : qv 0 ((qv 0 n d).den : Int) (qv 0 n d).num = qv 0 d n := by
      have h1 := rat_den (qv 0 n d)
      have h2 := cast_ne hq0
      have h3 := cast_ne hd.1
      have h4 := cast_ne hnk.1
      rw [qv_zero (n := ((qv 0 n d).den : Int)), qv_zero (n := d)]
      have h5 : qv 0 n d = (n : Rat) / (d : Rat) := qv_zero
      generalize qv 0 n d = q at *
      generalize (q.num : Rat) = u at *
      generalize ((q.den : Int) : Rat) = v at *
      grind
    rw [e] at h
    clear hb b1 b2 hn hs
    rw [c_num_inv]
    simp [b_num_inv, startE, nR_zero, h]
    exact leave_N (nR 0 (qv 0 d n))
  · obtain ⟨g1, g2⟩ := hp.pos
    have h : f > 0 := by omega
    have hi := inverse_mod_ok (k := k + 1) (st := st) g1 g2 (n * invM f d % f)
    rw [inv_inv hp (hnk.2 h) (hd.2 h) rfl] at hi
    clear hb hn hs
    rw [c_num_inv]
    simp [b_num_inv, startE, qv_fz h, h, hi]
theorem number_inverse_ok (hf : isF f) (hd : dOk f d) (hn : n.natAbs < 2 ^ 660) (hs : d.natAbs < 2 ^ 660) (hz : qv f n d ≠ 0) : callN gn.G tbl (k + 5) i_number_inverse [.int f, (nR f (qv f n d)).d] st = .ok (nR f (qv f d n)).d st := by
  have up : ∀ {x : Nat}, x < 2 ^ 660 → x < 2 ^ 2000 := fun h => Nat.lt_of_lt_of_le h (Nat.pow_le_pow_right (by decide) (by decide))
  have hb := qv_small hf hd hn hs
  have h1 := need_field_ok (k := k + 1) (st := st) hf
  have h2 := need_number_ok (k := k) (st := st) hf hb
  have h3 := num_is_zero_ok (k := k + 3) (st := st) hf (hb.mono (Nat.pow_le_pow_right (by decide) (by decide)))
  have h4 := num_inv_ok (k := k + 1) (st := st) hf hd (up hn) (up hs) hz
  clear hb hn hs up
  generalize qv f n d = q at *
  generalize nR f q = A at *
  rw [c_number_inverse]
  simp [b_number_inverse, startE, h1, h2, h3, h4, hz]
  exact leave_N _
theorem law_zero_ok (hf : isF f) : callN gn.G tbl (k + 1) i_law_zero [.int f] st = .ok (nR f 0).d st := by
  rcases isF_lt hf with rfl | ⟨h, h'⟩
  · rw [c_law_zero]
    simp [b_law_zero, startE]
    exact leave_N (nR 0 0)
  · rw [c_law_zero]
    simp [b_law_zero, startE, nR_pos h, h]
theorem zero_ok {B : Nat} (hB : 1 < B) (hf : isF f) : nOkR f B 0 := by
  rcases isF_lt hf with rfl | ⟨h, h'⟩
  · unfold nOkR
    rw [if_neg (by decide)]
    exact ⟨by show 0 < B; omega, hB⟩
  · unfold nOkR
    rw [if_pos h]
    exact ⟨0, rfl, by decide, h⟩
theorem number_inverse_exc (hf : isF f) : callN gn.G tbl (k + 5) i_number_inverse [.int f, (nR f 0).d] st = .exc "ZeroDivisor" [] st := by
  have hb : ∀ j, 1 < j → nOkR f (2 ^ j) 0 := fun j h => zero_ok (Nat.lt_of_lt_of_le (show 1 < 2 ^ 1 by decide) (Nat.pow_le_pow_right (by decide) (by omega))) hf
  have h1 := need_field_ok (k := k + 1) (st := st) hf
  have h2 := need_number_ok (k := k) (st := st) hf (hb 660 (by decide))
  have h3 := num_is_zero_ok (k := k + 3) (st := st) hf (hb 700 (by decide))
  have hx := leaveX_self st "ZeroDivisor"
  clear hb
  generalize nR f 0 = A at *
  rw [c_number_inverse]
  simp [b_number_inverse, startE, h1, h2, h3, hx]
/-! what is refused -/
theorem refused0 (hf : isF f) (hd : ¬ dOk f d) : callN gn.G tbl (k + 8) i_law_refused [.int 0, .int f, .int n, .int d] st = .ok (.bl true) st := by
  have h := number_exc (k := k) (n := n) (st := st) hf hd
  have hl : (prN gn.G tbl (k + 7)).low.C = callN gn.G tbl (k + 4) := rfl
  rw [c_law_refused]
  simp [b_law_refused, startE, sRef, refV, refE, l_law_refused_0, hl, h]
theorem refused1 (hf : isF f) : callN gn.G tbl (k + 9) i_law_refused [.int 1, .int f, .int n, .int d] st = .ok (.bl true) st := by
  have h := number_inverse_exc (k := k) (st := st) hf
  have h0 := law_zero_ok (k := k + 4) (st := st) hf
  have hl : (prN gn.G tbl (k + 8)).low.C = callN gn.G tbl (k + 5) := rfl
  generalize nR f 0 = A at *
  rw [c_law_refused]
  simp [b_law_refused, startE, sRef, refV, refE, l_law_refused_1, hl, h, h0]
theorem alike_num (f : Int) (v : Rat) : callN gn.G tbl (k + 2) i_law_alike [(nR f v).d, (nR f v).d] st = .ok (.bl true) st := by
  by_cases h : f > 0
  · rw [nR_pos h, alike_int (k + 1)]
    simp
  · have : (nR f v).d = .tup ([v.num, (v.den : Int)].map D.int) := by
      unfold nR
      rw [if_neg h]
      rfl
    rw [this]
    exact alike_ints k _ st (by show 2 ≤ 1000; decide)
end Lw_k00
namespace Lw_k00
open PySem PySem.Spec PyProof.Rows L2 L2.PyD
variable {k : Nat} {st : Store} {f n d n' d' : Int} {a b : Rat}
theorem pow9 : powOk 10 9 := ⟨by decide, by decide⟩
theorem ten9 : (10 : Int) ^ (9 : Int).toNat = 1000000000 := by decide
theorem integer_ok {ns : List Int} {r : Cell} {s : Store} (R : RowC ns r) : ∃ (v : Int) (r' : Cell), callN gn.G tbl (k + 2) i_law_integer [.cell 0] (r :: s) = .ok (.int v) (r' :: s) ∧ RowC ns r' ∧ v.natAbs < 2 ^ 70 := by
  obtain ⟨v1, r1, h1, R1, a0, a1⟩ := tk k (s := s) R (m := 41) (by decide) (by decide)
  obtain ⟨v2, r2, h2, R2, b0, b1⟩ := tk k (s := s) R1 (m := 4) (by decide) (by decide)
  have e2 : (2 : Nat) ^ 70 = 1180591620717411303424 := by decide
  by_cases c : v2 = 0
  · obtain ⟨v3, r3, h3, R3, c0, c1⟩ := tk k (s := s) R2 (m := 1000000000) (by decide) (by decide)
    obtain ⟨v4, r4, h4, R4, d0, d1⟩ := tk k (s := s) R3 (m := 1000000000) (by decide) (by decide)
    have m1 : mulOk (v1 - 20) 1000000000 := .inl (.inl (by omega))
    have m2 : mulOk ((v1 - 20) * 1000000000 + v3) 1000000000 := mulOk_big (Nat.lt_of_lt_of_le (show _ < 2 ^ 40 by omega) (Nat.pow_le_pow_right (by decide) (by decide))) (Nat.lt_of_lt_of_le (show _ < 2 ^ 40 by decide) (Nat.pow_le_pow_right (by decide) (by decide)))
    refine ⟨((v1 - 20) * 1000000000 + v3) * 1000000000 + v4, r4, ?_, R4, by rw [e2]; omega⟩
    rw [c_law_integer]
    simp [b_law_integer, startE, h1, h2, c, o_pow pow9, ten9, o_mul m1, h3, o_mul m2, h4]
    exact leave_row0 R4 rfl
  · refine ⟨v1 - 20, r2, ?_, R2, by rw [e2]; omega⟩
    rw [c_law_integer]
    simp [b_law_integer, startE, h1, h2, c]
    exact leave_row0 R2 rfl
/-! the great number -/
def tenP (k : Nat) : Int := ((10 ^ k : Nat) : Int)
theorem tenP_pow (k : Nat) : (10 : Int) ^ k = tenP k := by
  unfold tenP
  rw [Int.natCast_pow]
  rfl
theorem tenP_lt {k : Nat} (h : k ≤ 300) : (tenP k).natAbs < 2 ^ 2000 := by
  unfold tenP
  rw [Int.natAbs_natCast]
  refine Nat.lt_of_le_of_lt (Nat.pow_le_pow_left (show 10 ≤ 2 ^ 4 by decide) k) ?_
  rw [← Nat.pow_mul]
  exact Nat.pow_lt_pow_right (by decide) (by omega)
theorem powOk_big {i j : Int} (h : i.natAbs < 2 ^ 2000) (h0 : 0 ≤ j) (h1 : j ≤ 1000) : powOk i j := by
  refine ⟨h0, ?_⟩
  have h2 : i.natAbs.log2 + 1 ≤ 2001 := by
    by_cases z : i.natAbs = 0
    · rw [z]; decide
    · have := (Nat.log2_lt z).mpr h
      omega
  refine Nat.le_trans (Nat.mul_le_mul h2 (show j.toNat ≤ 1000 by omega)) (by decide)
theorem small_big {i : Int} (h : i.natAbs < 2 ^ 8) : i.natAbs < 2 ^ 2000 := Nat.lt_of_lt_of_le h (Nat.pow_le_pow_right (by decide) (by decide))
theorem p50 : binG' .Pow st (.int 10) (.int 50) = some (.val (.int (tenP 50))) := by
  rw [o_pow (powOk_big (small_big (by decide)) (by decide) (by decide))]
  exact congrArg (fun x => some (Rv.val (.int x))) (tenP_pow 50)
theorem p49 : binG' .Pow st (.int 10) (.int 49) = some (.val (.int (tenP 49))) := by
  rw [o_pow (powOk_big (small_big (by decide)) (by decide) (by decide))]
  exact congrArg (fun x => some (Rv.val (.int x))) (tenP_pow 49)
theorem p150 : binG' .Pow st (.int (tenP 50)) (.int 3) = some (.val (.int (tenP 150))) := by
  rw [o_pow (powOk_big (tenP_lt (by decide)) (by decide) (by decide))]
  refine congrArg (fun x => some (Rv.val (.int x))) ?_
  show tenP 50 ^ 3 = _
  unfold tenP
  rw [← Int.natCast_pow, ← Nat.pow_mul]
theorem up3000 {x : Nat} (h : x < 2 ^ 2000) : x < 2 ^ 3000 := Nat.lt_of_lt_of_le h (Nat.pow_le_pow_right (by decide) (by decide))
theorem p199 : binG' .Mult st (.int (tenP 150)) (.int (tenP 49)) = some (.val (.int (tenP 199))) := by
  rw [o_mul (mulOk_big (up3000 (tenP_lt (by decide))) (up3000 (tenP_lt (by decide))))]
  refine congrArg (fun x => some (Rv.val (.int x))) ?_
  unfold tenP
  rw [← Int.natCast_mul, ← Nat.pow_add]
theorem G1_ten : ∃ B : Int, gn.G 1 = .int B ∧ B = tenP 200 := ⟨_, rfl, by decide +kernel⟩
theorem far_ok {t : Int} (t0 : 0 ≤ t) (t1 : t < 100) : callN gn.G tbl (k + 5) i_number_inverse [.int 0, .tup [.int 1, .int (tenP 199 + 7 * t)]] st = .ok (.tup [.int (tenP 199 + 7 * t), .int 1]) st := by
  obtain ⟨B, hG, hB⟩ := G1_ten
  have e1 : B = 10 * tenP 199 := by rw [hB]; unfold tenP; rw [Nat.pow_succ]; omega
  have e2 : 1000 ≤ tenP 199 := by
    unfold tenP
    have : 10 ^ 3 ≤ 10 ^ 199 := Nat.pow_le_pow_right (by decide) (by decide)
    omega
  have e3 := tenP_lt (k := 200) (by decide)
  rw [← hB] at e3
  generalize tenP 199 = T at *
  obtain ⟨F, hF⟩ : ∃ F, F = T + 7 * t := ⟨_, rfl⟩
  rw [← hF]
  have f0 : 0 < F := by omega
  have f1 : F < B := by omega
  have c1 : gcdI 1 F = 1 := by
    show ((Nat.gcd 1 F.natAbs : Nat) : Int) = 1
    rw [Nat.gcd_one_left]
    rfl
  have h1 := need_field_ok (k := k + 1) (st := st) (f := 0) (.inl rfl)
  have h2 : callN gn.G tbl (k + 4) i_need_number [.int 0, .tup [.int 1, .int F]] st = .ok .non st := by
    have := num_test (k := k) (st := st) hG f0 f1 (show -B < 1 by omega) (show 1 < B by omega) c1
    rw [c_need_number]
    simp [b_need_number, startE, this]
  have h3 : callN gn.G tbl (k + 4) i_num_is_zero [.int 0, .tup [.int 1, .int F]] st = .ok (.bl false) st := by
    rw [c_num_is_zero]
    simp [b_num_is_zero, startE]
  have h4 : callN gn.G tbl (k + 4) i_num_inv [.int 0, .tup [.int 1, .int F]] st = .ok (.tup [.int F, .int 1]) st := by
    have := num_of_ok (k := k + 2) (st := st) (n := F) (d := 1) (q := (F : Rat)) (by decide) (up3000 (small_big (by decide))) (by show (F : Rat) = F * 1; rw [Rat.mul_one])
    rw [nR_zero, Rat.num_intCast, Rat.den_intCast] at this
    rw [c_num_inv]
    simp [b_num_inv, startE, this]
    exact leave_N (.tup [.int F, .int 1])
  clear hB e1 e2 e3 hG hF c1 f1
  rw [c_number_inverse]
  simp [b_number_inverse, startE, h1, h2, h3, h4]
  exact leave_N (.tup [.int F, .int 1])
end Lw_k00
namespace Lw_k00
open PySem PySem.Spec PyProof.Rows L2 L2.PyD
variable {k : Nat} {st : Store} {f n d n' d' : Int} {a b : Rat}
theorem nR_ok (f : Int) (v : Rat) : (nR f v).ok = true ∧ (nR f v).dep ≤ 1 := by
  unfold nR
  split
  · exact ⟨rfl, Nat.zero_le _⟩
  · exact ⟨by simp [N.ok, N.oks], by simp [N.dep, N.deps]⟩
theorem ne_num {B : Nat} {v w : Rat} (hv : nOkR f B v) (hw : nOkR f B w) : cmpG' .NotEq st (nR f v).d (nR f w).d = some (!decide (v = w)) := by
  rw [c_neN (nR_ok f v).1 (nR_ok f w).1 (Nat.le_trans (nR_ok f v).2 (by decide)) (Nat.le_trans (nR_ok f w).2 (by decide))]
  congr 2
  rw [decide_eq_decide]
  exact ⟨nR_inj hv hw, fun e => by rw [e]⟩
theorem dOk_one (hf : isF f) : dOk f 1 := by
  refine ⟨by decide, fun h => ?_⟩
  obtain ⟨g1, g2⟩ := (show isFp f by rcases isF_fp hf with h' | h'; omega; exact h').pos
  rw [Int.emod_eq_of_lt (by decide) (by omega)]
  decide
/-- the test whether d may stand below -/
def tst (i : Nat) : E := .or (.cmp .Eq (.var i) (.con (.int 0))) (.and (.cmp .Gt (.var 2) (.con (.int 0))) (.cmp .Eq (.bin false .Mod (.blt false .int (.cons (.var i) .nil)) (.var 2)) (.con (.int 0))))
theorem tst_ok {p : Pr} {i : Nat} {env : L2.PyD.Env} (hf : isF f) (h1 : env[i]? = some (some (.int d))) (h2 : env[2]? = some (some (.int f))) : ∃ c : Bool, (ev p (tst i)).t env st = .ok c st ∧ (c = false → dOk f d) ∧ (c = true → ¬ dOk f d) := by
  have hfz : f > 0 → f ≠ 0 := fun h => by omega
  rcases dOk_iff hf d with h | ⟨h, h'⟩
  · refine ⟨false, ?_, fun _ => h, (fun z => nomatch z)⟩
    have h3 := h.1
    by_cases hp : 0 < f
    · have h4 := h.2 hp
      simp [tst, h1, h2, h3, hp, o_mod (hfz hp), Int.fmod_eq_emod_of_nonneg _ (show 0 ≤ f by omega), h4]
    · simp [tst, h1, h2, h3, hp]
  · refine ⟨true, ?_, (fun z => nomatch z), fun _ => h⟩
    by_cases h0 : d = 0
    · simp [tst, h1, h2, h0]
    · rcases h' with h' | ⟨hp, h4⟩
      · exact absurd h' h0
      · simp [tst, h1, h2, h0, hp, o_mod (hfz hp), Int.fmod_eq_emod_of_nonneg _ (show 0 ≤ f by omega), h4]
theorem bd70 {x y : Int} (hx : x.natAbs < 2 ^ 70) (hy : y.natAbs < 2 ^ 70) : mulOk x y ∧ (x * y).natAbs < 2 ^ 140 := by
  refine ⟨mulOk_big (Nat.lt_of_lt_of_le hx (Nat.pow_le_pow_right (by decide) (by decide))) (Nat.lt_of_lt_of_le hy (Nat.pow_le_pow_right (by decide) (by decide))), ?_⟩
  rw [Int.natAbs_mul]
  exact Nat.lt_of_lt_of_eq (Nat.mul_lt_mul'' hx hy) (by rw [← Nat.pow_add])
theorem lift140 {x j : Nat} (h : x < 2 ^ 141) (hj : 141 ≤ j) : x < 2 ^ j := Nat.lt_of_lt_of_le h (Nat.pow_le_pow_right (by decide) hj)
/-- the rest of a turn -/
theorem rest_ok {s y3 y4 : Option D} {l m : Int} {y9 y10 : Option D} (hf : isF f) (hd : dOk f d) (hl : dOk f l) (bn : n.natAbs < 2 ^ 70) (bd : d.natAbs < 2 ^ 70) (bm : m.natAbs < 2 ^ 70) (bl : l.natAbs < 2 ^ 70) {r : Cell} :
    ∃ z9 z10, ex (prN gn.G tbl (k + 9)) r_law_2 [s, some (.cell 0), some (.int f), y3, y4, some (.int l), some (.int n), some (.int d), some (.int m), y9, y10] [r] = .nx [s, some (.cell 0), some (.int f), y3, y4, some (.int l), some (.int n), some (.int d), some (.int m), z9, z10] [r] := by
  have hF := isF_fp hf
  have i70 : ∀ {x : Int} {j : Nat}, x.natAbs < 2 ^ 70 → 70 ≤ j → x.natAbs < 2 ^ j := fun h hj => Nat.lt_of_lt_of_le h (Nat.pow_le_pow_right (by decide) hj)
  obtain ⟨m1, b1⟩ := bd70 bn bl
  obtain ⟨m2, b2⟩ := bd70 bm bd
  obtain ⟨m3, b3⟩ := bd70 bd bl
  obtain ⟨m4, b4⟩ := bd70 bn bm
  have bs : (n * l + m * d).natAbs < 2 ^ 2000 := lift140 (Nat.lt_of_le_of_lt (Int.natAbs_add_le _ _) (by rw [Nat.pow_succ]; omega)) (by decide)
  have c1 := number_ok (k := k + 5) (st := [r]) hf hd (i70 bn (by decide)) (i70 bd (by decide))
  have c2 := number_ok (k := k + 5) (st := [r]) hf hl (i70 bm (by decide)) (i70 bl (by decide))
  have c3 := law_num_q (k := k + 7) (st := [r]) hf hd (i70 bn (by decide)) (i70 bd (by decide))
  have c4 := law_num_q (k := k + 7) (st := [r]) hf hl (i70 bm (by decide)) (i70 bl (by decide))
  have q1 := qv_small (B := 2 ^ 660) hf hd (i70 bn (by decide)) (i70 bd (by decide))
  have q2 := qv_small (B := 2 ^ 660) hf hl (i70 bm (by decide)) (i70 bl (by decide))
  have c5 := number_sum_ok (k := k + 4) (st := [r]) hf q1 q2
  have c6 := number_product_ok (k := k + 4) (st := [r]) hf q1 q2
  have hdl := dOk.mul hF hd hl
  have b3' : (d * l).natAbs < 2 ^ 2000 := Nat.lt_of_lt_of_le b3 (Nat.pow_le_pow_right (by decide) (by decide))
  have b4' : (n * m).natAbs < 2 ^ 2000 := Nat.lt_of_lt_of_le b4 (Nat.pow_le_pow_right (by decide) (by decide))
  have c7 := law_num_q (k := k + 7) (st := [r]) hf hdl bs b3'
  have c8 := law_num_q (k := k + 7) (st := [r]) hf hdl b4' b3'
  rw [qv_add hF hd hl] at c5
  rw [qv_prod hF hd hl] at c6
  have al := fun v => alike_num (k := k + 7) (st := [r]) f v
  have c9 := law_zero_ok (k := k + 8) (st := [r]) hf
  have c10 := ne_num (st := [r]) q1 (zero_ok (B := 2 ^ 660) (Nat.lt_of_lt_of_le (show 1 < 2 ^ 1 by decide) (Nat.pow_le_pow_right (by decide) (by decide))) hf)
  have c11 : qv f n d ≠ 0 → callN gn.G tbl (k + 9) i_number_inverse [.int f, (nR f (qv f n d)).d] [r] = .ok (nR f (qv f d n)).d [r] := fun hz => number_inverse_ok (k := k + 4) (st := [r]) hf hd (i70 bn (by decide)) (i70 bd (by decide)) hz
  have c12 : qv f n d ≠ 0 → callN gn.G tbl (k + 9) i_law_num [.int f, .int d, .int n] [r] = .ok (nR f (qv f d n)).d [r] := fun hz => law_num_q (k := k + 7) (st := [r]) hf (qv_ne hF hd hz) (i70 bd (by decide)) (i70 bn (by decide))
  have e1 := al (qv f n d)
  have e2 := al (qv f m l)
  have e3 := al (qv f (n * l + m * d) (d * l))
  have e4 := al (qv f (n * m) (d * l))
  have e5 := al (qv f d n)
  clear bs b3' b4' b1 b2 b3 b4 bn bd bm bl i70 q1 q2 al
  refine ⟨some (nR f (qv f n d)).d, some (nR f (qv f m l)).d, ?_⟩
  by_cases hz : qv f n d = 0
  · clear c11 c12
    rw [decide_eq_true hz] at c10
    generalize nR f (qv f n d) = A at *
    generalize nR f (qv f m l) = B at *
    generalize nR f (qv f (n * l + m * d) (d * l)) = C at *
    generalize nR f (qv f (n * m) (d * l)) = F at *
    generalize nR f 0 = Z at *
    simp [r_law_2, r_law_1, c1, c2, c3, c4, c5, c6, c7, c8, c9, c10, e1, e2, e3, e4, o_mul m1, o_mul m2, o_mul m3, o_mul m4]
  · have c11 := c11 hz
    have c12 := c12 hz
    rw [decide_eq_false hz] at c10
    generalize nR f (qv f n d) = A at *
    generalize nR f (qv f m l) = B at *
    generalize nR f (qv f (n * l + m * d) (d * l)) = C at *
    generalize nR f (qv f (n * m) (d * l)) = F at *
    generalize nR f (qv f d n) = J at *
    generalize nR f 0 = Z at *
    simp [r_law_2, r_law_1, c1, c2, c3, c4, c5, c6, c7, c8, c9, c10, c11, c12, e1, e2, e3, e4, e5, o_mul m1, o_mul m2, o_mul m3, o_mul m4]
/-- a turn -/
theorem turn_ok {ns : List Int} {r : Cell} {s y3 y4 y5 y6 y7 y8 y9 y10 : Option D} (hf : isF f) (R : RowC ns r) :
    ∃ r' z5 z6 z7 z8 z9 z10, ex (prN gn.G tbl (k + 9)) w_law_3 [s, some (.cell 0), some (.int f), y3, y4, y5, y6, y7, y8, y9, y10] [r] = .nx [s, some (.cell 0), some (.int f), y3, y4, z5, z6, z7, z8, z9, z10] [r'] ∧ RowC ns r' := by
  obtain ⟨n, r1, h1, R1, b1⟩ := integer_ok (k := k + 7) (s := []) R
  obtain ⟨d, r2, h2, R2, b2⟩ := integer_ok (k := k + 7) (s := []) R1
  obtain ⟨m, r3, h3, R3, b3⟩ := integer_ok (k := k + 7) (s := []) R2
  obtain ⟨l, r4, h4, R4, b4⟩ := integer_ok (k := k + 7) (s := []) R3
  have hone : (1 : Int).natAbs < 2 ^ 70 := Nat.lt_of_lt_of_le (show (1 : Int).natAbs < 2 ^ 1 by decide) (Nat.pow_le_pow_right (by decide) (by decide))
  have A : ex (prN gn.G tbl (k + 9)) (.asg (.tup [6, 7, 8, 5]) (.tup (.cons (.call 18 (.cons (.var 1) .nil)) (.cons (.call 18 (.cons (.var 1) .nil)) (.cons (.call 18 (.cons (.var 1) .nil)) (.cons (.call 18 (.cons (.var 1) .nil)) .nil)))))) [s, some (.cell 0), some (.int f), y3, y4, y5, y6, y7, y8, y9, y10] [r] =
      .nx [s, some (.cell 0), some (.int f), y3, y4, some (.int l), some (.int n), some (.int d), some (.int m), y9, y10] [r4] := by
    clear b1 b2 b3 b4 hone
    simp [h1, h2, h3, h4, tg_tup4]
  obtain ⟨d1, hd1, bd1, B⟩ : ∃ d1, dOk f d1 ∧ d1.natAbs < 2 ^ 70 ∧ ex (prN gn.G tbl (k + 9)) (.ifs (tst 7) (.seq (.ifs (.not (.call 20 (.cons (.con (.int 0)) (.cons (.var 2) (.cons (.var 6) (.cons (.var 7) .nil)))))) (.seq (.ret (.con (.bl false))) .skip) (.skip))
      (.seq (.asg (.nm 7) (.con (.int 1))) .skip)) (.skip)) [s, some (.cell 0), some (.int f), y3, y4, some (.int l), some (.int n), some (.int d), some (.int m), y9, y10] [r4] = .nx [s, some (.cell 0), some (.int f), y3, y4, some (.int l), some (.int n), some (.int d1), some (.int m), y9, y10] [r4] := by
    obtain ⟨c, e, ht, hn⟩ := tst_ok (p := prN gn.G tbl (k + 9)) (i := 7) (env := [s, some (.cell 0), some (.int f), y3, y4, some (.int l), some (.int n), some (.int d), some (.int m), y9, y10]) (st := [r4]) hf rfl rfl
    cases c with
    | false =>
      refine ⟨d, ht rfl, b2, ?_⟩
      rw [x_ifs, e]
      rfl
    | true =>
      refine ⟨1, dOk_one hf, hone, ?_⟩
      have hr := refused0 (k := k + 1) (n := n) (st := [r4]) hf (hn rfl)
      rw [x_ifs, e]
      clear b1 b2 b3 b4 hone
      simp [hr]
  obtain ⟨l1, hl1, bl1, C⟩ : ∃ l1, dOk f l1 ∧ l1.natAbs < 2 ^ 70 ∧ ex (prN gn.G tbl (k + 9)) (.asg (.nm 5) (.ite (tst 5) (.con (.int 1)) (.var 5))) [s, some (.cell 0), some (.int f), y3, y4, some (.int l), some (.int n), some (.int d1), some (.int m), y9, y10] [r4] =
      .nx [s, some (.cell 0), some (.int f), y3, y4, some (.int l1), some (.int n), some (.int d1), some (.int m), y9, y10] [r4] := by
    obtain ⟨c, e, ht, hn⟩ := tst_ok (p := prN gn.G tbl (k + 9)) (i := 5) (env := [s, some (.cell 0), some (.int f), y3, y4, some (.int l), some (.int n), some (.int d1), some (.int m), y9, y10]) (st := [r4]) hf rfl rfl
    cases c with
    | false =>
      refine ⟨l, ht rfl, b4, ?_⟩
      clear b1 b2 b3 b4 hone bd1
      generalize tst 5 = T at *
      simp [e]
    | true =>
      refine ⟨1, dOk_one hf, hone, ?_⟩
      clear b1 b2 b3 b4 hone bd1
      generalize tst 5 = T at *
      simp [e]
  obtain ⟨z9, z10, F⟩ := rest_ok (k := k) (s := s) (y3 := y3) (y4 := y4) (y9 := y9) (y10 := y10) (r := r4) hf hd1 hl1 b1 bd1 b3 bl1
  refine ⟨r4, some (.int l1), some (.int n), some (.int d1), some (.int m), z9, z10, ?_, R4⟩
  show ex (prN gn.G tbl (k + 9)) (.seq (.asg (.tup [6, 7, 8, 5]) (.tup (.cons (.call 18 (.cons (.var 1) .nil)) (.cons (.call 18 (.cons (.var 1) .nil)) (.cons (.call 18 (.cons (.var 1) .nil)) (.cons (.call 18 (.cons (.var 1) .nil)) .nil))))))
    (.seq (.ifs (tst 7) (.seq (.ifs (.not (.call 20 (.cons (.con (.int 0)) (.cons (.var 2) (.cons (.var 6) (.cons (.var 7) .nil)))))) (.seq (.ret (.con (.bl false))) .skip) (.skip)) (.seq (.asg (.nm 7) (.con (.int 1))) .skip)) (.skip))
    (.seq (.asg (.nm 5) (.ite (tst 5) (.con (.int 1)) (.var 5))) r_law_2))) _ _ = _
  rw [x_seq, A, sqn_nx, x_seq, B, sqn_nx, x_seq, C, sqn_nx, F]
theorem law_holds (ns : List Int) (h : ns.length ≤ 63) : callN gn.G tbl 12 i_law [.frl (ns.map D.int)] [] = .ok (.bl true) [] := by
  have hr0 : RowC ns (rowC ns 0 4100 0) := ⟨0, 4100, 0, rfl, by decide, by decide, by decide⟩
  obtain ⟨v, r1, h1, R1, hv⟩ := pick_ok 9 (s := []) (ds := [.int 0, .int 0, .int 2, .int 3, .int 5, .int 7, .int 11, .int 13, .int 17, .int 19, .int 23, .int 29, .int 31]) hr0 (by decide) (by decide) (fun d hd => by
    simp at hd
    rcases hd with rfl | rfl | rfl | rfl | rfl | rfl | rfl | rfl | rfl | rfl | rfl | rfl <;> rfl)
  obtain ⟨f, rfl, hf⟩ : ∃ f, v = .int f ∧ isF f := by
    simp at hv
    rcases hv with rfl | rfl | rfl | rfl | rfl | rfl | rfl | rfl | rfl | rfl | rfl | rfl <;> exact ⟨_, rfl, by unfold isF; omega⟩
  obtain ⟨S, hS⟩ : ∃ S, S = D.frl (ns.map D.int) := ⟨_, rfl⟩
  obtain ⟨e', st', hfl, ⟨r2, y3, y5, y6, y7, y8, y9, y10, q1, q2, R2⟩⟩ := forL_nx (src := none) (g := tg (.nm 3)) (b := ex (prN gn.G tbl 11) w_law_3) (xs := (List.range 3).map fun i : Nat => D.int ((i : Nat) : Int))
    (fun i env st => ∃ r y3 y5 y6 y7 y8 y9 y10, env = [some S, some (.cell 0), some (.int f), y3, none, y5, y6, y7, y8, y9, y10] ∧ st = [r] ∧ RowC ns r)
    (fun i x env st hx ⟨r, y3, y5, y6, y7, y8, y9, y10, e1, e2, R⟩ => by
      subst e1 e2
      obtain ⟨r', z5, z6, z7, z8, z9, z10, ht, R'⟩ := turn_ok (k := 2) (s := some S) (y3 := some x) (y4 := none) (y5 := y5) (y6 := y6) (y7 := y7) (y8 := y8) (y9 := y9) (y10 := y10) hf R
      exact ⟨_, rfl, _, _, .inl ht, trivial, r', some x, z5, z6, z7, z8, z9, z10, rfl, rfl, R'⟩)
    [some S, some (.cell 0), some (.int f), none, none, none, none, none, none, none, none] [r1] ⟨r1, none, none, none, none, none, none, none, rfl, rfl, R1⟩
  subst q1 q2
  obtain ⟨t, r3, h3, R3, t0, t1⟩ := tk 10 (s := []) R2 (m := 100) (by decide) (by decide)
  have hfar := far_ok (k := 6) (st := [r3]) t0 t1
  have hal : callN gn.G tbl 11 i_law_alike [.tup [.int (tenP 199 + 7 * t), .int 1], .tup [.int (tenP 199 + 7 * t), .int 1]] [r3] = .ok (.bl true) [r3] := alike_ints 9 [tenP 199 + 7 * t, 1] [r3] (by show 2 ≤ 1000; decide)
  have m7 : mulOk 7 t := .inl (.inr (by omega))
  have k1 := refused1 (k := 2) (n := 1) (d := 1) (st := [r3]) hf
  have k0 := refused0 (k := 3) (n := 1) (d := 0) (st := [r3]) hf (fun z => z.1 rfl)
  have hr3 := rngD_n (n := 3) (by decide)
  have hr3 : rngD [.int 3] = some ((List.range 3).map fun i : Nat => D.int ((i : Nat) : Int), none) := hr3
  have e0 : Bi.g .int ([] : Store) [.int 1] = some (.val (.int 1)) := rfl
  rw [c_law]
  simp only [b_law, startE]
  subst hS
  have h1' : callN gn.G tbl 11 17 [.cell 0, .lst [.int 0, .int 0, .int 2, .int 3, .int 5, .int 7, .int 11, .int 13, .int 17, .int 19, .int 23, .int 29, .int 31]] [.lst [.frl (ns.map D.int), .int 0, .int 4100, .int 0]] = .ok (.int f) [r1] := h1
  have s13 : small [D.int 0, .int 0, .int 2, .int 3, .int 5, .int 7, .int 11, .int 13, .int 17, .int 19, .int 23, .int 29, .int 31] = true := small_of (by show 13 ≤ 1000; decide)
  generalize (List.range 3).map (fun i : Nat => D.int ((i : Nat) : Int)) = RR at *
  by_cases hz : f = 0
  · subst hz
    simp [s13, h1', hr3, hfl, r_law_0, h3, p50, p49, p150, p199, o_mul m7, hfar, hal, k1, k0]
    exact leave_blA (st0 := []) (t := [r3])
  · simp [s13, h1', hr3, hfl, r_law_0, h3, p50, p49, p150, p199, o_mul m7, hz, k1, k0]
    exact leave_blA (st0 := []) (t := [r3])
end Lw_k00
open PySem PySem.W PyProof.Rows L2 L2.PyD
set_option maxHeartbeats 0 in
theorem PySem.Challenge.cw_idealcore_k00_numbers_holds : PySem.Challenge.rw_idealcore_k00_numbers.Holds := by
  w_on; o_law; k_head; (case hw => w_witness2)
  k_fill
  refine' L2.PyD.walk_ofL (l := PySem.Challenge.rw_idealcore_k00_numbers) (n := 63) (k := 15) (x := "script") (CX := fun w => L2.CX PySem.Challenge.pw_idealcore_k00_numbers w) (lx := [("_law_refused", ?zc0, ?zp0)]) rfl (by decide) rfl ⟨rfl, by decide, by decide⟩ (fun w h Y => (by first | exact PySem.W.kIn_of Y | exact PySem.W.km_in_of Y)) ?hrec ?hat ?F (fun w H s e s' h => cx_no h)
  case hat =>
    intro w
    refine' ⟨?zt0, trivial⟩
    (case zt0 => refine' tabIn_mk ?a ?b ?c ?d ?e; (case a => k_is); (case b => k_is); (case c => exact rfl); (case d => k_is); (case e => exact rfl))
  case hrec => decide +kernel
  case F =>
    intro w mg fa h Y KX G hmg hT hC
    refine' law_F (g := Lw_k00.gn) (tbl := Lw_k00.tbl) (sts := Lw_k00.sts) (i := Lw_k00.i_law) KX G ⟨⟨?zd0, ?zd1, ?zd2, ?zd3, ?zd4, ?zd5, ?zd6, ?zd7, ?zd8, ?zd9, ?zd10, ?zd11, ?zd12, ?zd13, ?zd14, ?zd15, ?zd16, ?zd17, ?zd18, ?zd19, ?zd20, ?zd21, ?zd22, ?zd23, ?zd24, trivial⟩, rfl, ⟨?zg0, ?zg1, trivial⟩, ⟨?zb0, ?zb1, ?zb2, ?zb3, ?zb4, ?zb5, ?zb6, ?zb7, ?zb8, trivial⟩, ⟨?zi0, trivial⟩, ⟨?zx0, ?zx1, ?zx2, ?zx3, trivial⟩⟩ ⟨?ln, ?la, ?ld, ?lo⟩ Lw_k00.tbl_ok rfl rfl hmg Lw_k00.law_holds hT hC
    (case zd0 => refine' defIn_mk ?a ?l ?c ?k ?b; (case a => k_is); (case l => k_is); (case c => k_is); (case k => k_is); (case b => exact fun _ _ _ _ _ _ us hl => match us, hl with | [_], _ => rfl))
    (case zd1 => refine' defIn_mk ?a ?l ?c ?k ?b; (case a => k_is); (case l => k_is); (case c => k_is); (case k => k_is); (case b => exact fun _ _ _ _ _ _ us hl => match us, hl with | [_, _, _], _ => rfl))
    (case zd2 => refine' defIn_mk ?a ?l ?c ?k ?b; (case a => k_is); (case l => k_is); (case c => k_is); (case k => k_is); (case b => exact fun _ _ _ _ _ _ us hl => match us, hl with | [_], _ => rfl))
    (case zd3 => refine' defIn_mk ?a ?l ?c ?k ?b; (case a => k_is); (case l => k_is); (case c => k_is); (case k => k_is); (case b => exact fun _ _ _ _ _ _ us hl => match us, hl with | [_], _ => rfl))
    (case zd4 => refine' defIn_mk ?a ?l ?c ?k ?b; (case a => k_is); (case l => k_is); (case c => k_is); (case k => k_is); (case b => exact fun _ _ _ _ _ _ us hl => match us, hl with | [_, _], _ => rfl))
    (case zd5 => refine' defIn_mk ?a ?l ?c ?k ?b; (case a => k_is); (case l => k_is); (case c => k_is); (case k => k_is); (case b => exact fun _ _ _ _ _ _ us hl => match us, hl with | [_, _], _ => rfl))
    (case zd6 => refine' defIn_mk ?a ?l ?c ?k ?b; (case a => k_is); (case l => k_is); (case c => k_is); (case k => k_is); (case b => exact fun _ _ _ _ _ _ us hl => match us, hl with | [_, _, _], _ => rfl))
    (case zd7 => refine' defIn_mk ?a ?l ?c ?k ?b; (case a => k_is); (case l => k_is); (case c => k_is); (case k => k_is); (case b => exact fun _ _ _ _ _ _ us hl => match us, hl with | [_, _], _ => rfl))
    (case zd8 => refine' defIn_mk ?a ?l ?c ?k ?b; (case a => k_is); (case l => k_is); (case c => k_is); (case k => k_is); (case b => exact fun _ _ _ _ _ _ us hl => match us, hl with | [_, _], _ => rfl))
    (case zd9 => refine' defIn_mk ?a ?l ?c ?k ?b; (case a => k_is); (case l => k_is); (case c => k_is); (case k => k_is); (case b => exact fun _ _ _ _ _ _ us hl => match us, hl with | [_, _, _], _ => rfl))
    (case zd10 => refine' defIn_mk ?a ?l ?c ?k ?b; (case a => k_is); (case l => k_is); (case c => k_is); (case k => k_is); (case b => exact fun _ _ _ _ _ _ us hl => match us, hl with | [_, _, _], _ => rfl))
    (case zd11 => refine' defIn_mk ?a ?l ?c ?k ?b; (case a => k_is); (case l => k_is); (case c => k_is); (case k => k_is); (case b => exact fun _ _ _ _ _ _ us hl => match us, hl with | [_, _], _ => rfl))
    (case zd12 => refine' defIn_mk ?a ?l ?c ?k ?b; (case a => k_is); (case l => k_is); (case c => k_is); (case k => k_is); (case b => exact fun _ _ _ _ _ _ us hl => match us, hl with | [_, _, _], _ => rfl))
    (case zd13 => refine' defIn_mk ?a ?l ?c ?k ?b; (case a => k_is); (case l => k_is); (case c => k_is); (case k => k_is); (case b => exact fun _ _ _ _ _ _ us hl => match us, hl with | [_, _, _], _ => rfl))
    (case zd14 => refine' defIn_mk ?a ?l ?c ?k ?b; (case a => k_is); (case l => k_is); (case c => k_is); (case k => k_is); (case b => exact fun _ _ _ _ _ _ us hl => match us, hl with | [_, _, _], _ => rfl))
    (case zd15 => refine' defIn_mk ?a ?l ?c ?k ?b; (case a => k_is); (case l => k_is); (case c => k_is); (case k => k_is); (case b => exact fun _ _ _ _ _ _ us hl => match us, hl with | [_, _], _ => rfl))
    (case zd16 => refine' defIn_mk ?a ?l ?c ?k ?b; (case a => k_is); (case l => k_is); (case c => k_is); (case k => k_is); (case b => exact fun _ _ _ _ _ _ us hl => match us, hl with | [_, _], _ => rfl))
    (case zd17 => refine' defIn_mk ?a ?l ?c ?k ?b; (case a => k_is); (case l => k_is); (case c => k_is); (case k => k_is); (case b => exact fun _ _ _ _ _ _ us hl => match us, hl with | [_, _], _ => rfl))
    (case zd18 => refine' defIn_mk ?a ?l ?c ?k ?b; (case a => k_is); (case l => k_is); (case c => k_is); (case k => k_is); (case b => exact fun _ _ _ _ _ _ us hl => match us, hl with | [_], _ => rfl))
    (case zd19 => refine' defIn_mk ?a ?l ?c ?k ?b; (case a => k_is); (case l => k_is); (case c => k_is); (case k => k_is); (case b => exact fun _ _ _ _ _ _ us hl => match us, hl with | [_], _ => rfl))
    (case zd20 => refine' defIn_mk ?a ?l ?c ?k ?b; (case a => k_is); (case l => k_is); (case c => k_is); (case k => k_is); (case b => exact fun _ _ _ _ _ _ us hl => match us, hl with | [_, _, _, _], _ => rfl))
    (case zd21 => refine' defIn_mk ?a ?l ?c ?k ?b; (case a => k_is); (case l => k_is); (case c => k_is); (case k => k_is); (case b => exact fun _ _ _ _ _ _ us hl => match us, hl with | [_, _], _ => rfl))
    (case zd22 => refine' defIn_mk ?a ?l ?c ?k ?b; (case a => k_is); (case l => k_is); (case c => k_is); (case k => k_is); (case b => exact fun _ _ _ _ _ _ us hl => match us, hl with | [_, _], _ => rfl))
    (case zd23 => refine' defIn_mk ?a ?l ?c ?k ?b; (case a => k_is); (case l => k_is); (case c => k_is); (case k => k_is); (case b => exact fun _ _ _ _ _ _ us hl => match us, hl with | [_, _, _], _ => rfl))
    (case zd24 => refine' defIn_mk ?a ?l ?c ?k ?b; (case a => k_is); (case l => k_is); (case c => k_is); (case k => k_is); (case b => exact fun _ _ _ _ _ _ us hl => match us, hl with | [_], _ => rfl))
    (case zg0 => refine' glIn_tup (q := (_, _)) ?a ?b ?c ?d; (case a => k_is); (case b => k_is); (case c => exact rfl); (case d => decide))
    (case zg1 => refine' glIn_int ?a; (case a => k_is))
    (case zb0 => refine' BltIn.mk ?a; (case a => k_is))
    (case zb1 => refine' BltIn.mk ?a; (case a => k_is))
    (case zb2 => refine' BltIn.mk ?a; (case a => k_is))
    (case zb3 => refine' BltIn.mk ?a; (case a => k_is))
    (case zb4 => refine' BltIn.mk ?a; (case a => k_is))
    (case zb5 => refine' BltIn.mk ?a; (case a => k_is))
    (case zb6 => refine' BltIn.mk ?a; (case a => k_is))
    (case zb7 => refine' BltIn.mk ?a; (case a => k_is))
    (case zb8 => refine' BltIn.mk ?a; (case a => k_is))
    (case zi0 => refine' ImpIn.mk ?a; (case a => k_is))
    (case zx0 => refine' exIn_mk ?xna ?xnb ?xnc ?xnd ?xne ?xnf ?xng; (case xna => k_is); (case xnb => k_exc); (case xnc => k_is); (case xnd => k_is); (case xne => k_is); (case xnf => k_is); (case xng => first | rfl | k_is))
    (case zx1 => refine' exIn_mk ?xna ?xnb ?xnc ?xnd ?xne ?xnf ?xng; (case xna => k_is); (case xnb => k_exc); (case xnc => k_is); (case xnd => k_is); (case xne => k_is); (case xnf => k_is); (case xng => first | rfl | k_is))
    (case zx2 => refine' exIn_mk ?xna ?xnb ?xnc ?xnd ?xne ?xnf ?xng; (case xna => k_is); (case xnb => k_exc); (case xnc => k_is); (case xnd => k_is); (case xne => k_is); (case xnf => k_is); (case xng => first | rfl | k_is))
    (case zx3 => refine' exIn_mk ?xna ?xnb ?xnc ?xnd ?xne ?xnf ?xng; (case xna => k_is); (case xnb => k_exc); (case xnc => k_is); (case xnd => k_is); (case xne => k_is); (case xnf => k_is); (case xng => first | rfl | k_is))
    (case ln => exact rfl)
    (case la => refine' ⟨?zu0, trivial⟩; (case zu0 => refine' tabIn_mk ?a ?b ?c ?d ?e; (case a => k_is); (case b => k_is); (case c => exact rfl); (case d => k_is); (case e => exact rfl)))
    (case ld => exact rfl)
    (case lo => exact ⟨rfl, trivial⟩)
