import PyProof.Rows.All
import Wide.All
import OpenK.AllK
import Wide.FinOn
import HandS.ForMost
import HandS.ForExc
import HandS.IsInst
import HandS.Gcd
import HandS.Wide
import HandS.TupAny
import HandS.TupMul
import HandS.Deep
import HandS.TupLen
import HandS.Zip
import HandS.Style
import HandS.DictComp
import HandS.Lambda
import HandS.SortKw
import KE.KMathGC
import PySem.Challenge.RW_idealcore_k56_expansions_and_growth
set_option Elab.async false
set_option linter.all false
set_option maxRecDepth 100000
set_option maxHeartbeats 8000000
/-! PyD, part 1: data without a heap (D), cells that change, and how both lie in the layer's heap. -/
namespace L2.PyD
open PySem PySem.Spec PyProof.Rows

/-- a value: data that never changes, or the number of a cell that may -/
inductive D where
  | non | bl (b : Bool) | int (i : Int) | str (s : Str)
  | tup (ds : List D) | lst (ds : List D) | frl (ds : List D)
  | cell (n : Nat) | ty (n : String)

/-- what a cell holds: a list that may change; a dict with keys that are tuples -/
inductive Cell where
  | lst (ds : List D)
  | dct (kvs : List (List Key × D))

abbrev Store := List Cell
abbrev Env := List (Option D)

/-- a list that no one writes: the script, a list of the written part -/
def FixL (K : PySem.W.Frag) (H : Hp) (p : Addr) (xs : List V) : Prop :=
  (∃ o, H p = some (.frz o (.lst xs))) ∨ ∀ H', SqL K H' p xs

mutual
/-- how data stands for a value of the layer; as: the cells' addresses -/
inductive Rp (K : PySem.W.Frag) (as : List Addr) (H : Hp) : V → D → Prop
  | non : Rp K as H .non .non
  | bl (b : Bool) : Rp K as H (.bl b) (.bl b)
  | int (i : Int) : Rp K as H (.int i) (.int i)
  | str (s : Str) : Rp K as H (.str s) (.str s)
  | ty (n : String) : Rp K as H (.ty n) (.ty n)
  | tup {p : Addr} {xs : List V} {ds : List D} : SqT K H p xs → xs.length ≤ sizeLine → RpL K as H xs ds → Rp K as H (.ref p) (.tup ds)
  | lst {p : Addr} {xs : List V} {ds : List D} : H p = some (.lst xs) → p ∉ as → xs.length ≤ sizeLine → RpL K as H xs ds → Rp K as H (.ref p) (.lst ds)
  | frl {p : Addr} {xs : List V} {ds : List D} : FixL K H p xs → xs.length ≤ sizeLine → RpL K as H xs ds → Rp K as H (.ref p) (.frl ds)
  | cell {i : Nat} {p : Addr} : as[i]? = some p → Rp K as H (.ref p) (.cell i)
inductive RpL (K : PySem.W.Frag) (as : List Addr) (H : Hp) : List V → List D → Prop
  | nil : RpL K as H [] []
  | cons {v : V} {vs : List V} {d : D} {ds : List D} : Rp K as H v d → RpL K as H vs ds → RpL K as H (v :: vs) (d :: ds)
end

/-- what no one writes -/
def Fix : HO → Prop
  | .tup _ => True
  | .frz _ _ => True
  | _ => False

/-- the heap goes on: cells may change, new ones may come, all else stays -/
structure Ext (as : List Addr) (H : Hp) (as' : List Addr) (H' : Hp) : Prop where
  pre : ∃ bs, as' = as ++ bs
  keep : ∀ p o, H p = some o → (p ∉ as ∨ Fix o) → H' p = some o
  new : ∀ p o, H p = some o → p ∉ as → p ∉ as'

theorem Ext.refl (as : List Addr) (H : Hp) : Ext as H as H := ⟨⟨[], by simp⟩, fun _ _ h _ => h, fun _ _ _ h => h⟩
theorem Ext.trans {as as1 as2 : List Addr} {H H1 H2 : Hp} (a : Ext as H as1 H1) (b : Ext as1 H1 as2 H2) : Ext as H as2 H2 := by
  obtain ⟨bs, e1⟩ := a.pre
  obtain ⟨cs, e2⟩ := b.pre
  refine ⟨⟨bs ++ cs, by rw [e2, e1, List.append_assoc]⟩, fun p o h c => ?_, fun p o h c => ?_⟩
  · refine b.keep p o (a.keep p o h c) ?_
    rcases c with c | c
    · exact .inl (a.new p o h c)
    · exact .inr c
  · exact b.new p o (a.keep p o h (.inl c)) (a.new p o h c)
theorem Ext.get {as as' : List Addr} {H H' : Hp} (x : Ext as H as' H') {i : Nat} {p : Addr} (h : as[i]? = some p) : as'[i]? = some p := by
  obtain ⟨bs, rfl⟩ := x.pre
  rw [List.getElem?_append_left (List.getElem?_eq_some_iff.mp h).1, h]

theorem Rd.ext {as as' : List Addr} {H H' : Hp} {p : Addr} {u : HO} (x : Ext as H as' H') (h : Rd H p u) (c : p ∉ as ∨ Fix u) : Rd H' p u := by
  rcases h with h | ⟨o, h⟩
  · exact .inl (x.keep _ _ h c)
  · exact .inr ⟨o, x.keep _ _ h (.inr trivial)⟩
theorem SqT.ext {K : PySem.W.Frag} {as as' : List Addr} {H H' : Hp} {p : Addr} {xs : List V} (x : Ext as H as' H') (h : SqT K H p xs) : SqT K H' p xs := by
  rcases h with h | h
  · exact .inl (Rd.ext x h (.inr trivial))
  · exact .inr h
theorem FixL.ext {K : PySem.W.Frag} {as as' : List Addr} {H H' : Hp} {p : Addr} {xs : List V} (x : Ext as H as' H') (h : FixL K H p xs) : FixL K H' p xs := by
  rcases h with ⟨o, h⟩ | h
  · exact .inl ⟨o, x.keep _ _ h (.inr trivial)⟩
  · exact .inr h
theorem FixL.seq {K : PySem.W.Frag} {H : Hp} {p : Addr} {xs : List V} (h : FixL K H p xs) : SqL K H p xs := by
  rcases h with ⟨o, h⟩ | h
  · exact .inl (.inr ⟨o, h⟩)
  · exact h H
theorem Rd.has {H : Hp} {p : Addr} {u : HO} (h : Rd H p u) : ∃ o, H p = some o := by
  rcases h with h | ⟨o, h⟩
  · exact ⟨_, h⟩
  · exact ⟨_, h⟩

mutual
theorem Rp.ext {K : PySem.W.Frag} {as as' : List Addr} {H H' : Hp} (x : Ext as H as' H') : ∀ {v : V} {d : D}, Rp K as H v d → Rp K as' H' v d
  | _, _, .non => .non
  | _, _, .bl b => .bl b
  | _, _, .int i => .int i
  | _, _, .str s => .str s
  | _, _, .ty n => .ty n
  | _, _, .tup h z r => .tup (SqT.ext x h) z (RpL.ext x r)
  | _, _, .lst h c z r => .lst (x.keep _ _ h (.inl c)) (x.new _ _ h c) z (RpL.ext x r)
  | _, _, .frl h z r => .frl (FixL.ext x h) z (RpL.ext x r)
  | _, _, .cell h => .cell (x.get h)
theorem RpL.ext {K : PySem.W.Frag} {as as' : List Addr} {H H' : Hp} (x : Ext as H as' H') : ∀ {vs : List V} {ds : List D}, RpL K as H vs ds → RpL K as' H' vs ds
  | _, _, .nil => .nil
  | _, _, .cons h r => .cons (Rp.ext x h) (RpL.ext x r)
end

section
variable {K : PySem.W.Frag} {as : List Addr} {H : Hp}
theorem RpL.length : ∀ {vs : List V} {ds : List D}, RpL K as H vs ds → vs.length = ds.length
  | _, _, .nil => rfl
  | _, _, .cons _ r => by rw [List.length_cons, List.length_cons, RpL.length r]
theorem RpL.get : ∀ {vs : List V} {ds : List D} {i : Nat} {d : D}, RpL K as H vs ds → ds[i]? = some d → ∃ v, vs[i]? = some v ∧ Rp K as H v d
  | _, _, _, _, .nil, e => by simp at e
  | _, _, 0, _, .cons h _, e => by simp at e; subst e; exact ⟨_, rfl, h⟩
  | _, _, i + 1, d, .cons _ r, e => by
    obtain ⟨v, h1, h2⟩ := RpL.get (i := i) (d := d) r (by simpa using e)
    exact ⟨v, by simpa using h1, h2⟩
theorem RpL.append : ∀ {vs ws : List V} {ds es : List D}, RpL K as H vs ds → RpL K as H ws es → RpL K as H (vs ++ ws) (ds ++ es)
  | _, _, _, _, .nil, s => s
  | _, _, _, _, .cons h r, s => .cons h (RpL.append r s)
theorem RpL.set {v : V} {d : D} (h : Rp K as H v d) : ∀ {vs : List V} {ds : List D} (i : Nat), RpL K as H vs ds → RpL K as H (vs.set i v) (ds.set i d)
  | _, _, _, .nil => .nil
  | _, _, 0, .cons _ r => .cons h r
  | _, _, i + 1, .cons q r => .cons q (RpL.set h i r)
theorem RpL.take : ∀ {vs : List V} {ds : List D} (n : Nat), RpL K as H vs ds → RpL K as H (vs.take n) (ds.take n)
  | _, _, 0, _ => .nil
  | _, _, _ + 1, .nil => .nil
  | _, _, n + 1, .cons h r => .cons h (RpL.take n r)
theorem RpL.drop : ∀ {vs : List V} {ds : List D} (n : Nat), RpL K as H vs ds → RpL K as H (vs.drop n) (ds.drop n)
  | _, _, 0, r => r
  | _, _, _ + 1, .nil => .nil
  | _, _, n + 1, .cons _ r => RpL.drop n r
theorem RpL.one {v : V} {d : D} (h : Rp K as H v d) : RpL K as H [v] [d] := .cons h .nil
theorem RpL.ints : ∀ ns : List Int, RpL K as H (ns.map V.int) (ns.map D.int)
  | [] => .nil
  | n :: ns => .cons (.int n) (RpL.ints ns)
end

/-- a cell lies at p -/
def CellR (K : PySem.W.Frag) (as : List Addr) (H : Hp) (p : Addr) : Cell → Prop
  | .lst ds => ∃ xs, H p = some (.lst xs) ∧ xs.length ≤ sizeLine ∧ RpL K as H xs ds
  | .dct kvs => ∃ ws, H p = some (.dT ws) ∧ Paired (fun (a : List Key × V) (b : List Key × D) => a.1 = b.1 ∧ Rp K as H a.2 b.2) ws kvs
/-- the cells lie apart at their addresses -/
structure StR (K : PySem.W.Frag) (as : List Addr) (H : Hp) (st : Store) : Prop where
  len : as.length = st.length
  nd : as.Nodup
  at_ : ∀ (i : Nat) (p : Addr) (c : Cell), as[i]? = some p → st[i]? = some c → CellR K as H p c
/-- the names' values -/
structure EnvR (K : PySem.W.Frag) (as : List Addr) (H : Hp) (σ : St) (env : Env) : Prop where
  len : σ.length = env.length
  at_ : ∀ (i : Nat) (d : D), env[i]? = some (some d) → ∃ v, σ[i]? = some (some v) ∧ Rp K as H v d

theorem EnvR.ext {K : PySem.W.Frag} {as as' : List Addr} {H H' : Hp} {σ : St} {env : Env} (x : Ext as H as' H') (r : EnvR K as H σ env) : EnvR K as' H' σ env :=
  ⟨r.len, fun i d e => by obtain ⟨v, h1, h2⟩ := r.at_ i d e; exact ⟨v, h1, Rp.ext x h2⟩⟩
theorem EnvR.set {K : PySem.W.Frag} {as : List Addr} {H : Hp} {σ : St} {env : Env} {v : V} {d : D} (r : EnvR K as H σ env) (h : Rp K as H v d) (i : Nat) : EnvR K as H (σ.set i (some v)) (env.set i (some d)) := by
  refine ⟨by simp [r.len], fun j e q => ?_⟩
  by_cases hj : i = j
  · subst hj
    by_cases hl : i < env.length
    · rw [List.getElem?_set_self hl] at q
      cases q
      exact ⟨v, List.getElem?_set_self (by rw [r.len]; exact hl), h⟩
    · rw [List.getElem?_eq_none (by simpa using hl)] at q; cases q
  · rw [List.getElem?_set_ne hj] at q
    obtain ⟨w, h1, h2⟩ := r.at_ j e q
    exact ⟨w, by rw [List.getElem?_set_ne hj]; exact h1, h2⟩
theorem Paired.imp {α β : Type} {F G : α → β → Prop} : ∀ {xs : List α} {ys : List β}, Paired F xs ys → (∀ a b, F a b → G a b) → Paired G xs ys
  | _, _, .nil, _ => .nil
  | _, _, .cons h r, f => .cons (f _ _ h) (Paired.imp r f)
theorem CellR.ext {K : PySem.W.Frag} {as as' : List Addr} {H H' : Hp} {p : Addr} (x : Ext as H as' H') (e : H' p = H p) : ∀ {c : Cell}, CellR K as H p c → CellR K as' H' p c
  | .lst _, ⟨xs, h, z, r⟩ => ⟨xs, by rw [e]; exact h, z, RpL.ext x r⟩
  | .dct _, ⟨ws, h, r⟩ => ⟨ws, by rw [e]; exact h, Paired.imp r fun _ _ z => ⟨z.1, Rp.ext x z.2⟩⟩
theorem CellR.mut {K : PySem.W.Frag} {as : List Addr} {H : Hp} {p : Addr} {o : HO} : ∀ {c : Cell}, CellR K as H p c → H p = some o → ¬ Fix o
  | .lst _, ⟨xs, h, _⟩, e, f => by rw [h] at e; cases e; exact f
  | .dct _, ⟨ws, h, _⟩, e, f => by rw [h] at e; cases e; exact f
theorem CellR.has {K : PySem.W.Frag} {as : List Addr} {H : Hp} {p : Addr} : ∀ {c : Cell}, CellR K as H p c → ∃ o, H p = some o
  | .lst _, ⟨xs, h, _⟩ => ⟨_, h⟩
  | .dct _, ⟨ws, h, _⟩ => ⟨_, h⟩
section
variable {K : PySem.W.Frag} {as : List Addr} {H : Hp} {st : Store}
theorem StR.cellOf (S : StR K as H st) {p : Addr} (h : p ∈ as) : ∃ c, CellR K as H p c := by
  obtain ⟨i, hi, e⟩ := List.getElem_of_mem h
  have hs : i < st.length := by rw [← S.len]; exact hi
  exact ⟨st[i], S.at_ i p st[i] (by rw [List.getElem?_eq_getElem hi, e]) (List.getElem?_eq_getElem hs)⟩
theorem StR.free (S : StR K as H st) {p : Addr} (h : H p = none) : p ∉ as := fun m => by
  obtain ⟨c, hc⟩ := S.cellOf m
  obtain ⟨o, e⟩ := hc.has
  rw [h] at e; cases e
theorem StR.fix (S : StR K as H st) {p : Addr} {o : HO} (h : H p = some o) (f : Fix o) : p ∉ as := fun m => by
  obtain ⟨c, hc⟩ := S.cellOf m
  exact hc.mut h f
/-- a new object that is no cell -/
theorem StR.alloc (S : StR K as H st) {p : Addr} (o : HO) (h : H p = none) : Ext as H as (upd H p o) ∧ StR K as (upd H p o) st := by
  have x : Ext as H as (upd H p o) := ⟨⟨[], by simp⟩, fun q u e _ => by rw [upd_ne (ne_of_none e h)]; exact e, fun _ _ _ c => c⟩
  refine ⟨x, S.len, S.nd, fun i q c e1 e2 => ?_⟩
  have z := S.at_ i q c e1 e2
  obtain ⟨u, hu⟩ := z.has
  exact z.ext x (by rw [upd_ne (ne_of_none hu h)])
/-- a new object that is a cell -/
theorem StR.newCell (S : StR K as H st) {p : Addr} {o : HO} {c : Cell} (h : H p = none) (hc : Ext as H (as ++ [p]) (upd H p o) → CellR K (as ++ [p]) (upd H p o) p c) : Ext as H (as ++ [p]) (upd H p o) ∧ StR K (as ++ [p]) (upd H p o) (st ++ [c]) ∧ (as ++ [p])[st.length]? = some p := by
  have x : Ext as H (as ++ [p]) (upd H p o) := by
    refine ⟨⟨[p], rfl⟩, fun q u e _ => by rw [upd_ne (ne_of_none e h)]; exact e, fun q u e k m => ?_⟩
    rcases List.mem_append.mp m with m | m
    · exact k m
    · exact ne_of_none e h (by simpa using m)
  have l : (as ++ [p])[st.length]? = some p := by rw [← S.len, List.getElem?_append_right (Nat.le_refl _)]; simp
  refine ⟨x, ⟨by simp [S.len], ?_, fun i q c' e1 e2 => ?_⟩, l⟩
  · rw [List.nodup_append]
    refine ⟨S.nd, by simp, fun a ha b hb e => ?_⟩
    have : b = p := by simpa using hb
    rw [e, this] at ha
    exact S.free h ha
  · by_cases hi : i < as.length
    · rw [List.getElem?_append_left hi] at e1
      rw [List.getElem?_append_left (by rw [← S.len]; exact hi)] at e2
      have z := S.at_ i q c' e1 e2
      obtain ⟨u, hu⟩ := z.has
      exact z.ext x (by rw [upd_ne (ne_of_none hu h)])
    · have hi2 : i = st.length := by
        have := (List.getElem?_eq_some_iff.mp e1).1
        simp only [List.length_append, List.length_singleton, S.len] at this
        rw [S.len] at hi
        omega
      subst hi2
      rw [l] at e1
      cases e1
      rw [List.getElem?_append_right (Nat.le_refl _)] at e2
      simp at e2
      subst e2
      exact hc x
/-- a cell changes -/
theorem StR.write (S : StR K as H st) {i : Nat} {p : Addr} {o : HO} {c : Cell} (h : as[i]? = some p) (hc : Ext as H as (upd H p o) → CellR K as (upd H p o) p c) : Ext as H as (upd H p o) ∧ StR K as (upd H p o) (st.set i c) := by
  have hm : p ∈ as := List.mem_of_getElem? h
  have x : Ext as H as (upd H p o) := by
    refine ⟨⟨[], by simp⟩, fun q u e k => ?_, fun q u e k => k⟩
    have : q ≠ p := fun z => by
      subst z
      rcases k with k | k
      · exact k hm
      · exact S.fix e k hm
    rw [upd_ne this]; exact e
  refine ⟨x, by simp [S.len], S.nd, fun j q c' e1 e2 => ?_⟩
  by_cases hj : i = j
  · subst hj
    rw [h] at e1; cases e1
    have hl : i < st.length := by rw [← S.len]; exact (List.getElem?_eq_some_iff.mp h).1
    rw [List.getElem?_set_self hl] at e2
    cases e2
    exact hc x
  · rw [List.getElem?_set_ne hj] at e2
    refine (S.at_ j q c' e1 e2).ext x (upd_ne fun z => hj ?_)
    subst z
    obtain ⟨h1, g1⟩ := List.getElem?_eq_some_iff.mp h
    obtain ⟨h2, g2⟩ := List.getElem?_eq_some_iff.mp e1
    exact (List.getElem_inj S.nd).mp (g1.trans g2.symm)
theorem StR.get (S : StR K as H st) {i : Nat} {c : Cell} (h : st[i]? = some c) : ∃ p, as[i]? = some p ∧ CellR K as H p c := by
  have hl : i < as.length := by rw [S.len]; exact (List.getElem?_eq_some_iff.mp h).1
  exact ⟨as[i], List.getElem?_eq_getElem hl, S.at_ i _ c (List.getElem?_eq_getElem hl) h⟩
theorem StR.get' (S : StR K as H st) {i : Nat} {p : Addr} (h : as[i]? = some p) : ∃ c, st[i]? = some c ∧ CellR K as H p c := by
  have hl : i < st.length := by rw [← S.len]; exact (List.getElem?_eq_some_iff.mp h).1
  exact ⟨st[i], List.getElem?_eq_getElem hl, S.at_ i p _ h (List.getElem?_eq_getElem hl)⟩
end
end L2.PyD
/-! PyD, part 2: what a piece of a program does to data (denotations), and how the layer's readings follow from it. -/
namespace L2.PyD
open PySem PySem.Spec PyProof.Rows
noncomputable section

/-- an expression's outcome: a value, an error with its fields, or nothing known -/
inductive Out (α : Type) where
  | ok (a : α) (st : Store)
  | exc (x : Str) (fs : List (Str × D)) (st : Store)
  | bad
def Out.bind {α β : Type} (o : Out α) (f : α → Store → Out β) : Out β :=
  match o with
  | .ok a st => f a st
  | .exc x fs st => .exc x fs st
  | .bad => .bad
def Out.wp {α : Type} (o : Out α) (P : α → Store → Prop) (E : Str → List (Str × D) → Store → Prop) : Prop :=
  match o with
  | .ok a st => P a st
  | .exc x fs st => E x fs st
  | .bad => False
theorem Out.wp_bind {α β : Type} {o : Out α} {f : α → Store → Out β} {P : β → Store → Prop} {E : Str → List (Str × D) → Store → Prop} (h : (o.bind f).wp P E) : o.wp (fun a st => (f a st).wp P E) E := by
  cases o <;> exact h
theorem Out.wp_mono {α : Type} {o : Out α} {P P' : α → Store → Prop} {E E' : Str → List (Str × D) → Store → Prop} (h : o.wp P E) (hP : ∀ a st, o = .ok a st → P a st → P' a st) (hE : ∀ x fs st, E x fs st → E' x fs st) : o.wp P' E' := by
  cases o with
  | ok a st => exact hP a st rfl h
  | exc x fs st => exact hE x fs st h
  | bad => exact h

abbrev Den := Env → Store → Out D
abbrev DenB := Env → Store → Out Bool
abbrev DenA := Env → Store → Out (List D)

/-- an error as it lies in the heap: its class, its own dict -/
def ExcR (K : PySem.W.Frag) (mg : Str → Option Value) (as : List Addr) (H : Hp) (x : Str) (fs : List (Str × D)) (C : Value) (d : Option Addr) : Prop :=
  mg x = some C ∧ match fs with
    | [] => d = none
    | _ :: _ => ∃ dd ws, d = some dd ∧ H dd = some (.xd ws) ∧ Paired (fun (a : Str × V) (b : Str × D) => a.1 = b.1 ∧ Rp K as H a.2 b.2) ws fs

section
variable (K : PySem.W.Frag) (mg : Str → Option Value) (W : WX)
/-- what is wanted of an error that leaves -/
def WE (as : List Addr) (H : Hp) (σ : St) (x : Str) (fs : List (Str × D)) (st' : Store) : Prop :=
  ∀ as' H' C d, Ext as H as' H' → StR K as' H' st' → ExcR K mg as' H' x fs C d → W C d σ H'
/-- what is wanted of a value -/
def WV (as : List Addr) (H : Hp) (Q : VK) (r : D) (st' : Store) : Prop :=
  ∀ as' H' v, Ext as H as' H' → StR K as' H' st' → Rp K as' H' v r → Q v H'
def WB (as : List Addr) (H : Hp) (Q : Bool → Hp → Prop) (r : Bool) (st' : Store) : Prop :=
  ∀ as' H', Ext as H as' H' → StR K as' H' st' → Q r H'
def WA (as : List Addr) (H : Hp) (Q : List V → Hp → Prop) (r : List D) (st' : Store) : Prop :=
  ∀ as' H' vs, Ext as H as' H' → StR K as' H' st' → RpL K as' H' vs r → Q vs H'
/-- the readings of denotations -/
def RE (f : Den) : TE := fun σ H Q => ∃ as env st, EnvR K as H σ env ∧ StR K as H st ∧ (f env st).wp (WV K as H Q) (WE K mg W as H σ)
def RT (f : DenB) : TT := fun σ H Q => ∃ as env st, EnvR K as H σ env ∧ StR K as H st ∧ (f env st).wp (WB K as H Q) (WE K mg W as H σ)
def RA (f : DenA) : TA := fun σ H Q => ∃ as env st, EnvR K as H σ env ∧ StR K as H st ∧ (f env st).wp (WA K as H Q) (WE K mg W as H σ)
end

section
variable {K : PySem.W.Frag} {mg : Str → Option Value} {W : WX} {as as1 : List Addr} {H H1 : Hp} {σ : St} {st : Store}
theorem WE.ext (x : Ext as H as1 H1) {y : Str} {fs : List (Str × D)} {st' : Store} (h : WE K mg W as H σ y fs st') : WE K mg W as1 H1 σ y fs st' := fun as' H' C d e s r => h as' H' C d (x.trans e) s r
theorem WV.ext (x : Ext as H as1 H1) {Q : VK} {r : D} {st' : Store} (h : WV K as H Q r st') : WV K as1 H1 Q r st' := fun as' H' C e s r => h as' H' C (x.trans e) s r
theorem WB.ext (x : Ext as H as1 H1) {Q : Bool → Hp → Prop} {r : Bool} {st' : Store} (h : WB K as H Q r st') : WB K as1 H1 Q r st' := fun as' H' e s => h as' H' (x.trans e) s
theorem WA.ext (x : Ext as H as1 H1) {Q : List V → Hp → Prop} {r : List D} {st' : Store} (h : WA K as H Q r st') : WA K as1 H1 Q r st' := fun as' H' C e s r => h as' H' C (x.trans e) s r
end

/-- THE STEP: an expression, then the rest -/
theorem re_then {α : Type} {K : PySem.W.Frag} {mg : Str → Option Value} {W : WX} {as : List Addr} {env : Env} {H : Hp} {σ : St} {st : Store} {fa : Den} {k : D → Store → Out α} {P : α → Store → Prop} {Q : VK} (E : EnvR K as H σ env) (S : StR K as H st)
    (h : ((fa env st).bind k).wp P (WE K mg W as H σ))
    (hk : ∀ r st1 as1 H1 v, Ext as H as1 H1 → EnvR K as1 H1 σ env → StR K as1 H1 st1 → Rp K as1 H1 v r → (k r st1).wp P (WE K mg W as1 H1 σ) → Q v H1) : RE K mg W fa σ H Q :=
  ⟨as, env, st, E, S, Out.wp_mono (Out.wp_bind h) (fun r st1 _ h1 as1 H1 v x s rp => hk r st1 as1 H1 v x (E.ext x) s rp (Out.wp_mono h1 (fun _ _ _ z => z) fun _ _ _ z => z.ext x)) fun _ _ _ z => z⟩
theorem rt_then {α : Type} {K : PySem.W.Frag} {mg : Str → Option Value} {W : WX} {as : List Addr} {env : Env} {H : Hp} {σ : St} {st : Store} {fa : DenB} {k : Bool → Store → Out α} {P : α → Store → Prop} {Q : Bool → Hp → Prop} (E : EnvR K as H σ env) (S : StR K as H st)
    (h : ((fa env st).bind k).wp P (WE K mg W as H σ))
    (hk : ∀ r st1 as1 H1, Ext as H as1 H1 → EnvR K as1 H1 σ env → StR K as1 H1 st1 → (k r st1).wp P (WE K mg W as1 H1 σ) → Q r H1) : RT K mg W fa σ H Q :=
  ⟨as, env, st, E, S, Out.wp_mono (Out.wp_bind h) (fun r st1 _ h1 as1 H1 x s => hk r st1 as1 H1 x (E.ext x) s (Out.wp_mono h1 (fun _ _ _ z => z) fun _ _ _ z => z.ext x)) fun _ _ _ z => z⟩
theorem ra_then {α : Type} {K : PySem.W.Frag} {mg : Str → Option Value} {W : WX} {as : List Addr} {env : Env} {H : Hp} {σ : St} {st : Store} {fa : DenA} {k : List D → Store → Out α} {P : α → Store → Prop} {Q : List V → Hp → Prop} (E : EnvR K as H σ env) (S : StR K as H st)
    (h : ((fa env st).bind k).wp P (WE K mg W as H σ))
    (hk : ∀ r st1 as1 H1 vs, Ext as H as1 H1 → EnvR K as1 H1 σ env → StR K as1 H1 st1 → RpL K as1 H1 vs r → (k r st1).wp P (WE K mg W as1 H1 σ) → Q vs H1) : RA K mg W fa σ H Q :=
  ⟨as, env, st, E, S, Out.wp_mono (Out.wp_bind h) (fun r st1 _ h1 as1 H1 v x s rp => hk r st1 as1 H1 v x (E.ext x) s rp (Out.wp_mono h1 (fun _ _ _ z => z) fun _ _ _ z => z.ext x)) fun _ _ _ z => z⟩
theorem re_last {K : PySem.W.Frag} {mg : Str → Option Value} {W : WX} {as : List Addr} {env : Env} {H H0 : Hp} {as0 : List Addr} {σ : St} {st : Store} {fa : Den} {Q : VK} (E : EnvR K as H σ env) (S : StR K as H st) (x : Ext as0 H0 as H)
    (h : (fa env st).wp (WV K as0 H0 Q) (WE K mg W as H σ)) : RE K mg W fa σ H Q := ⟨as, env, st, E, S, Out.wp_mono h (fun _ _ _ z => z.ext x) fun _ _ _ z => z⟩

theorem PE.re {X : Cx} {e : Expr} {t t' : TE} (h : PE X e t) (i : ∀ σ H Q, t' σ H Q → t σ H Q) : PE X e t' := ⟨fun pins s σ H Q I q => h.run pins s σ H Q I (i σ H Q q)⟩
theorem PT.re {X : Cx} {e : Expr} {t t' : TT} (h : PT X e t) (i : ∀ σ H Q, t' σ H Q → t σ H Q) : PT X e t' := ⟨fun pins s σ H Q I q => h.run pins s σ H Q I (i σ H Q q)⟩
theorem PW.re {X : Cx} {e : Expr} {t t' : TT} (h : PW X e t) (i : ∀ σ H Q, t' σ H Q → t σ H Q) : PW X e t' := ⟨fun wh pins s σ H Q I q => h.run wh pins s σ H Q I (i σ H Q q)⟩
theorem PA.re {X : Cx} {e : List Expr} {t t' : TA} (h : PA X e t) (i : ∀ σ H Q, t' σ H Q → t σ H Q) : PA X e t' := ⟨fun pos pins s σ H Q I q => h.run pos pins s σ H Q I (i σ H Q q)⟩

/-! ### results -/
/-- a value, or a list that is new -/
inductive Rv where
  | val (d : D) | newL (ds : List D)
/-- mu: the new list is one that will change -/
def Rv.put (mu : Bool) : Rv → Store → Out D
  | .val d, st => .ok d st
  | .newL ds, st => if mu then .ok (.cell st.length) (st ++ [.lst ds]) else .ok (.lst ds) st
def RvOk (K : PySem.W.Frag) (as : List Addr) (H : Hp) (st : Store) (rv : Rv) (Q : VK) : Prop :=
  match rv with
  | .val d => ∀ H' v, Ext as H as H' → StR K as H' st → Rp K as H' v d → Q v H'
  | .newL ds => ∀ p xs, H p = none → xs.length ≤ sizeLine → RpL K as H xs ds → Q (.ref p) (upd H p (.lst xs))
theorem rv_ok {K : PySem.W.Frag} {as : List Addr} {H : Hp} {st : Store} {rv : Rv} {mu : Bool} {Q : VK} {E : Str → List (Str × D) → Store → Prop} (S : StR K as H st) (h : (rv.put mu st).wp (WV K as H Q) E) : RvOk K as H st rv Q := by
  cases rv with
  | val d => exact fun H' v x s r => h as H' v x s r
  | newL ds =>
    intro p xs hp z r
    cases mu with
    | false =>
      obtain ⟨x, s⟩ := S.alloc (.lst xs) hp
      exact h as _ _ x s (.lst upd_same (S.free hp) z (RpL.ext x r))
    | true =>
      obtain ⟨x, s, g⟩ := S.newCell (o := .lst xs) (c := .lst ds) hp fun x => ⟨xs, upd_same, z, RpL.ext x r⟩
      exact h _ _ _ x s (.cell g)
/-- what an operation gives, put down -/
def fin (mu : Bool) (o : Option Rv) (st : Store) : Out D := match o with
  | some rv => rv.put mu st
  | none => .bad
theorem fin_ok {K : PySem.W.Frag} {as : List Addr} {H : Hp} {st : Store} {o : Option Rv} {mu : Bool} {Q : VK} {E : Str → List (Str × D) → Store → Prop} (S : StR K as H st) (h : (fin mu o st).wp (WV K as H Q) E) : ∃ rv, o = some rv ∧ RvOk K as H st rv Q := by
  cases o with
  | none => exact h.elim
  | some rv => exact ⟨rv, rfl, rv_ok S h⟩

/-! ### constants, names -/
def dCon (d : D) : Den := fun _ st => .ok d st
def dVar (i : Nat) : Den := fun env st => match env[i]? with
  | some (some d) => .ok d st
  | _ => .bad
section
variable {X : Cx} {W : WX} {pos : Pos}
theorem re_con {K : PySem.W.Frag} {mg : Str → Option Value} {d : D} {v : V} {σ : St} {H : Hp} {Q : VK} (r : ∀ as H, Rp K as H v d) (h : RE K mg W (dCon d) σ H Q) : Q v H := by
  obtain ⟨as, env, st, E, S, h⟩ := h
  exact h as H v (.refl _ _) S (r as H)
theorem pe_int' {i : Int} {j} : PE X (.Constant (.int i) j pos) (RE X.K X.mg W (dCon (.int i))) := PE.re pe_int fun _ _ _ h => re_con (fun _ _ => .int i) h
theorem pe_bl' {b : Bool} {j} : PE X (.Constant (.bool b) j pos) (RE X.K X.mg W (dCon (.bl b))) := PE.re pe_bl fun _ _ _ h => re_con (fun _ _ => .bl b) h
theorem pe_non' {j} : PE X (.Constant .none j pos) (RE X.K X.mg W (dCon .non)) := PE.re pe_non fun _ _ _ h => re_con (fun _ _ => .non) h
theorem pe_str' {x : Str} {j} : PE X (.Constant (.str x) j pos) (RE X.K X.mg W (dCon (.str x))) := PE.re pe_str fun _ _ _ h => re_con (fun _ _ => .str x) h
theorem pe_var' {i : Nat} {x : Str} (hN : X.N[i]? = some x) (hv : Vis X.env.scope x) (hd : (x == ("__debug__" : Str)) = false) (hcd : (x == ("__classdict__" : Str)) = false) : PE X (.Name x pos) (RE X.K X.mg W (dVar i)) := by
  refine PE.re (pe_var hN hv hd hcd) fun σ H Q h => ?_
  obtain ⟨as, env, st, E, S, h⟩ := h
  unfold dVar at h
  split at h
  · rename_i d e
    obtain ⟨v, h1, h2⟩ := E.at_ i d e
    exact ⟨v, h1, h as H v (.refl _ _) S h2⟩
  · exact h.elim
/-- a module's constant -/
theorem pe_glob' {x : Str} {d : D} {v : V} {u : Value} (hg : Gl X x) (hm : X.mg x = some u) (r : RelV v u) (rp : ∀ as H, Rp X.K as H v d) (hd : (x == ("__debug__" : Str)) = false) : PE X (.Name x pos) (RE X.K X.mg W (dCon d)) :=
  PE.re (pe_glob hg hm r hd) fun _ _ _ h => re_con rp h
theorem pe_bltn' {x : Str} {d : D} {v : V} {u : Value} (hg : Gl X x) (hm : X.mg x = none) (hv : bootBuiltins x = some u) (r : RelV v u) (rp : ∀ as H, Rp X.K as H v d) (hn : x ≠ "__name__") (hd : (x == ("__debug__" : Str)) = false) : PE X (.Name x pos) (RE X.K X.mg W (dCon d)) :=
  PE.re (pe_bltn hg hm hv r hn hd) fun _ _ _ h => re_con rp h

/-! ### argument lists, displays -/
def aNil : DenA := fun _ st => .ok [] st
def aCons (fa : Den) (fr : DenA) : DenA := fun env st => (fa env st).bind fun x st1 => (fr env st1).bind fun xs st2 => .ok (x :: xs) st2
theorem pa_nil' : PA X [] (RA X.K X.mg W aNil) := PA.re pa_nil fun σ H Q h => by
  obtain ⟨as, env, st, E, S, h⟩ := h
  exact h as H [] (.refl _ _) S .nil
theorem pa_cons' {e : Expr} {es : List Expr} {fa : Den} {fr : DenA} (ha : PE X e (RE X.K X.mg W fa)) (hr : PA X es (RA X.K X.mg W fr)) (hs : starEach (e :: es) X.env = (false, eval e X.env) :: starEach es X.env) : PA X (e :: es) (RA X.K X.mg W (aCons fa fr)) := by
  refine PA.re (pa_cons ha hr hs) fun σ H Q h => ?_
  obtain ⟨as, env, st, E, S, h⟩ := h
  refine re_then E S h fun r st1 as1 H1 v x1 E1 S1 r1 h1 => ra_then E1 S1 h1 fun rs st2 as2 H2 vs x2 E2 S2 r2 h2 => ?_
  exact h2 as2 H2 (v :: vs) (x1.trans x2) S2 (.cons (Rp.ext x2 r1) r2)
/-- a bound, never reckoned out -/
def dec (p : Prop) : Bool := @decide p (Classical.propDecidable p)
theorem of_dec {p : Prop} (h : dec p = true) : p := @of_decide_eq_true p (Classical.propDecidable p) h
theorem dec_eq {p : Prop} (h : p) : dec p = true := @decide_eq_true p (Classical.propDecidable p) h
theorem dec_iff {p : Prop} : (dec p = true) = p := propext ⟨of_dec, dec_eq⟩
def small (ds : List D) : Bool := dec (ds.length ≤ sizeLine)
def dTup (fa : DenA) : Den := fun env st => (fa env st).bind fun ds st1 => if small ds then .ok (.tup ds) st1 else .bad
def dLst (mu : Bool) (fa : DenA) : Den := fun env st => (fa env st).bind fun ds st1 => if small ds then (Rv.newL ds).put mu st1 else .bad
theorem pe_tup' {es : List Expr} {fa : DenA} {x1} (h : PA X es (RA X.K X.mg W fa)) : PE X (.Tuple es x1 pos) (RE X.K X.mg W (dTup fa)) := by
  refine PE.re (pe_tup h) fun σ H Q h => ?_
  obtain ⟨as, env, st, E, S, h⟩ := h
  refine ra_then E S h fun rs st1 as1 H1 vs x1 E1 S1 r1 h1 => ?_
  by_cases z : small rs = true
  · rw [if_pos z] at h1
    refine ⟨by rw [r1.length]; exact of_dec z, fun p hp => ?_⟩
    obtain ⟨x, s⟩ := S1.alloc (.tup vs) hp
    exact h1 as1 _ _ (x1.trans x) s (.tup (SqT.of upd_same) (by rw [r1.length]; exact of_dec z) (RpL.ext x r1))
  · rw [if_neg z] at h1
    exact h1.elim
theorem pe_lst' {es : List Expr} {fa : DenA} {mu : Bool} (h : PA X es (RA X.K X.mg W fa)) : PE X (.List es pos) (RE X.K X.mg W (dLst mu fa)) := by
  refine PE.re (pe_lst h) fun σ H Q h => ?_
  obtain ⟨as, env, st, E, S, h⟩ := h
  refine ra_then E S h fun rs st1 as1 H1 vs x1 E1 S1 r1 h1 => ?_
  by_cases z : small rs = true
  · rw [if_pos z] at h1
    refine ⟨by rw [r1.length]; exact of_dec z, fun p hp => ?_⟩
    exact rv_ok S1 (Out.wp_mono h1 (fun _ _ _ z => z.ext x1) fun _ _ _ z => z) p vs hp (by rw [r1.length]; exact of_dec z) r1
  · rw [if_neg z] at h1
    exact h1.elim

/-! ### operators -/
def RB (K : PySem.W.Frag) (g : Store → D → D → Option Rv) : R2 := fun x y H Q => ∃ as st dx dy rv, StR K as H st ∧ Rp K as H x dx ∧ Rp K as H y dy ∧ g st dx dy = some rv ∧ RvOk K as H st rv Q
def dBin (mu : Bool) (g : Store → D → D → Option Rv) (fa fb : Den) : Den := fun env st => (fa env st).bind fun x st1 => (fb env st1).bind fun y st2 => fin mu (g st2 x y) st2
theorem rb_bin {K : PySem.W.Frag} {mg : Str → Option Value} {g : Store → D → D → Option Rv} {mu : Bool} {fa fb : Den} {σ : St} {H : Hp} {Q : VK} (h : RE K mg W (dBin mu g fa fb) σ H Q) : tOp (RB K g) (RE K mg W fa) (RE K mg W fb) σ H Q := by
  obtain ⟨as, env, st, E, S, h⟩ := h
  refine re_then E S h fun r st1 as1 H1 v x1 E1 S1 r1 h1 => re_then E1 S1 h1 fun r' st2 as2 H2 v2 x2 E2 S2 r2 h2 => ?_
  obtain ⟨rv, e, q⟩ := fin_ok S2 (Out.wp_mono h2 (fun _ _ _ z => z.ext (x1.trans x2)) fun _ _ _ z => z)
  exact ⟨as2, st2, r, r', rv, S2, Rp.ext x2 r1, r2, e, q⟩
theorem pe_bin' {a b : Expr} {op : Operator} {g : Store → D → D → Option Rv} {mu : Bool} {fa fb : Den} (ho : OpR X (binaryOp op) (RB X.K g)) (ha : PE X a (RE X.K X.mg W fa)) (hb : PE X b (RE X.K X.mg W fb)) : PE X (.BinOp a op b pos) (RE X.K X.mg W (dBin mu g fa fb)) :=
  PE.re (pe_op ho ha hb) fun _ _ _ h => rb_bin h
/-- a comparison gives a bool -/
def RCm (K : PySem.W.Frag) (g : Store → D → D → Option Bool) : R2 := fun x y H Q => ∃ as st dx dy b, StR K as H st ∧ Rp K as H x dx ∧ Rp K as H y dy ∧ g st dx dy = some b ∧ Q (.bl b) H
def obool (o : Option Bool) (st : Store) : Out Bool := match o with
  | some b => .ok b st
  | none => .bad
def bCmp (g : Store → D → D → Option Bool) (fa fb : Den) : DenB := fun env st => (fa env st).bind fun x st1 => (fb env st1).bind fun y st2 => obool (g st2 x y) st2
/-- a test as a value -/
def dOf (f : DenB) : Den := fun env st => (f env st).bind fun b st1 => .ok (.bl b) st1
theorem rc_cmp {K : PySem.W.Frag} {mg : Str → Option Value} {g : Store → D → D → Option Bool} {fa fb : Den} {σ : St} {H : Hp} {Q : Bool → Hp → Prop} (h : RT K mg W (bCmp g fa fb) σ H Q) : tOp (RCm K g) (RE K mg W fa) (RE K mg W fb) σ H (fun v H1 => ∃ b, v = .bl b ∧ Q b H1) := by
  obtain ⟨as, env, st, E, S, h⟩ := h
  refine re_then E S h fun r st1 as1 H1 v x1 E1 S1 r1 h1 => re_then E1 S1 h1 fun r' st2 as2 H2 v2 x2 E2 S2 r2 h2 => ?_
  generalize e : g st2 r r' = o at h2
  cases o with
  | none => exact h2.elim
  | some b => exact ⟨as2, st2, r, r', b, S2, Rp.ext x2 r1, r2, e, b, rfl, h2 as2 H2 (x1.trans x2) S2⟩
theorem rt_of {K : PySem.W.Frag} {mg : Str → Option Value} {f : DenB} {σ : St} {H : Hp} {Q : VK} (h : RE K mg W (dOf f) σ H Q) : RT K mg W f σ H (fun b H1 => Q (.bl b) H1) := by
  obtain ⟨as, env, st, E, S, h⟩ := h
  exact rt_then E S h fun r st1 as1 H1 x1 E1 S1 h1 => h1 as1 H1 _ x1 S1 (.bl r)
theorem pt_cmp' {a b : Expr} {op : CmpOp} {g : Store → D → D → Option Bool} {fa fb : Den} (ho : OpR X (compareOp op) (RCm X.K g)) (ha : PE X a (RE X.K X.mg W fa)) (hb : PE X b (RE X.K X.mg W fb)) (hm : behindInMarks op b = false) : PT X (.Compare a [op] [b] pos) (RT X.K X.mg W (bCmp g fa fb)) :=
  PT.re (pt_cmpR ho ha hb hm) fun _ _ _ h => rc_cmp h
theorem pe_cmp' {a b : Expr} {op : CmpOp} {g : Store → D → D → Option Bool} {fa fb : Den} (ho : OpR X (compareOp op) (RCm X.K g)) (ha : PE X a (RE X.K X.mg W fa)) (hb : PE X b (RE X.K X.mg W fb)) (hm : behindInMarks op b = false) : PE X (.Compare a [op] [b] pos) (RE X.K X.mg W (dOf (bCmp g fa fb))) := by
  refine PE.re (pe_cmpR ho ha hb hm) fun σ H Q h => ?_
  have q := rc_cmp (rt_of h)
  obtain ⟨as, env, st, E, S, q⟩ := q
  refine ⟨as, env, st, E, S, Out.wp_mono q (fun r st1 _ h1 as1 H1 v x s rp => ?_) fun _ _ _ z => z⟩
  obtain ⟨as2, env2, st2, E2, S2, q2⟩ := h1 as1 H1 v x s rp
  refine ⟨as2, env2, st2, E2, S2, Out.wp_mono q2 (fun r st1 _ h1 as1 H1 v x s rp => ?_) fun _ _ _ z => z⟩
  obtain ⟨as3, st3, dx, dy, b, h1, h2, h3, h4, b', h5, h6⟩ := h1 as1 H1 v x s rp
  cases h5
  exact ⟨as3, st3, dx, dy, _, h1, h2, h3, h4, h6⟩
/-- a op b op' c -/
def bChain (g g' : Store → D → D → Option Bool) (fa fb fc : Den) : DenB := fun env st => (fa env st).bind fun x st1 => (fb env st1).bind fun y st2 => (obool (g st2 x y) st2).bind fun k st3 =>
  if k then (fc env st3).bind fun z st4 => obool (g' st4 y z) st4 else .ok false st3
theorem rc_chain {K : PySem.W.Frag} {mg : Str → Option Value} {g g' : Store → D → D → Option Bool} {fa fb fc : Den} {σ : St} {H : Hp} {Q : VK} (h : RT K mg W (bChain g g' fa fb fc) σ H (fun b H1 => Q (.bl b) H1)) : tChain (RCm K g) (RCm K g') (RE K mg W fa) (RE K mg W fb) (RE K mg W fc) σ H Q := by
  obtain ⟨as, env, st, E, S, h⟩ := h
  refine re_then E S h fun r st1 as1 H1 v x1 E1 S1 r1 h1 => re_then E1 S1 h1 fun r' st2 as2 H2 v2 x2 E2 S2 r2 h2 => ?_
  generalize e : g st2 r r' = o at h2
  cases o with
  | none => exact h2.elim
  | some b =>
    refine ⟨as2, st2, r, r', b, S2, Rp.ext x2 r1, r2, e, b, rfl, ?_⟩
    cases b with
    | false => exact iteF (h2 as2 H2 (x1.trans x2) S2)
    | true =>
      refine iteT (re_then E2 S2 h2 fun r3 st3 as3 H3 v3 x3 E3 S3 r3' h3 => ?_)
      generalize e3 : g' st3 r' r3 = o at h3
      cases o with
      | none => exact h3.elim
      | some b => exact ⟨as3, st3, r', r3, b, S3, Rp.ext x3 r2, r3', e3, h3 as3 H3 ((x1.trans x2).trans x3) S3⟩
theorem tChain.mono {r r' : R2} {fa fb fc : Den} {K : PySem.W.Frag} {mg : Str → Option Value} {g g' : Store → D → D → Option Bool} {σ : St} {H : Hp} {Q : Bool → Hp → Prop} (h : RT K mg W (bChain g g' fa fb fc) σ H Q) :
    tTest (tChain (RCm K g) (RCm K g') (RE K mg W fa) (RE K mg W fb) (RE K mg W fc)) σ H Q := by
  refine rc_chain (Q := fun x H' => ∃ k, x = .bl k ∧ Q k H') ?_
  obtain ⟨as, env, st, E, S, h⟩ := h
  exact ⟨as, env, st, E, S, Out.wp_mono h (fun r st1 _ h1 as1 H1 x s => ⟨r, rfl, h1 as1 H1 x s⟩) fun _ _ _ z => z⟩
theorem pt_chain' {a b c : Expr} {op op' : CmpOp} {g g' : Store → D → D → Option Bool} {fa fb fc : Den} (ho : OpR X (compareOp op) (RCm X.K g)) (ho' : OpR X (compareOp op') (RCm X.K g')) (ha : PE X a (RE X.K X.mg W fa)) (hb : PE X b (RE X.K X.mg W fb)) (hc : PE X c (RE X.K X.mg W fc))
    (hm : lastMarks [op, op'] [b, c] = false) : PT X (.Compare a [op, op'] [b, c] pos) (RT X.K X.mg W (bChain g g' fa fb fc)) :=
  PT.re (pt_chain ho ho' ha hb hc hm) fun _ _ _ h => tChain.mono (r := RCm X.K g) (r' := RCm X.K g') h
theorem pe_chain' {a b c : Expr} {op op' : CmpOp} {g g' : Store → D → D → Option Bool} {fa fb fc : Den} (ho : OpR X (compareOp op) (RCm X.K g)) (ho' : OpR X (compareOp op') (RCm X.K g')) (ha : PE X a (RE X.K X.mg W fa)) (hb : PE X b (RE X.K X.mg W fb)) (hc : PE X c (RE X.K X.mg W fc))
    (hm : lastMarks [op, op'] [b, c] = false) : PE X (.Compare a [op, op'] [b, c] pos) (RE X.K X.mg W (dOf (bChain g g' fa fb fc))) :=
  PE.re (pe_chain ho ho' ha hb hc hm) fun _ _ _ h => rc_chain (rt_of h)

/-! ### tests: and, or, not; a value's truth -/
def bAnd (fa fb : DenB) : DenB := fun env st => (fa env st).bind fun b st1 => if b then fb env st1 else .ok false st1
def bOr (fa fb : DenB) : DenB := fun env st => (fa env st).bind fun b st1 => if b then .ok true st1 else fb env st1
def bNot (fa : DenB) : DenB := fun env st => (fa env st).bind fun b st1 => .ok (!b) st1
/-- the truth of a value (bools, ints, None, lists, tuples, texts) -/
def truD (st : Store) : D → Option Bool
  | .non => some false
  | .bl b => some b
  | .int i => some (i != 0)
  | .tup ds => some (!ds.isEmpty)
  | .lst ds => some (!ds.isEmpty)
  | .frl ds => some (!ds.isEmpty)
  | .cell i => match st[i]? with
    | some (.lst ds) => some (!ds.isEmpty)
    | _ => none
  | _ => none
def bTru (f : Den) : DenB := fun env st => (f env st).bind fun d st1 => obool (truD st1 d) st1
section
variable {a b : Expr} {rest : List Expr} {fa fb : DenB}
theorem pw_and1' (ha : PT X a (RT X.K X.mg W fa)) : PW X (.BoolOp .And [a] pos) (RT X.K X.mg W fa) := pw_and1 ha
theorem pw_or1' (ha : PT X a (RT X.K X.mg W fa)) : PW X (.BoolOp .Or [a] pos) (RT X.K X.mg W fa) := pw_or1 ha
theorem rt_last {K : PySem.W.Frag} {mg : Str → Option Value} {as : List Addr} {env : Env} {H H0 : Hp} {as0 : List Addr} {σ : St} {st : Store} {fa : DenB} {Q : Bool → Hp → Prop} (E : EnvR K as H σ env) (S : StR K as H st) (x : Ext as0 H0 as H)
    (h : (fa env st).wp (WB K as0 H0 Q) (WE K mg W as H σ)) : RT K mg W fa σ H Q := ⟨as, env, st, E, S, Out.wp_mono h (fun _ _ _ z => z.ext x) fun _ _ _ z => z⟩
theorem pw_and' (ha : PT X a (RT X.K X.mg W fa)) (hb : PW X (.BoolOp .And (b :: rest) pos) (RT X.K X.mg W fb)) : PW X (.BoolOp .And (a :: b :: rest) pos) (RT X.K X.mg W (bAnd fa fb)) := by
  refine PW.re (pw_and ha hb) fun σ H Q h => ?_
  obtain ⟨as, env, st, E, S, h⟩ := h
  refine rt_then E S h fun r st1 as1 H1 x1 E1 S1 h1 => ?_
  cases r with
  | true => exact iteT (rt_last E1 S1 x1 h1)
  | false => exact iteF (h1 as1 H1 x1 S1)
theorem pw_or' (ha : PT X a (RT X.K X.mg W fa)) (hb : PW X (.BoolOp .Or (b :: rest) pos) (RT X.K X.mg W fb)) : PW X (.BoolOp .Or (a :: b :: rest) pos) (RT X.K X.mg W (bOr fa fb)) := by
  refine PW.re (pw_or ha hb) fun σ H Q h => ?_
  obtain ⟨as, env, st, E, S, h⟩ := h
  refine rt_then E S h fun r st1 as1 H1 x1 E1 S1 h1 => ?_
  cases r with
  | true => exact iteT (h1 as1 H1 x1 S1)
  | false => exact iteF (rt_last E1 S1 x1 h1)
theorem pt_not' (ha : PT X a (RT X.K X.mg W fa)) : PT X (.UnaryOp .Not a pos) (RT X.K X.mg W (bNot fa)) := by
  refine PT.re (pt_not ha) fun σ H Q h => ?_
  obtain ⟨as, env, st, E, S, h⟩ := h
  exact rt_then E S h fun r st1 as1 H1 x1 E1 S1 h1 => h1 as1 H1 x1 S1
/-- .. as values -/
theorem Out.assoc {α β γ : Type} (o : Out α) (f : α → Store → Out β) (g : β → Store → Out γ) : (o.bind f).bind g = o.bind fun a st => (f a st).bind g := by cases o <;> rfl
theorem rb_then {α : Type} {K : PySem.W.Frag} {mg : Str → Option Value} {as : List Addr} {env : Env} {H : Hp} {σ : St} {st : Store} {fa : DenB} {k : Bool → Store → Out α} {P : α → Store → Prop} {Q : VK} (E : EnvR K as H σ env) (S : StR K as H st)
    (h : ((fa env st).bind k).wp P (WE K mg W as H σ))
    (hk : ∀ r st1 as1 H1, Ext as H as1 H1 → EnvR K as1 H1 σ env → StR K as1 H1 st1 → (k r st1).wp P (WE K mg W as1 H1 σ) → Q (.bl r) H1) : RE K mg W (dOf fa) σ H Q := by
  refine ⟨as, env, st, E, S, ?_⟩
  unfold dOf
  generalize e : fa env st = o at h
  cases o with
  | ok b st1 =>
    intro as1 H1 v x s rp
    cases rp
    exact hk b st1 as1 H1 x (E.ext x) s (Out.wp_mono h (fun _ _ _ z => z) fun _ _ _ z => z.ext x)
  | exc y fs st1 => exact h
  | bad => exact h
theorem pe_and' (ha : PE X a (RE X.K X.mg W (dOf fa))) (hb : PE X (.BoolOp .And (b :: rest) pos) (RE X.K X.mg W (dOf fb))) : PE X (.BoolOp .And (a :: b :: rest) pos) (RE X.K X.mg W (dOf (bAnd fa fb))) := by
  refine PE.re (pe_and ha hb) fun σ H Q h => ?_
  obtain ⟨as, env, st, E, S, h⟩ := h
  unfold dOf bAnd at h
  rw [Out.assoc] at h
  refine rb_then E S h fun r st1 as1 H1 x1 E1 S1 h1 => ⟨r, rfl, ?_⟩
  cases r with
  | true => exact iteT ⟨as1, env, st1, E1, S1, Out.wp_mono h1 (fun _ _ _ z => z.ext x1) fun _ _ _ z => z⟩
  | false => exact iteF (h1 as1 H1 _ x1 S1 (.bl false))
theorem pe_or' (ha : PE X a (RE X.K X.mg W (dOf fa))) (hb : PE X (.BoolOp .Or (b :: rest) pos) (RE X.K X.mg W (dOf fb))) : PE X (.BoolOp .Or (a :: b :: rest) pos) (RE X.K X.mg W (dOf (bOr fa fb))) := by
  refine PE.re (pe_or ha hb) fun σ H Q h => ?_
  obtain ⟨as, env, st, E, S, h⟩ := h
  unfold dOf bOr at h
  rw [Out.assoc] at h
  refine rb_then E S h fun r st1 as1 H1 x1 E1 S1 h1 => ⟨r, rfl, ?_⟩
  cases r with
  | true => exact iteT (h1 as1 H1 _ x1 S1 (.bl true))
  | false => exact iteF ⟨as1, env, st1, E1, S1, Out.wp_mono h1 (fun _ _ _ z => z.ext x1) fun _ _ _ z => z⟩
theorem pe_not' (ha : PE X a (RE X.K X.mg W (dOf fa))) : PE X (.UnaryOp .Not a pos) (RE X.K X.mg W (dOf (bNot fa))) := by
  refine PE.re (pe_not ha) fun σ H Q h => ?_
  obtain ⟨as, env, st, E, S, h⟩ := h
  unfold dOf bNot at h
  rw [Out.assoc] at h
  exact rb_then E S h fun r st1 as1 H1 x1 E1 S1 h1 => ⟨r, rfl, h1 as1 H1 _ x1 S1 (.bl _)⟩
end
/-- a value that is a bool, as one (else nothing is known) -/
def bVal (f : Den) : DenB := fun env st => (f env st).bind fun d st1 => match d with
  | .bl b => .ok b st1
  | _ => .bad
theorem pt_val' {e : Expr} {f : Den} (h : PE X e (RE X.K X.mg W f)) (he : ∀ whole, isTrue e X.env whole = (do let v ← whole; standAt e.pos; holding [v] (truthy v))) : PT X e (RT X.K X.mg W (bTru f)) := by
  refine PT.re (pt_truth h he) fun σ H Q h => ?_
  obtain ⟨as, env, st, E, S, h⟩ := h
  refine re_then E S h fun r st1 as1 H1 v x1 E1 S1 r1 h1 => ?_
  generalize e : truD st1 r = o at h1
  cases o with
  | none => exact h1.elim
  | some k =>
    refine ⟨k, ?_, h1 as1 H1 x1 S1⟩
    cases r1 with
    | non => exact (Option.some.inj e).symm
    | bl b => exact (Option.some.inj e).symm
    | int i => exact (Option.some.inj e).symm
    | str s => cases e
    | ty n => cases e
    | tup h z r => exact .inr (.inl ⟨_, h, by rw [← Option.some.inj e]; cases r <;> rfl⟩)
    | lst h c z r => exact .inl ⟨_, SqL.of h, by rw [← Option.some.inj e]; cases r <;> rfl⟩
    | frl h z r => exact .inl ⟨_, h.seq, by rw [← Option.some.inj e]; cases r <;> rfl⟩
    | cell h =>
      obtain ⟨c, hc, hR⟩ := S1.get' h
      unfold truD at e
      simp only [hc] at e
      cases c with
      | lst ds =>
        obtain ⟨xs, hx, z, r⟩ := hR
        exact .inl ⟨xs, SqL.of hx, by rw [← Option.some.inj e]; cases r <;> rfl⟩
      | dct kvs => cases e
/-- a bool made by any expression stands for its test -/
theorem pe_bVal {e : Expr} {f : Den} (h : PE X e (RE X.K X.mg W f)) : PE X e (RE X.K X.mg W (dOf (bVal f))) := by
  refine PE.re h fun σ H Q h => ?_
  obtain ⟨as, env, st, E, S, h⟩ := h
  unfold dOf bVal at h
  rw [Out.assoc] at h
  refine ⟨as, env, st, E, S, Out.wp_mono (Out.wp_bind h) (fun d st1 _ h1 => ?_) fun _ _ _ z => z⟩
  cases d <;> first | exact h1 | exact h1.elim
/-- a if t else b -/
def dIte (t : DenB) (fa fb : Den) : Den := fun env st => (t env st).bind fun b st1 => if b then fa env st1 else fb env st1
theorem pe_ite' {c a b : Expr} {t : DenB} {fa fb : Den} (hc : PT X c (RT X.K X.mg W t)) (ha : PE X a (RE X.K X.mg W fa)) (hb : PE X b (RE X.K X.mg W fb)) : PE X (.IfExp c a b pos) (RE X.K X.mg W (dIte t fa fb)) := by
  refine PE.re (pe_ifExp hc ha hb) fun σ H Q h => ?_
  obtain ⟨as, env, st, E, S, h⟩ := h
  refine rt_then E S h fun r st1 as1 H1 x1 E1 S1 h1 => ?_
  cases r with
  | true => exact iteT (re_last E1 S1 x1 h1)
  | false => exact iteF (re_last E1 S1 x1 h1)

/-! ### unary operators, subscripts, slices, calls of built-ins -/
def RU (K : PySem.W.Frag) (g : Store → D → Option Rv) : V → Hp → VK → Prop := fun x H Q => ∃ as st dx rv, StR K as H st ∧ Rp K as H x dx ∧ g st dx = some rv ∧ RvOk K as H st rv Q
def dUn (mu : Bool) (g : Store → D → Option Rv) (fa : Den) : Den := fun env st => (fa env st).bind fun x st1 => fin mu (g st1 x) st1
theorem pe_un' {a : Expr} {op : UnaryOp} {g : Store → D → Option Rv} {mu : Bool} {fa : Den} (ho : UnR X (unaryOp op) (RU X.K g)) (ha : PE X a (RE X.K X.mg W fa)) : PE X (.UnaryOp op a pos) (RE X.K X.mg W (dUn mu g fa)) := by
  refine PE.re (pe_un ho ha) fun σ H Q h => ?_
  obtain ⟨as, env, st, E, S, h⟩ := h
  refine re_then E S h fun r st1 as1 H1 v x1 E1 S1 r1 h1 => ?_
  obtain ⟨rv, e, q⟩ := fin_ok S1 (Out.wp_mono h1 (fun _ _ _ z => z.ext x1) fun _ _ _ z => z)
  exact ⟨as1, st1, r, rv, S1, r1, e, q⟩
theorem pe_ix' {a b : Expr} {g : Store → D → D → Option Rv} {mu : Bool} {fa fb : Den} (hr : IxR X (RB X.K g)) (ha : PE X a (RE X.K X.mg W fa)) (hb : PE X b (RE X.K X.mg W fb)) (hs : PlainIx b) : PE X (.Subscript a b pos) (RE X.K X.mg W (dBin mu g fa fb)) :=
  PE.re (pe_ix hr ha hb hs) fun _ _ _ h => rb_bin h
def RC (K : PySem.W.Frag) (g : Store → List D → Option Rv) : List V → Hp → VK → Prop := fun vs H Q => ∃ as st ds rv, StR K as H st ∧ RpL K as H vs ds ∧ g st ds = some rv ∧ RvOk K as H st rv Q
def dCl (mu : Bool) (g : Store → List D → Option Rv) (fa : DenA) : Den := fun env st => (fa env st).bind fun ds st1 => fin mu (g st1 ds) st1
theorem rc_call {K : PySem.W.Frag} {mg : Str → Option Value} {g : Store → List D → Option Rv} {mu : Bool} {fa : DenA} {σ : St} {H : Hp} {Q : VK} (h : RE K mg W (dCl mu g fa) σ H Q) : tCB (RC K g) (RA K mg W fa) σ H Q := by
  obtain ⟨as, env, st, E, S, h⟩ := h
  refine ra_then E S h fun r st1 as1 H1 v x1 E1 S1 r1 h1 => ?_
  obtain ⟨rv, e, q⟩ := fin_ok S1 (Out.wp_mono h1 (fun _ _ _ z => z.ext x1) fun _ _ _ z => z)
  exact ⟨as1, st1, r, rv, S1, r1, e, q⟩
end
end
end L2.PyD
/-! PyD, part 3: statements, loops, what loops walk. -/
namespace L2.PyD
open PySem PySem.Spec PyProof.Rows
noncomputable section

/-- a statement's outcome -/
inductive Fs where
  | nx (e : Env) (st : Store)
  | brk (e : Env) (st : Store)
  | ct (e : Env) (st : Store)
  | ret (d : D) (st : Store)
  | exc (e : Env) (x : Str) (fs : List (Str × D)) (st : Store)
  | bad
abbrev DenS := Env → Store → Fs
/-- an expression, then a statement -/
def Out.then {α : Type} (o : Out α) (env : Env) (k : α → Store → Fs) : Fs := match o with
  | .ok a st => k a st
  | .exc x fs st => .exc env x fs st
  | .bad => .bad

section
variable (K : PySem.W.Frag) (mg : Str → Option Value) (W : WX)
def WN (as : List Addr) (H : Hp) (Q : St → Hp → Prop) (e : Env) (st' : Store) : Prop :=
  ∀ as' H' σ', Ext as H as' H' → StR K as' H' st' → EnvR K as' H' σ' e → Q σ' H'
def WX' (as : List Addr) (H : Hp) (e : Env) (x : Str) (fs : List (Str × D)) (st' : Store) : Prop :=
  ∀ as' H' σ' C d, Ext as H as' H' → StR K as' H' st' → EnvR K as' H' σ' e → ExcR K mg as' H' x fs C d → W C d σ' H'
def Fs.wp (as : List Addr) (H : Hp) (Z : Ends) : Fs → Prop
  | .nx e st => WN K as H Z.nx e st
  | .brk e st => WN K as H Z.bk e st
  | .ct e st => WN K as H Z.ct e st
  | .ret d st => WV K as H Z.rt d st
  | .exc e x fs st => WX' K mg W as H e x fs st
  | .bad => False
def RS (f : DenS) : TS := fun Z σ H => ∃ as env st, EnvR K as H σ env ∧ StR K as H st ∧ (f env st).wp K mg W as H Z
end
section
variable {K : PySem.W.Frag} {mg : Str → Option Value} {W : WX} {as as1 : List Addr} {H H1 : Hp} {σ : St} {st : Store} {env : Env}
theorem WN.ext (x : Ext as H as1 H1) {Q : St → Hp → Prop} {e : Env} {st' : Store} (h : WN K as H Q e st') : WN K as1 H1 Q e st' := fun as' H' s' y s r => h as' H' s' (x.trans y) s r
theorem WX'.ext (x : Ext as H as1 H1) {e : Env} {y : Str} {fs : List (Str × D)} {st' : Store} (h : WX' K mg W as H e y fs st') : WX' K mg W as1 H1 e y fs st' := fun as' H' s' C d z s r q => h as' H' s' C d (x.trans z) s r q
theorem Fs.ext (x : Ext as H as1 H1) {Z : Ends} : ∀ {f : Fs}, f.wp K mg W as H Z → f.wp K mg W as1 H1 Z
  | .nx _ _, h => WN.ext x h
  | .brk _ _, h => WN.ext x h
  | .ct _ _, h => WN.ext x h
  | .ret _ _, h => WV.ext x h
  | .exc _ _ _ _, h => WX'.ext x h
  | .bad, h => h
theorem WE.of (E : EnvR K as H σ env) {x : Str} {fs : List (Str × D)} {st' : Store} (h : WX' K mg W as H env x fs st') : WE K mg W as H σ x fs st' := fun as' H' C d y s r => h as' H' σ C d y s (E.ext y) r
theorem re_thenS {fa : Den} {k : D → Store → Fs} {Z : Ends} {Q : VK} (E : EnvR K as H σ env) (S : StR K as H st)
    (h : ((fa env st).then env k).wp K mg W as H Z)
    (hk : ∀ r st1 as1 H1 v, Ext as H as1 H1 → EnvR K as1 H1 σ env → StR K as1 H1 st1 → Rp K as1 H1 v r → (k r st1).wp K mg W as1 H1 Z → Q v H1) : RE K mg W fa σ H Q := by
  refine ⟨as, env, st, E, S, ?_⟩
  generalize fa env st = o at h
  cases o with
  | ok a st1 => exact fun as1 H1 v x s r => hk a st1 as1 H1 v x (E.ext x) s r (Fs.ext x h)
  | exc x fs st1 => exact WE.of E h
  | bad => exact h
theorem rt_thenS {fa : DenB} {k : Bool → Store → Fs} {Z : Ends} {Q : Bool → Hp → Prop} (E : EnvR K as H σ env) (S : StR K as H st)
    (h : ((fa env st).then env k).wp K mg W as H Z)
    (hk : ∀ r st1 as1 H1, Ext as H as1 H1 → EnvR K as1 H1 σ env → StR K as1 H1 st1 → (k r st1).wp K mg W as1 H1 Z → Q r H1) : RT K mg W fa σ H Q := by
  refine ⟨as, env, st, E, S, ?_⟩
  generalize fa env st = o at h
  cases o with
  | ok a st1 => exact fun as1 H1 x s => hk a st1 as1 H1 x (E.ext x) s (Fs.ext x h)
  | exc x fs st1 => exact WE.of E h
  | bad => exact h
theorem ra_thenS {fa : DenA} {k : List D → Store → Fs} {Z : Ends} {Q : List V → Hp → Prop} (E : EnvR K as H σ env) (S : StR K as H st)
    (h : ((fa env st).then env k).wp K mg W as H Z)
    (hk : ∀ r st1 as1 H1 vs, Ext as H as1 H1 → EnvR K as1 H1 σ env → StR K as1 H1 st1 → RpL K as1 H1 vs r → (k r st1).wp K mg W as1 H1 Z → Q vs H1) : RA K mg W fa σ H Q := by
  refine ⟨as, env, st, E, S, ?_⟩
  generalize fa env st = o at h
  cases o with
  | ok a st1 => exact fun as1 H1 v x s r => hk a st1 as1 H1 v x (E.ext x) s r (Fs.ext x h)
  | exc x fs st1 => exact WE.of E h
  | bad => exact h
end
theorem PS.re {X : Cx} {e : Stmt} {t t' : TS} (h : PS X e t) (i : ∀ Z σ H, t' Z σ H → t Z σ H) : PS X e t' := ⟨fun pins s σ H D I q => h.run pins s σ H D I (i D σ H q)⟩
theorem PSs.re {X : Cx} {e : List Stmt} {t t' : TS} (h : PSs X e t) (i : ∀ Z σ H, t' Z σ H → t Z σ H) : PSs X e t' := ⟨fun pins s σ H D I q => h.run pins s σ H D I (i D σ H q)⟩

/-! ### blocks and small statements -/
def sSkip : DenS := fun env st => .nx env st
def sSeq (f g : DenS) : DenS := fun env st => match f env st with
  | .nx e st1 => g e st1
  | o => o
section
variable {X : Cx} {W : WX} {pos : Pos}
theorem rs_skip {σ : St} {H : Hp} {Z : Ends} {K : PySem.W.Frag} {mg : Str → Option Value} (h : RS K mg W sSkip Z σ H) : Z.nx σ H := by
  obtain ⟨as, env, st, E, S, h⟩ := h
  exact h as H σ (.refl _ _) S E
theorem pss_nil' : PSs X [] (RS X.K X.mg W sSkip) := PSs.re pss_nil fun _ _ _ h => rs_skip h
theorem rs_seq {σ : St} {H : Hp} {Z : Ends} {K : PySem.W.Frag} {mg : Str → Option Value} {f g : DenS} (h : RS K mg W (sSeq f g) Z σ H) : tSeq (RS K mg W f) (RS K mg W g) Z σ H := by
  obtain ⟨as, env, st, E, S, h⟩ := h
  refine ⟨as, env, st, E, S, ?_⟩
  unfold sSeq at h
  cases e : f env st with
  | nx e1 st1 =>
    rw [e] at h
    exact fun as1 H1 σ1 x s r => ⟨as1, e1, st1, r, s, Fs.ext x h⟩
  | brk _ _ => rw [e] at h; exact h
  | ct _ _ => rw [e] at h; exact h
  | ret _ _ => rw [e] at h; exact h
  | exc _ _ _ _ => rw [e] at h; exact h
  | bad => rw [e] at h; exact h
theorem pss_cons' {st : Stmt} {rest : List Stmt} {f g : DenS} (h1 : PS X st (RS X.K X.mg W f)) (h2 : PSs X rest (RS X.K X.mg W g)) : PSs X (st :: rest) (RS X.K X.mg W (sSeq f g)) := PSs.re (pss_cons h1 h2) fun _ _ _ h => rs_seq h
theorem ps_pass' : PS X (.Pass pos) (RS X.K X.mg W sSkip) := PS.re ps_pass fun _ _ _ h => rs_skip h
def sBrk : DenS := fun env st => .brk env st
def sCt : DenS := fun env st => .ct env st
theorem ps_break' : PS X (.Break pos) (RS X.K X.mg W sBrk) := PS.re ps_break fun Z σ H h => by
  obtain ⟨as, env, st, E, S, h⟩ := h
  exact h as H σ (.refl _ _) S E
theorem ps_continue' : PS X (.Continue pos) (RS X.K X.mg W sCt) := PS.re ps_continue fun Z σ H h => by
  obtain ⟨as, env, st, E, S, h⟩ := h
  exact h as H σ (.refl _ _) S E
def sRet (f : Den) : DenS := fun env st => (f env st).then env fun d st1 => .ret d st1
theorem ps_ret' {e : Expr} {f : Den} (h : PE X e (RE X.K X.mg W f)) : PS X (.Return (some e) pos) (RS X.K X.mg W (sRet f)) := PS.re (ps_ret h) fun Z σ H h => by
  obtain ⟨as, env, st, E, S, h⟩ := h
  exact re_thenS E S h fun r st1 as1 H1 v x E1 S1 r1 h1 => h1 as1 H1 v (.refl _ _) S1 r1
def sRetN : DenS := fun _ st => .ret .non st
theorem ps_retN' : PS X (.Return none pos) (RS X.K X.mg W sRetN) := PS.re ps_retN fun Z σ H h => by
  obtain ⟨as, env, st, E, S, h⟩ := h
  exact h as H .non (.refl _ _) S .non
def sExpr (f : Den) : DenS := fun env st => (f env st).then env fun _ st1 => .nx env st1
theorem ps_expr' {e : Expr} {f : Den} (h : PE X e (RE X.K X.mg W f)) (hs : swapsWith e none pos.line X.env = pure false) : PS X (.Expr e pos) (RS X.K X.mg W (sExpr f)) := PS.re (ps_expr h hs) fun Z σ H h => by
  obtain ⟨as, env, st, E, S, h⟩ := h
  exact re_thenS E S h fun r st1 as1 H1 v x E1 S1 r1 h1 => h1 as1 H1 σ (.refl _ _) S1 E1
theorem ps_doc' {x : Str} {j} {pos'} : PS X (.Expr (.Constant (.str x) j pos) pos') (RS X.K X.mg W sSkip) := PS.re ps_doc fun _ _ _ h => rs_skip h
def sIf (t : DenB) (f g : DenS) : DenS := fun env st => (t env st).then env fun b st1 => if b then f env st1 else g env st1
theorem ps_if' {c : Expr} {a b : List Stmt} {t : DenB} {f g : DenS} (hc : PT X c (RT X.K X.mg W t)) (ha : PSs X a (RS X.K X.mg W f)) (hb : PSs X b (RS X.K X.mg W g)) : PS X (.If c a b pos) (RS X.K X.mg W (sIf t f g)) := PS.re (ps_if hc ha hb) fun Z σ H h => by
  obtain ⟨as, env, st, E, S, h⟩ := h
  refine rt_thenS E S h fun r st1 as1 H1 x E1 S1 h1 => ?_
  cases r with
  | true => exact iteT ⟨as1, env, st1, E1, S1, h1⟩
  | false => exact iteF ⟨as1, env, st1, E1, S1, h1⟩

/-! ### targets: names, tuples of them -/
abbrev DenT := D → Env → Option Env
/-- nothing but the own names changes -/
def Sm (ow : Option (List Nat)) (σ σ' : St) : Prop := match ow with
  | none => True
  | some vs => wipe σ' vs = wipe σ vs
def Ow (ow : Option (List Nat)) (i : Nat) : Prop := match ow with
  | none => True
  | some vs => i ∈ vs
theorem Sm.trans {ow : Option (List Nat)} {a b c : St} (h : Sm ow a b) (h' : Sm ow b c) : Sm ow a c := by
  cases ow with
  | none => trivial
  | some vs => exact Eq.trans (show wipe c vs = wipe b vs from h') h
theorem Sm.refl (ow : Option (List Nat)) (a : St) : Sm ow a a := by
  cases ow with
  | none => trivial
  | some vs => rfl
theorem wipe_set (σ : St) (i : Nat) (x : Option V) : ∀ vs : List Nat, wipe (σ.set i x) vs = if i ∈ vs then wipe σ vs else (wipe σ vs).set i x
  | [] => by simp [wipe]
  | v :: vs => by
    unfold wipe
    rw [wipe_set σ i x vs]
    by_cases h : i ∈ vs
    · simp [h]
    · by_cases e : i = v
      · subst e
        simp [h]
      · rw [if_neg h, if_neg (by simp [e, h]), List.set_comm _ _ e]
theorem Sm.set {ow : Option (List Nat)} {i : Nat} (h : Ow ow i) (σ : St) (x : Option V) : Sm ow σ (σ.set i x) := by
  cases ow with
  | none => trivial
  | some vs =>
    show wipe (σ.set i x) vs = wipe σ vs
    rw [wipe_set, if_pos (show i ∈ vs from h)]
def RG (K : PySem.W.Frag) (ow : Option (List Nat)) (g : DenT) : TG := fun v σ H Q => ∃ as env d env1, EnvR K as H σ env ∧ Rp K as H v d ∧ g d env = some env1 ∧ ∀ σ', EnvR K as H σ' env1 → Sm ow σ σ' → Q σ' H
abbrev DenTs := List D → Env → Option Env
def RGs (K : PySem.W.Frag) (ow : Option (List Nat)) (g : DenTs) : TGs := fun vs σ H Q => ∃ as env ds env1, EnvR K as H σ env ∧ RpL K as H vs ds ∧ g ds env = some env1 ∧ ∀ σ', EnvR K as H σ' env1 → Sm ow σ σ' → Q σ' H
theorem PG.re {X : Cx} {e : Expr} {t t' : TG} (h : PG X e t) (i : ∀ v σ H Q, t' v σ H Q → t v σ H Q) : PG X e t' := ⟨fun pins s σ H v u Q I r q => h.run pins s σ H v u Q I r (i v σ H Q q)⟩
theorem PGs.re {X : Cx} {e : List Expr} {t t' : TGs} (h : PGs X e t) (i : ∀ v σ H Q, t' v σ H Q → t v σ H Q) : PGs X e t' := ⟨fun pins s σ H v u Q I r q => h.run pins s σ H v u Q I r (i v σ H Q q)⟩
def tgName (i : Nat) : DenT := fun d env => some (env.set i (some d))
theorem pg_name' {ow : Option (List Nat)} {i : Nat} {x : Str} (ho : Ow ow i) (hN : X.N.Nodup) (hi : X.N[i]? = some x) (hx : Loc X.env.scope x) (hf : X.fn x = true ∨ X.env.scope.names.lookup x = some .local) : PG X (.Name x pos) (RG X.K ow (tgName i)) := PG.re (pg_name hN hi hx hf) fun v σ H Q h => by
  obtain ⟨as, env, d, env1, E, r, e, q⟩ := h
  cases e
  exact q _ (E.set r i) (Sm.set ho _ _)
def tgNil : DenTs := fun ds env => match ds with
  | [] => some env
  | _ :: _ => none
def tgCons (t : DenT) (u : DenTs) : DenTs := fun ds env => match ds with
  | [] => none
  | d :: r => match t d env with
    | some e1 => u r e1
    | none => none
theorem pgs_nil' {ow : Option (List Nat)} : PGs X [] (RGs X.K ow tgNil) := PGs.re pgs_nil fun v σ H Q h => by
  obtain ⟨as, env, d, env1, E, r, e, q⟩ := h
  cases r with
  | nil => cases e; exact ⟨rfl, q σ E (.refl _ _)⟩
  | cons _ _ => cases e
theorem pgs_cons' {ow : Option (List Nat)} {e : Expr} {es : List Expr} {t : DenT} {u : DenTs} (h1 : PG X e (RG X.K ow t)) (h2 : PGs X es (RGs X.K ow u))
    (hs : (assignEach (e :: es) X.env).map (·.2) = assign e X.env :: (assignEach es X.env).map (·.2)) : PGs X (e :: es) (RGs X.K ow (tgCons t u)) := PGs.re (pgs_cons h1 h2 hs) fun v σ H Q h => by
  obtain ⟨as, env, ds, env1, E, r, e, q⟩ := h
  cases r with
  | nil => cases e
  | cons r1 r2 =>
    rename_i v1 vs d1 ds1
    unfold tgCons at e
    simp only at e
    cases e1 : t d1 env with
    | none => rw [e1] at e; cases e
    | some e2 =>
      rw [e1] at e
      exact ⟨v1, vs, rfl, as, env, d1, e2, E, r1, e1, fun σ1 E1 m1 => ⟨as, e2, ds1, env1, E1, r2, e, fun σ2 E2 m2 => q σ2 E2 (m1.trans m2)⟩⟩
def tgTup (n : Nat) (u : DenTs) : DenT := fun d env => match d with
  | .tup ds => if ds.length = n then u ds env else none
  | _ => none
theorem pg_tup' {ow : Option (List Nat)} {es : List Expr} {k : Nat} {u : DenTs} {n : Nat} (hc : X.calm = true) (h : PGs X es (RGs X.K ow u)) (hn : (assignEach es X.env).length = n) (hst : (assignEach es X.env).findIdx? (·.1) = none) : PG X (.Tuple es k pos) (RG X.K ow (tgTup n u)) :=
  PG.re (pg_tup hc h hn hst) fun v σ H Q h => by
  obtain ⟨as, env, d, env1, E, r, e, q⟩ := h
  unfold tgTup at e
  cases r with
  | tup hT z rl =>
    rename_i p xs ds
    simp only at e
    by_cases hl : ds.length = n
    · rw [if_pos hl] at e
      exact ⟨p, xs, rfl, hT, by rw [rl.length]; exact hl, as, env, ds, env1, E, rl, e, q⟩
    · rw [if_neg hl] at e; cases e
  | _ => cases e
/-- target = e -/
def ostep (o : Option Env) (st : Store) : Fs := match o with
  | some e => .nx e st
  | none => .bad
def sAsg (f : Den) (g : DenT) : DenS := fun env st => (f env st).then env fun d st1 => ostep (g d env) st1
theorem rs_asg {K : PySem.W.Frag} {mg : Str → Option Value} {f : Den} {g : DenT} {Z : Ends} {σ : St} {H : Hp} (h : RS K mg W (sAsg f g) Z σ H) : tAsg (RE K mg W f) (RG K none g) Z σ H := by
  obtain ⟨as, env, st, E, S, h⟩ := h
  refine re_thenS E S h fun r st1 as1 H1 v x E1 S1 r1 h1 => ?_
  cases e : g r env with
  | none => rw [e] at h1; exact h1.elim
  | some e1 =>
    rw [e] at h1
    exact ⟨as1, env, r, e1, E1, r1, e, fun σ1 E2 _ => h1 as1 H1 σ1 (.refl _ _) S1 E2⟩
theorem ps_asg' {tg e : Expr} {f : Den} {g : DenT} (he : PE X e (RE X.K X.mg W f)) (hg : PG X tg (RG X.K none g)) (hs : swapsWithSole [tg] e pos.line X.env = pure false) (hw : swappedStores [tg] e X.env = pure none)
    (h1 : (assignEach [tg] X.env).map (·.2) = [assign tg X.env]) : PS X (.Assign [tg] e pos) (RS X.K X.mg W (sAsg f g)) := PS.re (ps_asg he hg hs hw h1) fun _ _ _ h => rs_asg h
/-- a, b = e1, e2 with plain local names (the pair is not made) -/
def sPar (i j : Nat) (f : DenA) : DenS := fun env st => (f env st).then env fun ds st1 => match ds with
  | [v, w] => .nx ((env.set i (some v)).set j (some w)) st1
  | _ => .bad
theorem rs_par {K : PySem.W.Frag} {mg : Str → Option Value} {f : DenA} {i j : Nat} {Z : Ends} {σ : St} {H : Hp} (h : RS K mg W (sPar i j f) Z σ H) : tPar i j (RA K mg W f) Z σ H := by
  obtain ⟨as, env, st, E, S, h⟩ := h
  refine ra_thenS E S h fun r st1 as1 H1 v x E1 S1 r1 h1 => ?_
  match r, r1, h1 with
  | [_, _], .cons ra (.cons rb .nil), h1 => exact ⟨_, _, rfl, h1 as1 H1 _ (.refl _ _) S1 ((E1.set ra i).set rb j)⟩
  | [], _, h1 => exact h1.elim
  | [_], _, h1 => exact h1.elim
  | _ :: _ :: _ :: _, _, h1 => exact h1.elim

/-! ### while -/
def whileN (t : DenB) (b : DenS) : Nat → Env → Store → Option Fs
  | 0, _, _ => none
  | n + 1, env, st => match t env st with
    | .ok false st1 => some (.nx env st1)
    | .ok true st1 => match b env st1 with
      | .nx e2 st2 => whileN t b n e2 st2
      | .ct e2 st2 => whileN t b n e2 st2
      | .brk e2 st2 => some (.nx e2 st2)
      | .ret d st2 => some (.ret d st2)
      | .exc e2 x fs st2 => some (.exc e2 x fs st2)
      | .bad => some .bad
    | .exc x fs st1 => some (.exc env x fs st1)
    | .bad => some .bad
theorem whileN_mono {t : DenB} {b : DenS} : ∀ (n k : Nat) (env : Env) (st : Store) (o : Fs), whileN t b n env st = some o → whileN t b (n + k) env st = some o
  | 0, _, _, _, _, h => by cases h
  | n + 1, k, env, st, o, h => by
    rw [Nat.add_right_comm]
    unfold whileN at h ⊢
    split at h
    · exact h
    · split at h
      · exact whileN_mono n k _ _ o h
      · exact whileN_mono n k _ _ o h
      · exact h
      · exact h
      · exact h
      · exact h
    · exact h
    · exact h
open Classical in
noncomputable def sWhile (t : DenB) (b : DenS) : DenS := fun env st => if h : ∃ n o, whileN t b n env st = some o then h.choose_spec.choose else .bad
theorem sWhile_of {t : DenB} {b : DenS} {n : Nat} {env : Env} {st : Store} {o : Fs} (h : whileN t b n env st = some o) : sWhile t b env st = o := by
  have hx : ∃ n o, whileN t b n env st = some o := ⟨n, o, h⟩
  unfold sWhile
  rw [dif_pos hx]
  have h2 := hx.choose_spec.choose_spec
  have h3 := whileN_mono _ n _ _ _ h2
  have h4 := whileN_mono _ hx.choose _ _ _ h
  rw [Nat.add_comm] at h4
  rw [h3] at h4
  exact Option.some.inj h4
theorem sWhile_has {t : DenB} {b : DenS} {env : Env} {st : Store} (h : sWhile t b env st ≠ .bad) : ∃ n, whileN t b n env st = some (sWhile t b env st) := by
  by_cases hx : ∃ n o, whileN t b n env st = some o
  · obtain ⟨n, o, e⟩ := hx
    exact ⟨n, by rw [sWhile_of e]; exact e⟩
  · unfold sWhile at h
    rw [dif_neg hx] at h
    exact absurd rfl h
/-- one turn -/
theorem sWhile_eq (t : DenB) (b : DenS) (env : Env) (st : Store) : sWhile t b env st = (t env st).then env fun c st1 => if c then
    (match b env st1 with
      | .nx e2 st2 => sWhile t b e2 st2
      | .ct e2 st2 => sWhile t b e2 st2
      | .brk e2 st2 => .nx e2 st2
      | o => o) else .nx env st1 := by
  have one : ∀ o, (∀ n, whileN t b (n + 1) env st = some o) → sWhile t b env st = o := fun o h => sWhile_of (h 0)
  have rec_ : ∀ e2 st2, (∀ n, whileN t b (n + 1) env st = whileN t b n e2 st2) → sWhile t b env st = sWhile t b e2 st2 := fun e2 st2 h => by
    by_cases hx : ∃ n o, whileN t b n e2 st2 = some o
    · obtain ⟨n, o, e⟩ := hx
      rw [sWhile_of e]
      exact sWhile_of (n := n + 1) (by rw [h]; exact e)
    · have hy : ¬ ∃ n o, whileN t b n env st = some o := fun ⟨n, o, e⟩ => by
        cases n with
        | zero => cases e
        | succ n => exact hx ⟨n, o, by rw [← h]; exact e⟩
      unfold sWhile
      rw [dif_neg hx, dif_neg hy]
  cases e : t env st with
  | ok c st1 =>
    cases c with
    | false => exact one _ fun n => by unfold whileN; rw [e]; rfl
    | true =>
      show _ = match b env st1 with
        | .nx e2 st2 => sWhile t b e2 st2
        | .ct e2 st2 => sWhile t b e2 st2
        | .brk e2 st2 => .nx e2 st2
        | o => o
      cases e1 : b env st1 with
      | nx e2 st2 => exact rec_ _ _ fun n => by rw [whileN, e]; simp only [e1]
      | ct e2 st2 => exact rec_ _ _ fun n => by rw [whileN, e]; simp only [e1]
      | brk e2 st2 => exact one _ fun n => by rw [whileN, e]; simp only [e1]
      | ret d st2 => exact one _ fun n => by rw [whileN, e]; simp only [e1]
      | exc e2 x fs st2 => exact one _ fun n => by rw [whileN, e]; simp only [e1]
      | bad => exact one _ fun n => by rw [whileN, e]; simp only [e1]
  | exc x fs st1 => exact one _ fun n => by rw [whileN, e]; rfl
  | bad => exact one _ fun n => by rw [whileN, e]; rfl
theorem rs_while {K : PySem.W.Frag} {mg : Str → Option Value} {t : DenB} {b : DenS} {Z : Ends} {σ : St} {H : Hp} (h : RS K mg W (sWhile t b) Z σ H) : tWhile (RT K mg W t) (RS K mg W b) Z σ H := by
  obtain ⟨as, env, st, E, S, h⟩ := h
  have nb : sWhile t b env st ≠ .bad := fun z => by rw [z] at h; exact h
  obtain ⟨n, hn⟩ := sWhile_has nb
  generalize sWhile t b env st = o at h hn
  refine ⟨fun m σ H => ∃ as env st, EnvR K as H σ env ∧ StR K as H st ∧ whileN t b m env st = some o ∧ o.wp K mg W as H Z, ⟨n, as, env, st, E, S, hn, h⟩, ?_⟩
  rintro m σ1 H1 ⟨as1, env1, st1, E1, S1, e, h1⟩
  cases m with
  | zero => cases e
  | succ m =>
    unfold whileN at e
    refine ⟨as1, env1, st1, E1, S1, ?_⟩
    cases et : t env1 st1 with
    | bad =>
      rw [et] at e; cases e; exact h1
    | exc x fs st2 =>
      rw [et] at e; cases e; exact WE.of E1 h1
    | ok c st2 =>
      rw [et] at e
      intro as2 H2 x2 S2
      have E2 := E1.ext x2
      have h2 := Fs.ext x2 h1
      cases c with
      | false =>
        cases e
        exact iteF (h2 as2 H2 σ1 (.refl _ _) S2 E2)
      | true =>
        refine iteT ⟨fun σ H => ∃ as env st, EnvR K as H σ env ∧ StR K as H st ∧ whileN t b m env st = some o ∧ o.wp K mg W as H Z, fun σ' H' w => ⟨m, Nat.lt_succ_self _, w⟩, as2, env1, st2, E2, S2, ?_⟩
        simp only at e
        cases eb : b env1 st2 with
        | nx e2 st3 => rw [eb] at e; exact fun as3 H3 σ3 x3 S3 E3 => ⟨as3, e2, st3, E3, S3, e, Fs.ext x3 h2⟩
        | ct e2 st3 => rw [eb] at e; exact fun as3 H3 σ3 x3 S3 E3 => ⟨as3, e2, st3, E3, S3, e, Fs.ext x3 h2⟩
        | brk e2 st3 => rw [eb] at e; cases e; exact h2
        | ret d st3 => rw [eb] at e; cases e; exact h2
        | exc e2 x fs st3 => rw [eb] at e; cases e; exact h2
        | bad => rw [eb] at e; cases e; exact h2
theorem ps_while' {c : Expr} {body : List Stmt} {t : DenB} {b : DenS} (hp : PassesOwn (model X.prog X.w) X.A X.env X.xe) (hc : PT X c (RT X.K X.mg W t)) (hb : PSs X body (RS X.K X.mg W b)) : PS X (.While c body [] pos) (RS X.K X.mg W (sWhile t b)) :=
  PS.re (ps_while hp hc hb) fun _ _ _ h => rs_while h
end
end
end L2.PyD
/-! PyD, part 4: what loops and comprehensions walk; for; list comprehensions. -/
namespace L2.PyD
open PySem PySem.Spec PyProof.Rows
noncomputable section

/-- the items, and the cell that must stay as it is meanwhile -/
abbrev Items := List D × Option (Nat × Cell)
abbrev DenI := Env → Store → Out Items
def Gd (src : Option (Nat × Cell)) (st : Store) : Prop := match src with
  | none => True
  | some (i, c) => st[i]? = some c
def ItOk (K : PySem.W.Frag) (J : It) (as : List Addr) (H : Hp) (it : Items) : Prop :=
  ∀ as2 H2 st2, Ext as H as2 H2 → StR K as2 H2 st2 → Gd it.2 st2 → it.1.length ≤ sizeLine ∧ ∀ i : Nat,
    (∀ d, it.1[i]? = some d → J.go i H2 ∧ ∀ x H3, J.yld i H2 x H3 → Ext as2 H2 as2 H3 ∧ StR K as2 H3 st2 ∧ Rp K as2 H3 x d) ∧ (it.1.length ≤ i → J.stop i H2)
section
variable (K : PySem.W.Frag) (mg : Str → Option Value) (W : WX)
def WI (as : List Addr) (H : Hp) (R : It → Hp → Prop) (it : Items) (st' : Store) : Prop :=
  ∀ as' H' J, Ext as H as' H' → StR K as' H' st' → Gd it.2 st' → ItOk K J as' H' it → R J H'
def RI (f : DenI) : TI := fun σ H R => ∃ as env st, EnvR K as H σ env ∧ StR K as H st ∧ (f env st).wp (WI K as H R) (WE K mg W as H σ)
end
theorem PI.re {X : Cx} {tg e : Expr} {t t' : TI} (h : PI X tg e t) (i : ∀ σ H R, t' σ H R → t σ H R) : PI X tg e t' := ⟨fun pins s σ H R I q => h.run pins s σ H R I (i σ H R q)⟩

theorem ItOk.list {K : PySem.W.Frag} {a : Addr} {as : List Addr} {H : Hp} {ds : List D} {src : Option (Nat × Cell)}
    (h : ∀ as2 H2 st2, Ext as H as2 H2 → StR K as2 H2 st2 → Gd src st2 → ∃ xs, SqL K H2 a xs ∧ xs.length ≤ sizeLine ∧ RpL K as2 H2 xs ds) : ItOk K (Itl K a) as H (ds, src) := by
  intro as2 H2 st2 x2 S2 g
  obtain ⟨xs, hq, z, r⟩ := h as2 H2 st2 x2 S2 g
  refine ⟨by show ds.length ≤ sizeLine; rw [← r.length]; exact z, fun i => ?_⟩
  refine ⟨fun d e => ?_, fun hi => ⟨xs, hq, by rw [r.length]; exact hi⟩⟩
  obtain ⟨v, h1, h2⟩ := r.get e
  refine ⟨⟨xs, v, hq, h1⟩, fun x H3 y => ?_⟩
  obtain ⟨e3, y⟩ := y
  subst e3
  have := y xs hq
  rw [h1] at this
  cases this
  exact ⟨.refl _ _, S2, h2⟩
theorem ItOk.tuple {K : PySem.W.Frag} {a : Addr} {as : List Addr} {H : Hp} {ds : List D} {xs : List V} (hq : SqT K H a xs) (z : xs.length ≤ sizeLine) (r : RpL K as H xs ds) : ItOk K (Itt K a) as H (ds, none) := by
  intro as2 H2 st2 x2 S2 g
  have hq := SqT.ext x2 hq
  have r := RpL.ext x2 r
  refine ⟨by show ds.length ≤ sizeLine; rw [← r.length]; exact z, fun i => ?_⟩
  refine ⟨fun d e => ?_, fun hi => ⟨xs, hq, by rw [r.length]; exact hi⟩⟩
  obtain ⟨v, h1, h2⟩ := r.get e
  refine ⟨⟨xs, v, hq, h1⟩, fun x H3 y => ?_⟩
  obtain ⟨e3, y⟩ := y
  subst e3
  have := y xs hq
  rw [h1] at this
  cases this
  exact ⟨.refl _ _, S2, h2⟩
def rng (lo : Int) (n : Nat) : List D := (List.range n).map fun (k : Nat) => D.int (lo + k)
theorem ItOk.range {K : PySem.W.Frag} {as : List Addr} {H : Hp} (lo : Int) (n : Nat) (z : n ≤ sizeLine) : ItOk K (Itr lo n) as H (rng lo n, none) := by
  intro as2 H2 st2 x2 S2 g
  refine ⟨by show (rng lo n).length ≤ sizeLine; simpa [rng] using z, fun i => ?_⟩
  refine ⟨fun d e => ?_, fun hi => by
    show n ≤ i
    simpa [rng] using hi⟩
  unfold rng at e
  have hi : i < n := by simpa using (List.getElem?_eq_some_iff.mp e).1
  refine ⟨hi, fun x H3 y => ?_⟩
  obtain ⟨e3, e4⟩ := y
  subst e3 e4
  simp [hi] at e
  subst e
  exact ⟨.refl _ _, S2, .int _⟩
/-- a sequence's items: a tuple, a list, a cell's list -/
def seqD (st : Store) : D → Option Items
  | .tup ds => some (ds, none)
  | .lst ds => some (ds, none)
  | .frl ds => some (ds, none)
  | .cell i => match st[i]? with
    | some (.lst ds) => some (ds, some (i, .lst ds))
    | _ => none
  | _ => none
/-- how such a sequence lies -/
theorem seq_lies {K : PySem.W.Frag} {as : List Addr} {H : Hp} {st : Store} {v : V} {d : D} {it : Items} (S : StR K as H st) (r : Rp K as H v d) (e : seqD st d = some it) : Gd it.2 st ∧ ∃ a, v = .ref a ∧
    (((∀ as2 H2 st2, Ext as H as2 H2 → StR K as2 H2 st2 → Gd it.2 st2 → ∃ xs, SqL K H2 a xs ∧ xs.length ≤ sizeLine ∧ RpL K as2 H2 xs it.1)) ∨ (it.2 = none ∧ ∃ xs, SqT K H a xs ∧ xs.length ≤ sizeLine ∧ RpL K as H xs it.1)) := by
  cases r with
  | tup h z r => cases e; exact ⟨trivial, _, rfl, .inr ⟨rfl, _, h, z, r⟩⟩
  | lst h c z r =>
    cases e
    refine ⟨trivial, _, rfl, .inl fun as2 H2 st2 x2 S2 g => ?_⟩
    exact ⟨_, SqL.of (x2.keep _ _ h (.inl c)), z, RpL.ext x2 r⟩
  | frl h z r => cases e; exact ⟨trivial, _, rfl, .inl fun as2 H2 st2 x2 S2 g => ⟨_, (FixL.ext x2 h).seq, z, RpL.ext x2 r⟩⟩
  | cell h =>
    obtain ⟨c, e1, hR⟩ := S.get' h
    simp only [seqD, e1] at e
    cases c with
    | dct kvs => cases e
    | lst ds =>
      cases e
      refine ⟨e1, _, rfl, .inl fun as2 H2 st2 x2 S2 g => ?_⟩
      obtain ⟨p2, h2, xs, hx, z, r⟩ := S2.get g
      rw [x2.get h] at h2
      cases h2
      exact ⟨xs, SqL.of hx, z, r⟩
  | _ => cases e
def oitems (o : Option Items) (st : Store) : Out Items := match o with
  | some it => .ok it st
  | none => .bad
/-- enumerate: the items in new pairs -/
def enumG : Nat → List D → List D
  | _, [] => []
  | i, d :: r => .tup [.int (i : Nat), d] :: enumG (i + 1) r
theorem enumG_len : ∀ (i : Nat) (ds : List D), (enumG i ds).length = ds.length
  | _, [] => rfl
  | i, _ :: r => congrArg (· + 1) (enumG_len (i + 1) r)
theorem enumG_get : ∀ (j : Nat) (ds : List D) (i : Nat), (enumG j ds)[i]? = (ds[i]?).map fun d => .tup [.int ((j + i : Nat) : Int), d]
  | _, [], i => by simp [enumG]
  | j, d :: r, 0 => by simp [enumG]
  | j, d :: r, i + 1 => by
    unfold enumG
    rw [List.getElem?_cons_succ, List.getElem?_cons_succ, enumG_get (j + 1) r i]
    have : j + 1 + i = j + (i + 1) := by omega
    rw [this]
theorem ItOk.enum {K : PySem.W.Frag} {a : Addr} {as : List Addr} {H : Hp} {ds : List D} {src : Option (Nat × Cell)}
    (h : ∀ as2 H2 st2, Ext as H as2 H2 → StR K as2 H2 st2 → Gd src st2 → ∃ xs, SqL K H2 a xs ∧ xs.length ≤ sizeLine ∧ RpL K as2 H2 xs ds) : ItOk K (Ite K a) as H (enumG 0 ds, src) := by
  intro as2 H2 st2 x2 S2 g
  obtain ⟨xs, hq, z, r⟩ := h as2 H2 st2 x2 S2 g
  refine ⟨by show (enumG 0 ds).length ≤ sizeLine; rw [enumG_len, ← r.length]; exact z, fun i => ?_⟩
  refine ⟨fun d e => ?_, fun hi => ⟨xs, hq, by rw [r.length]; rw [enumG_len] at hi; exact hi⟩⟩
  rw [enumG_get] at e
  cases ed : ds[i]? with
  | none => rw [ed] at e; cases e
  | some d0 =>
    rw [ed, Nat.zero_add] at e
    cases e
    obtain ⟨v, h1, h2⟩ := r.get ed
    refine ⟨⟨xs, v, hq, h1⟩, fun x H3 y => ?_⟩
    obtain ⟨T, x1, e0, hn, e3, y⟩ := y
    subst e0 e3
    have := y xs hq
    rw [h1] at this
    cases this
    obtain ⟨xx, SS⟩ := S2.alloc (.tup [.int (i : Nat), v]) hn
    refine ⟨xx, SS, .tup (.inl (.inl (by simp [upd]))) (by show 2 ≤ sizeLine; decide) (.cons (.int _) (.cons (Rp.ext xx h2) .nil))⟩
/-- for .. in e -/
def iVal (f : Den) : DenI := fun env st => (f env st).bind fun d st1 => oitems (seqD st1 d) st1
section
variable {X : Cx} {W : WX} {pos : Pos} {tg : Expr}
/-- one more object of the machine's own (an iterator) -/
theorem iter_new {pins : List (Addr × Obj)} {σ : St} {H : Hp} {s : Shared} {J : It} {o : Obj} {R : It → Hp → Prop} {tn : Nat → Heap → Prop} (I : Inv X pins σ H s) (T : Turn X.prog X.w X.K tg J [s.heap.objs.size] s.heap.objs.size tn)
    (t0 : tn 0 (s.heap.push o)) (q : R J H) : PIE X pins σ tg R (.ref s.heap.objs.size) { s with heap := s.heap.push o } := by
  refine ⟨s.heap.objs.size, [s.heap.objs.size], tn, J, H, rfl, ?_, T, t0, ?_, q⟩
  · exact I.kept (t' := s.toks) fun b u e => Heap.get?_push_of_some _ e
  · intro b hb
    rw [List.mem_singleton.mp hb]
    exact I.fpOk (Nat.le_refl _) (I.hok.fresh (Nat.le_refl _))
theorem pi_val' {e : Expr} {f : Den} (he : PE X e (RE X.K X.mg W f)) : PI X tg e (RI X.K X.mg W (iVal f)) := by
  constructor
  intro pins s σ H R I h
  obtain ⟨as, env, st, E, S, h⟩ := h
  have hr : RE X.K X.mg W f σ H (fun v H1 => ∃ a, v = .ref a ∧ (((∃ xs, SqL X.K H1 a xs) ∧ R (Itl X.K a) H1) ∨ ((∃ xs, SqT X.K H1 a xs) ∧ R (Itt X.K a) H1))) := by
    refine re_then E S h fun r st1 as1 H1 v x1 E1 S1 r1 h1 => ?_
    generalize e : seqD st1 r = o at h1
    cases o with
    | none => exact h1.elim
    | some it =>
      obtain ⟨g, a, ev, hh⟩ := seq_lies S1 r1 e
      refine ⟨a, ev, ?_⟩
      rcases hh with hh | ⟨en, xs, hq, z, rl⟩
      · obtain ⟨xs, hq, z, rl⟩ := hh as1 H1 st1 (.refl _ _) S1 g
        exact .inl ⟨⟨xs, hq⟩, h1 as1 H1 _ x1 S1 g (ItOk.list hh)⟩
      · obtain ⟨i1, i2⟩ := it
        cases en
        exact .inr ⟨⟨xs, hq⟩, h1 as1 H1 _ x1 S1 g (ItOk.tuple hq z rl)⟩
  refine thn (he.run pins s σ H _ I hr) fun v s1 z => ?_
  obtain ⟨x, H1, I1, r1, a, ea, q⟩ := z
  subst ea
  obtain rfl : v = Value.ref a := r1
  rcases q with ⟨⟨xs, hq⟩, q⟩ | ⟨⟨xs, hq⟩, q⟩
  · obtain ⟨its, rv, p, hz⟩ := I1.list hq
    exact wpAny_pyIter_list p.isList (iter_new I1 (turn_list a _) ⟨_, Heap.get?_push_size _ rfl, rfl, rfl⟩ q)
  · obtain ⟨its, rv, p, hz⟩ := I1.tuple hq
    exact wpAny_pyIter_tuple p (iter_new I1 (turn_tuple a _) ⟨_, Heap.get?_push_size _ rfl, rfl, rfl⟩ q)
/-- range(n), range(a, b) -/
def inR (i : Int) : Bool := dec (-(2 ^ 62) ≤ i) && dec (i < 2 ^ 62)
theorem inR_of {i : Int} (h : inR i = true) : -(2 ^ 62) ≤ i ∧ i < 2 ^ 62 := by
  unfold inR at h
  rw [Bool.and_eq_true] at h
  exact ⟨of_dec h.1, of_dec h.2⟩
def rngD : List D → Option Items
  | [.int n] => if inR n && dec (n.toNat ≤ sizeLine) then some (rng 0 n.toNat, none) else none
  | [.int a, .int b] => if inR a && inR b && dec ((b - a).toNat ≤ sizeLine) then some (rng a (b - a).toNat, none) else none
  | _ => none
theorem rngD1 (n : Int) : rngD [.int n] = if inR n && dec (n.toNat ≤ sizeLine) then some (rng 0 n.toNat, none) else none := rfl
theorem rngD2 (a b : Int) : rngD [.int a, .int b] = if inR a && inR b && dec ((b - a).toNat ≤ sizeLine) then some (rng a (b - a).toNat, none) else none := rfl
def iRng (f : DenA) : DenI := fun env st => (f env st).bind fun ds st1 => oitems (rngD ds) st1
theorem pi_range1' {a : Expr} {f : DenA} {p : Pos} (hg : Gl X "range") (hm : X.mg "range" = none) (ha : PA X [a] (RA X.K X.mg W f)) (hs : starEach [a] X.env = [(false, eval a X.env)]) (h1 : ∀ ds env st st1, f env st = .ok ds st1 → ds.length = 1) :
    PI X tg (.Call (.Name "range" p) [a] [] pos) (RI X.K X.mg W (iRng f)) := PI.re (pi_range1 hg hm ha hs) fun σ H R h => by
  obtain ⟨as, env, st, E, S, h⟩ := h
  have hl := fun ds st1 => h1 ds env st st1
  refine ⟨as, env, st, E, S, Out.wp_mono (Out.wp_bind h) (fun ds st1 e h2 as1 H1 vs x1 S1 r1 => ?_) fun _ _ _ z => z⟩
  have h3 := hl ds st1 e
  match ds, r1, h3, h2 with
  | [.int n], .cons r .nil, _, h2 =>
    rw [rngD1] at h2
    by_cases hn : (inR n && dec (n.toNat ≤ sizeLine)) = true
    · rw [if_pos hn] at h2
      cases r
      rw [Bool.and_eq_true] at hn
      obtain ⟨z1, z2⟩ := inR_of hn.1
      exact ⟨n, rfl, z1, z2, h2 as1 H1 _ x1 S1 trivial (ItOk.range 0 n.toNat (of_dec hn.2))⟩
    · rw [if_neg hn] at h2; exact h2.elim
  | [.non], _, _, h2 => exact h2.elim
  | [.bl _], _, _, h2 => exact h2.elim
  | [.str _], _, _, h2 => exact h2.elim
  | [.tup _], _, _, h2 => exact h2.elim
  | [.lst _], _, _, h2 => exact h2.elim
  | [.frl _], _, _, h2 => exact h2.elim
  | [.cell _], _, _, h2 => exact h2.elim
  | [.ty _], _, _, h2 => exact h2.elim
theorem pi_range2' {a b : Expr} {f : DenA} {p : Pos} (hg : Gl X "range") (hm : X.mg "range" = none) (ha : PA X [a, b] (RA X.K X.mg W f)) (hs : starEach [a, b] X.env = [(false, eval a X.env), (false, eval b X.env)]) (hs2 : starEach [b] X.env = [(false, eval b X.env)])
    (h1 : ∀ ds env st st1, f env st = .ok ds st1 → ds.length = 2) : PI X tg (.Call (.Name "range" p) [a, b] [] pos) (RI X.K X.mg W (iRng f)) := PI.re (pi_range2 hg hm ha hs hs2) fun σ H R h => by
  obtain ⟨as, env, st, E, S, h⟩ := h
  have hl := fun ds st1 => h1 ds env st st1
  refine ⟨as, env, st, E, S, Out.wp_mono (Out.wp_bind h) (fun ds st1 e h2 as1 H1 vs x1 S1 r1 => ?_) fun _ _ _ z => z⟩
  have h3 := hl ds st1 e
  match ds, h3 with
  | [d1, d2], _ =>
    have key : ∃ i j, d1 = .int i ∧ d2 = .int j ∧ (inR i && inR j && dec ((j - i).toNat ≤ sizeLine)) = true := by
      cases d1 with
      | int i =>
        cases d2 with
        | int j =>
          by_cases hn : (inR i && inR j && dec ((j - i).toNat ≤ sizeLine)) = true
          · exact ⟨i, j, rfl, rfl, hn⟩
          · rw [rngD2, if_neg hn] at h2; exact h2.elim
        | _ => exact h2.elim
      | _ => cases d2 <;> exact h2.elim
    obtain ⟨i, j, e1, e2, hn⟩ := key
    subst e1 e2
    rw [rngD2, if_pos hn] at h2
    rw [Bool.and_eq_true, Bool.and_eq_true] at hn
    obtain ⟨z1, z2⟩ := inR_of hn.1.1
    obtain ⟨z3, z4⟩ := inR_of hn.1.2
    cases r1 with
    | cons ra rr =>
      cases rr with
      | cons rb rr =>
        cases rr
        cases ra
        cases rb
        exact ⟨i, j, rfl, ⟨z1, z2, z3, z4⟩, h2 as1 H1 _ x1 S1 trivial (ItOk.range i (j - i).toNat (of_dec hn.2))⟩
/-- enumerate(e), of a list -/
def lstO : D → Bool
  | .tup _ => false
  | _ => true
theorem seq_liesL {K : PySem.W.Frag} {as : List Addr} {H : Hp} {st : Store} {v : V} {d : D} {it : Items} (hl : lstO d = true) (S : StR K as H st) (r : Rp K as H v d) (e : seqD st d = some it) : Gd it.2 st ∧ ∃ a, v = .ref a ∧
    ∀ as2 H2 st2, Ext as H as2 H2 → StR K as2 H2 st2 → Gd it.2 st2 → ∃ xs, SqL K H2 a xs ∧ xs.length ≤ sizeLine ∧ RpL K as2 H2 xs it.1 := by
  cases r with
  | tup h z r => cases hl
  | lst h c z r =>
    cases e
    exact ⟨trivial, _, rfl, fun as2 H2 st2 x2 S2 g => ⟨_, SqL.of (x2.keep _ _ h (.inl c)), z, RpL.ext x2 r⟩⟩
  | frl h z r => cases e; exact ⟨trivial, _, rfl, fun as2 H2 st2 x2 S2 g => ⟨_, (FixL.ext x2 h).seq, z, RpL.ext x2 r⟩⟩
  | cell h =>
    obtain ⟨c, e1, hR⟩ := S.get' h
    simp only [seqD, e1] at e
    cases c with
    | dct kvs => cases e
    | lst ds =>
      cases e
      refine ⟨e1, _, rfl, fun as2 H2 st2 x2 S2 g => ?_⟩
      obtain ⟨p2, h2, xs, hx, z, r⟩ := S2.get g
      rw [x2.get h] at h2
      cases h2
      exact ⟨xs, SqL.of hx, z, r⟩
  | _ => cases e
def enumD (st : Store) : List D → Option Items
  | [d] => if lstO d then (seqD st d).map fun it => (enumG 0 it.1, it.2) else none
  | _ => none
theorem enumD_yes {st : Store} {d : D} (h : lstO d = true) : enumD st [d] = (seqD st d).map fun it => (enumG 0 it.1, it.2) := if_pos h
theorem enumD_no {st : Store} {d : D} (h : ¬ lstO d = true) : enumD st [d] = none := if_neg h
def iEnu (f : DenA) : DenI := fun env st => (f env st).bind fun ds st1 => oitems (enumD st1 ds) st1
theorem pi_enum' {a : Expr} {f : DenA} {p tpos : Pos} {elts : List Expr} {kk : Nat} (hg : Gl X "enumerate") (hm : X.mg "enumerate" = none) (ha : PA X [a] (RA X.K X.mg W f)) (hs : starEach [a] X.env = [(false, eval a X.env)]) :
    PI X (.Tuple elts kk tpos) (.Call (.Name "enumerate" p) [a] [] pos) (RI X.K X.mg W (iEnu f)) := PI.re (pi_enum hg hm ha hs) fun σ H R h => by
  obtain ⟨as, env, st, E, S, h⟩ := h
  refine ⟨as, env, st, E, S, Out.wp_mono (Out.wp_bind h) (fun ds st1 e h2 as1 H1 vs x1 S1 r1 => ?_) fun _ _ _ z => z⟩
  cases r1 with
  | nil => exact h2.elim
  | cons ra rr =>
    cases rr with
    | cons _ _ => exact h2.elim
    | nil =>
      rename_i v d
      by_cases hl : lstO d = true
      · have ee := enumD_yes (st := st1) hl
        rw [ee] at h2
        generalize e : seqD st1 d = o at h2
        cases o with
        | none => exact h2.elim
        | some it =>
          obtain ⟨g, a, ev, hh⟩ := seq_liesL hl S1 ra e
          subst ev
          obtain ⟨xs, hq, z, rl⟩ := hh as1 H1 st1 (.refl _ _) S1 g
          exact ⟨a, xs, rfl, hq, h2 as1 H1 _ x1 S1 g (ItOk.enum hh)⟩
      · have ee := enumD_no (st := st1) hl
        rw [ee] at h2
        exact h2.elim

/-! ### for -/
open Classical in
noncomputable def forL (src : Option (Nat × Cell)) (g : DenT) (b : DenS) : List D → Env → Store → Fs
  | [], env, st => .nx env st
  | x :: xs, env, st => match g x env with
    | none => .bad
    | some e1 => match b e1 st with
      | .nx e2 st2 => if Gd src st2 then forL src g b xs e2 st2 else .bad
      | .ct e2 st2 => if Gd src st2 then forL src g b xs e2 st2 else .bad
      | .brk e2 st2 => .nx e2 st2
      | o => o
noncomputable def sFor (fi : DenI) (g : DenT) (b : DenS) : DenS := fun env st => (fi env st).then env fun it st1 => forL it.2 g b it.1 env st1
theorem rs_for {K : PySem.W.Frag} {mg : Str → Option Value} {fi : DenI} {g : DenT} {b : DenS} {Z : Ends} {σ : St} {H : Hp} (h : RS K mg W (sFor fi g b) Z σ H) : tFor (RI K mg W fi) (RG K none g) (RS K mg W b) Z σ H := by
  obtain ⟨as, env, st, E, S, h⟩ := h
  refine ⟨as, env, st, E, S, ?_⟩
  unfold sFor at h
  generalize fi env st = o at h
  cases o with
  | bad => exact h
  | exc x fs st1 => exact WE.of E h
  | ok it st1 =>
    intro as1 H1 J x1 S1 g1 ok
    have h1 : (forL it.2 g b it.1 env st1).wp K mg W as1 H1 Z := Fs.ext x1 h
    refine ⟨fun i m σ H2 => m = it.1.length - i ∧ i ≤ it.1.length ∧ ∃ as2 env2 st2, Ext as1 H1 as2 H2 ∧ EnvR K as2 H2 σ env2 ∧ StR K as2 H2 st2 ∧ Gd it.2 st2 ∧ (forL it.2 g b (it.1.drop i) env2 st2).wp K mg W as2 H2 Z, ⟨_, rfl, Nat.zero_le _, as1, env, st1, .refl _ _, E.ext x1, S1, g1, h1⟩, ?_⟩
    rintro i m σ2 H2 ⟨rfl, hi, as2, env2, st2, x2, E2, S2, g2, h2⟩
    have okk := (ok as2 H2 st2 x2 S2 g2).2 i
    by_cases hlt : i < it.1.length
    · right
      have ed : it.1.drop i = it.1[i] :: it.1.drop (i + 1) := List.drop_eq_getElem_cons hlt
      rw [ed] at h2
      obtain ⟨hgo, hy⟩ := okk.1 it.1[i] (List.getElem?_eq_getElem hlt)
      refine ⟨hgo, fun σ' H' => i + 1 ≤ it.1.length ∧ ∃ as3 env3 st3, Ext as1 H1 as3 H' ∧ EnvR K as3 H' σ' env3 ∧ StR K as3 H' st3 ∧ Gd it.2 st3 ∧ (forL it.2 g b (it.1.drop (i + 1)) env3 st3).wp K mg W as3 H' Z, fun σ' H' w => ⟨it.1.length - (i + 1), by omega, rfl, w.1, w.2⟩, fun x H3 y => ?_⟩
      obtain ⟨x3, S3, r3⟩ := hy x H3 y
      have h3 := Fs.ext x3 h2
      unfold forL at h3
      cases eg : g it.1[i] env2 with
      | none => rw [eg] at h3; exact h3.elim
      | some e1 =>
        rw [eg] at h3
        refine ⟨as2, env2, it.1[i], e1, E2.ext x3, r3, eg, fun σ4 E4 _ => ⟨as2, e1, st2, E4, S3, ?_⟩⟩
        simp only at h3
        cases eb : b e1 st2 with
        | nx e2 st5 =>
          rw [eb] at h3
          simp only at h3
          intro as5 H5 σ5 x5 S5 E5
          by_cases hG : Gd it.2 st5
          · rw [if_pos hG] at h3
            exact ⟨hlt, as5, e2, st5, (x2.trans x3).trans x5, E5, S5, hG, Fs.ext x5 h3⟩
          · rw [if_neg hG] at h3; exact h3.elim
        | ct e2 st5 =>
          rw [eb] at h3
          simp only at h3
          intro as5 H5 σ5 x5 S5 E5
          by_cases hG : Gd it.2 st5
          · rw [if_pos hG] at h3
            exact ⟨hlt, as5, e2, st5, (x2.trans x3).trans x5, E5, S5, hG, Fs.ext x5 h3⟩
          · rw [if_neg hG] at h3; exact h3.elim
        | brk e2 st5 => rw [eb] at h3; exact h3
        | ret d st5 => rw [eb] at h3; exact h3
        | exc e2 y fs st5 => rw [eb] at h3; exact h3
        | bad => rw [eb] at h3; exact h3
    · left
      have : i = it.1.length := by omega
      subst this
      rw [List.drop_length] at h2
      exact ⟨okk.2 (Nat.le_refl _), h2 as2 H2 σ2 (.refl _ _) S2 E2⟩
theorem ps_for' {iter : Expr} {body : List Stmt} {fi : DenI} {g : DenT} {b : DenS} (hp : PassesOwn (model X.prog X.w) X.A X.env X.xe) (hc : X.calm = true) (hi : PI X tg iter (RI X.K X.mg W fi)) (hg : PG X tg (RG X.K none g)) (hb : PSs X body (RS X.K X.mg W b))
    (hs : ∀ x, foldedSetIterable iter X.env x = pure x) : PS X (.For tg iter body [] pos) (RS X.K X.mg W (sFor fi g b)) := PS.re (ps_for hp hc hi hg hb hs) fun _ _ _ h => rs_for h
end
end
end L2.PyD
/-! PyD, part 5: what is left behind; comprehensions; calls; bodies. -/
namespace L2.PyD
open PySem PySem.Spec PyProof.Rows
noncomputable section

mutual
/-- no cell from the n-th on is named -/
def D.undr (n : Nat) : D → Bool
  | .cell i => decide (i < n)
  | .tup ds => D.undrL n ds
  | .lst ds => D.undrL n ds
  | .frl ds => D.undrL n ds
  | .non => true
  | .bl _ => true
  | .int _ => true
  | .str _ => true
  | .ty _ => true
def D.undrL (n : Nat) : List D → Bool
  | [] => true
  | d :: ds => D.undr n d && D.undrL n ds
end
def Cell.undr (n : Nat) : Cell → Bool
  | .lst ds => D.undrL n ds
  | .dct kvs => D.undrL n (kvs.map (·.2))
mutual
theorem Rp.undr {K : PySem.W.Frag} {as : List Addr} {H : Hp} : ∀ {v : V} {d : D}, Rp K as H v d → d.undr as.length = true
  | _, _, .non => rfl
  | _, _, .bl _ => rfl
  | _, _, .int _ => rfl
  | _, _, .str _ => rfl
  | _, _, .ty _ => rfl
  | _, _, .tup _ _ r => RpL.undr r
  | _, _, .lst _ _ _ r => RpL.undr r
  | _, _, .frl _ _ r => RpL.undr r
  | _, _, .cell h => decide_eq_true (List.getElem?_eq_some_iff.mp h).1
theorem RpL.undr {K : PySem.W.Frag} {as : List Addr} {H : Hp} : ∀ {vs : List V} {ds : List D}, RpL K as H vs ds → D.undrL as.length ds = true
  | _, _, .nil => rfl
  | _, _, .cons h r => by
    unfold D.undrL
    rw [Rp.undr h, RpL.undr r]
    rfl
end
mutual
theorem Rp.cut {K : PySem.W.Frag} {as : List Addr} {H : Hp} {n : Nat} : ∀ {v : V} {d : D}, Rp K as H v d → d.undr n = true → Rp K (as.take n) H v d
  | _, _, .non, _ => .non
  | _, _, .bl b, _ => .bl b
  | _, _, .int i, _ => .int i
  | _, _, .str s, _ => .str s
  | _, _, .ty s, _ => .ty s
  | _, _, .tup h z r, b => .tup h z (RpL.cut r b)
  | _, _, .lst h c z r, b => .lst h (fun m => c (List.mem_of_mem_take m)) z (RpL.cut r b)
  | _, _, .frl h z r, b => .frl h z (RpL.cut r b)
  | _, _, .cell h, b => .cell (by rw [List.getElem?_take_of_lt (of_decide_eq_true b)]; exact h)
theorem RpL.cut {K : PySem.W.Frag} {as : List Addr} {H : Hp} {n : Nat} : ∀ {vs : List V} {ds : List D}, RpL K as H vs ds → D.undrL n ds = true → RpL K (as.take n) H vs ds
  | _, _, .nil, _ => .nil
  | _, _, .cons h r, b => by
    unfold D.undrL at b
    rw [Bool.and_eq_true] at b
    exact .cons (Rp.cut h b.1) (RpL.cut r b.2)
end
theorem pairs_undr {K : PySem.W.Frag} {as : List Addr} {H : Hp} : ∀ {ws : List (List Key × V)} {kvs : List (List Key × D)}, Paired (fun (a : List Key × V) (b : List Key × D) => a.1 = b.1 ∧ Rp K as H a.2 b.2) ws kvs → D.undrL as.length (kvs.map (·.2)) = true
  | _, _, .nil => rfl
  | _, _, .cons h r => by
    rw [List.map_cons]
    unfold D.undrL
    rw [Rp.undr h.2, pairs_undr r]
    rfl
theorem pairs_cut {K : PySem.W.Frag} {as : List Addr} {H : Hp} {n : Nat} : ∀ {ws : List (List Key × V)} {kvs : List (List Key × D)}, Paired (fun (a : List Key × V) (b : List Key × D) => a.1 = b.1 ∧ Rp K as H a.2 b.2) ws kvs → D.undrL n (kvs.map (·.2)) = true →
    Paired (fun (a : List Key × V) (b : List Key × D) => a.1 = b.1 ∧ Rp K (as.take n) H a.2 b.2) ws kvs
  | _, _, .nil, _ => .nil
  | _, _, .cons h r, b => by
    rw [List.map_cons] at b
    unfold D.undrL at b
    rw [Bool.and_eq_true] at b
    exact .cons ⟨h.1, Rp.cut h.2 b.1⟩ (pairs_cut r b.2)
theorem CellR.undr {K : PySem.W.Frag} {as : List Addr} {H : Hp} {p : Addr} : ∀ {c : Cell}, CellR K as H p c → c.undr as.length = true
  | .lst _, ⟨_, _, _, r⟩ => RpL.undr r
  | .dct _, ⟨_, _, r⟩ => pairs_undr r
theorem CellR.cut {K : PySem.W.Frag} {as : List Addr} {H : Hp} {p : Addr} {n : Nat} : ∀ {c : Cell}, CellR K as H p c → c.undr n = true → CellR K (as.take n) H p c
  | .lst _, ⟨xs, h, z, r⟩, b => ⟨xs, h, z, RpL.cut r b⟩
  | .dct _, ⟨ws, h, r⟩, b => ⟨ws, h, pairs_cut r b⟩

def mapO {α β : Type} (f : α → Option β) : List α → Option (List β)
  | [] => some []
  | x :: xs => match f x with
    | some y => match mapO f xs with
      | some ys => some (y :: ys)
      | none => none
    | none => none
theorem mapO_cons {α β : Type} {f : α → Option β} {x : α} {xs : List α} {zs : List β} (h : mapO f (x :: xs) = some zs) : ∃ y ys, f x = some y ∧ mapO f xs = some ys ∧ zs = y :: ys := by
  unfold mapO at h
  cases e1 : f x with
  | none => rw [e1] at h; cases h
  | some y =>
    rw [e1] at h
    simp only at h
    cases e2 : mapO f xs with
    | none => rw [e2] at h; cases h
    | some ys => rw [e2] at h; cases h; exact ⟨y, ys, rfl, rfl, rfl⟩
/-- a value as it is seen when the cells from the n-th on are given up: they stand still from then on -/
def frz (s : Store) (n : Nat) : Nat → D → Option D
  | 0, d => if d.undr n then some d else none
  | k + 1, d => if d.undr n then some d else match d with
    | .cell i => match s[i]? with
      | some (.lst ds) => (mapO (frz s n k) ds).map D.lst
      | _ => none
    | .tup ds => (mapO (frz s n k) ds).map D.tup
    | .lst ds => (mapO (frz s n k) ds).map D.lst
    | .frl ds => (mapO (frz s n k) ds).map D.frl
    | _ => none
theorem frzL_ok {K : PySem.W.Frag} {as : List Addr} {H : Hp} {n : Nat} {f : D → Option D} (hf : ∀ {v : V} {d e : D}, Rp K as H v d → f d = some e → Rp K (as.take n) H v e) : ∀ {vs : List V} {ds es : List D}, RpL K as H vs ds → mapO f ds = some es → RpL K (as.take n) H vs es
  | _, _, _, .nil, h => by cases h; exact .nil
  | _, _, _, .cons r rl, h => by
    obtain ⟨y, ys, e1, e2, rfl⟩ := mapO_cons h
    exact .cons (hf r e1) (frzL_ok hf rl e2)
theorem frz_ok {K : PySem.W.Frag} {as : List Addr} {H : Hp} {s : Store} {n : Nat} (S : StR K as H s) : ∀ (k : Nat) {v : V} {d e : D}, Rp K as H v d → frz s n k d = some e → Rp K (as.take n) H v e
  | 0, v, d, e, r, h => by
    unfold frz at h
    by_cases b : d.undr n = true
    · rw [if_pos b] at h; cases h; exact Rp.cut r b
    · rw [if_neg b] at h; cases h
  | k + 1, v, d, e, r, h => by
    unfold frz at h
    by_cases b : d.undr n = true
    · rw [if_pos b] at h; cases h; exact Rp.cut r b
    · rw [if_neg b] at h
      have go := fun {vs : List V} {ds es : List D} => frzL_ok (n := n) (f := frz s n k) (fun {v d e} r h => frz_ok S k r h) (vs := vs) (ds := ds) (es := es)
      cases r with
      | cell hc =>
        rename_i i p
        obtain ⟨c, e1, hR⟩ := S.get' hc
        simp only [e1] at h
        cases c with
        | dct kvs => cases h
        | lst ds =>
          obtain ⟨es, e2, e3⟩ := Option.map_eq_some_iff.mp h
          subst e3
          obtain ⟨xs, hx, z, rl⟩ := hR
          refine .lst hx (fun m => ?_) z (go rl e2)
          have hn : n ≤ i := Nat.le_of_not_lt fun q => b (decide_eq_true q)
          obtain ⟨j, hj, ej⟩ := List.getElem_of_mem m
          have hj' : j < n := Nat.lt_of_lt_of_le (by simpa using hj) (Nat.min_le_left _ _)
          have e3 : as[j]? = some p := by
            rw [List.getElem_take] at ej
            exact List.getElem?_eq_some_iff.mpr ⟨_, ej⟩
          obtain ⟨h1, g1⟩ := List.getElem?_eq_some_iff.mp hc
          obtain ⟨h2, g2⟩ := List.getElem?_eq_some_iff.mp e3
          have := (List.getElem_inj S.nd).mp (g1.trans g2.symm)
          omega
      | tup hT z rl =>
        obtain ⟨es, e2, e3⟩ := Option.map_eq_some_iff.mp h
        subst e3
        exact .tup hT z (go rl e2)
      | lst hT c z rl =>
        obtain ⟨es, e2, e3⟩ := Option.map_eq_some_iff.mp h
        subst e3
        exact .lst hT (fun m => c (List.mem_of_mem_take m)) z (go rl e2)
      | frl hT z rl =>
        obtain ⟨es, e2, e3⟩ := Option.map_eq_some_iff.mp h
        subst e3
        exact .frl hT z (go rl e2)
      | non => cases h
      | bl _ => cases h
      | int _ => cases h
      | str _ => cases h
      | ty _ => cases h
/-- the older cells name no younger one -/
def Closed (st0 s : Store) : Prop := st0.length ≤ s.length ∧ ∀ c ∈ s.take st0.length, c ∈ st0 ∨ c.undr st0.length = true
theorem closed_ok {K : PySem.W.Frag} {as0 as : List Addr} {H0 H : Hp} {st0 s : Store} (S0 : StR K as0 H0 st0) (x : Ext as0 H0 as H) (S : StR K as H s) (c : Closed st0 s) : as.take st0.length = as0 ∧ Ext as0 H0 as0 H ∧ StR K as0 H (s.take st0.length) := by
  obtain ⟨bs, eb⟩ := x.pre
  have e0 : as.take st0.length = as0 := by rw [eb, ← S0.len, List.take_left]
  refine ⟨e0, ⟨⟨[], by simp⟩, x.keep, fun _ _ _ k => k⟩, ?_⟩
  refine ⟨by rw [List.length_take, S0.len]; have := c.1; omega, S0.nd, fun i p cc e1 e2 => ?_⟩
  have hi : i < st0.length := by rw [← S0.len]; exact (List.getElem?_eq_some_iff.mp e1).1
  have e2' : s[i]? = some cc := by rw [List.getElem?_take_of_lt hi] at e2; exact e2
  have hm : cc ∈ s.take st0.length := List.mem_of_getElem? e2
  have hb : cc.undr st0.length = true := by
    rcases c.2 cc hm with q | q
    · obtain ⟨j, hj, ej⟩ := List.getElem_of_mem q
      obtain ⟨p', _, r⟩ := S0.get (List.getElem?_eq_some_iff.mpr ⟨hj, ej⟩)
      have := r.undr
      rw [S0.len] at this
      exact this
    · exact q
  have := (S.at_ i p cc (x.get e1) e2').cut hb
  rw [e0] at this
  exact this
def frzDepth : Nat := 6
open Classical in
/-- a block is left: its own cells stand still from now on -/
noncomputable def leave (st0 s : Store) (d : D) : Out D := if Closed st0 s then match frz s st0.length frzDepth d with
  | some e => .ok e (s.take st0.length)
  | none => .bad else .bad
theorem leave_ok {K : PySem.W.Frag} {as0 as : List Addr} {H0 H : Hp} {st0 s : Store} {v : V} {d : D} {P : D → Store → Prop} {E : Str → List (Str × D) → Store → Prop} (S0 : StR K as0 H0 st0) (x : Ext as0 H0 as H) (S : StR K as H s) (r : Rp K as H v d)
    (h : (leave st0 s d).wp P E) : ∃ e, P e (s.take st0.length) ∧ Ext as0 H0 as0 H ∧ StR K as0 H (s.take st0.length) ∧ Rp K as0 H v e := by
  unfold leave at h
  by_cases c : Closed st0 s
  · rw [if_pos c] at h
    obtain ⟨e0, x0, s0⟩ := closed_ok S0 x S c
    cases e : frz s st0.length frzDepth d with
    | none => rw [e] at h; exact h.elim
    | some d' =>
      rw [e] at h
      have := frz_ok S _ r e
      rw [e0] at this
      exact ⟨d', h, x0, s0, this⟩
  · rw [if_neg c] at h; exact h.elim

/-! ### list comprehensions: while it is filled, the new list is a cell -/
def wipeE (env : Env) : List Nat → Env
  | [] => env
  | v :: vs => (wipeE env vs).set v none
theorem wipeE_ok {K : PySem.W.Frag} {as : List Addr} {H : Hp} {σ : St} {env : Env} (E : EnvR K as H σ env) : ∀ vs : List Nat, EnvR K as H (wipe σ vs) (wipeE env vs)
  | [] => E
  | v :: vs => by
    have ih := wipeE_ok E vs
    unfold wipe wipeE
    refine ⟨by simp [ih.len], fun i d e => ?_⟩
    by_cases hi : v = i
    · subst hi
      by_cases hl : v < (wipeE env vs).length
      · rw [List.getElem?_set_self hl] at e; cases e
      · rw [List.getElem?_eq_none (by simpa using hl)] at e; cases e
    · rw [List.getElem?_set_ne hi] at e
      obtain ⟨u, h1, h2⟩ := ih.at_ i d e
      exact ⟨u, by rw [List.getElem?_set_ne hi]; exact h1, h2⟩
/-- one more item at the cell n -/
def push (n : Nat) (y : D) (s : Store) : Option Store := match s[n]? with
  | some (.lst acc) => if dec (acc.length < sizeLine) then some (s.set n (.lst (acc ++ [y]))) else none
  | _ => none
/-- within a comprehension nothing may be raised -/
def Out.nox {α : Type} : Out α → Out α
  | .ok a st => .ok a st
  | _ => .bad
open Classical in
noncomputable def compL (n : Nat) (src : Option (Nat × Cell)) (env0 : Env) (g : DenT) (c : DenB) (e : Den) : List D → Store → Out Unit
  | [], s => .ok () s
  | x :: xs, s => match g x env0 with
    | none => .bad
    | some e1 => (c e1 s).nox.bind fun b s1 => if b then (e e1 s1).nox.bind fun y s2 => match push n y s2 with
        | some s3 => if Gd src s3 then compL n src env0 g c e xs s3 else .bad
        | none => .bad
      else if Gd src s1 then compL n src env0 g c e xs s1 else .bad
/-- what is given back: the cell itself, or the list, which stands still -/
noncomputable def give (mu : Bool) (st1 : Store) (s : Store) : Out D := if mu then .ok (.cell st1.length) s else leave st1 s (.cell st1.length)
noncomputable def dComp (mu : Bool) (fi : DenI) (vs : List Nat) (g : DenT) (c : DenB) (e : Den) : Den := fun env st => (fi env st).bind fun it st1 => (compL st1.length it.2 (wipeE env vs) g c e it.1 (st1 ++ [.lst []])).bind fun _ s => give mu st1 s
abbrev Wno : WX := fun _ _ _ _ => False
theorem Out.wp_nox {α : Type} {o : Out α} {P : α → Store → Prop} {E E' : Str → List (Str × D) → Store → Prop} (h : o.nox.wp P E) : o.wp P E' := by
  cases o <;> first | exact h | exact h.elim
theorem rt_nox {α : Type} {K : PySem.W.Frag} {mg : Str → Option Value} {as : List Addr} {env : Env} {H : Hp} {σ : St} {st : Store} {fa : DenB} {k : Bool → Store → Out α} {P : α → Store → Prop} {E' : Str → List (Str × D) → Store → Prop} {Q : Bool → Hp → Prop} (E : EnvR K as H σ env) (S : StR K as H st)
    (h : ((fa env st).nox.bind k).wp P E') (hk : ∀ r st1 as1 H1, Ext as H as1 H1 → EnvR K as1 H1 σ env → StR K as1 H1 st1 → (k r st1).wp P E' → Q r H1) : RT K mg Wno fa σ H Q :=
  ⟨as, env, st, E, S, Out.wp_mono (Out.wp_nox (Out.wp_bind h)) (fun r st1 _ h1 as1 H1 x s => hk r st1 as1 H1 x (E.ext x) s h1) fun _ _ _ z => z⟩
theorem re_nox {α : Type} {K : PySem.W.Frag} {mg : Str → Option Value} {as : List Addr} {env : Env} {H : Hp} {σ : St} {st : Store} {fa : Den} {k : D → Store → Out α} {P : α → Store → Prop} {E' : Str → List (Str × D) → Store → Prop} {Q : VK} (E : EnvR K as H σ env) (S : StR K as H st)
    (h : ((fa env st).nox.bind k).wp P E') (hk : ∀ r st1 as1 H1 v, Ext as H as1 H1 → EnvR K as1 H1 σ env → StR K as1 H1 st1 → Rp K as1 H1 v r → (k r st1).wp P E' → Q v H1) : RE K mg Wno fa σ H Q :=
  ⟨as, env, st, E, S, Out.wp_mono (Out.wp_nox (Out.wp_bind h)) (fun r st1 _ h1 as1 H1 v x s rp => hk r st1 as1 H1 v x (E.ext x) s rp h1) fun _ _ _ z => z⟩
theorem push_ok {K : PySem.W.Frag} {as : List Addr} {H : Hp} {s s' : Store} {n : Nat} {p : Addr} {y : D} {v : V} (S : StR K as H s) (hp : as[n]? = some p) (r : Rp K as H v y) (h : push n y s = some s') :
    ∃ acc, H p = some (.lst acc) ∧ acc.length < sizeLine ∧ Ext as H as (upd H p (.lst (acc ++ [v]))) ∧ StR K as (upd H p (.lst (acc ++ [v]))) s' := by
  unfold push at h
  obtain ⟨c, e, hR⟩ := S.get' hp
  rw [e] at h
  cases c with
  | dct kvs => cases h
  | lst ds =>
    simp only at h
    obtain ⟨xs, hx, z, rl⟩ := hR
    by_cases hl : dec (ds.length < sizeLine) = true
    · rw [if_pos hl] at h
      cases h
      have hl' : xs.length < sizeLine := by rw [rl.length]; exact of_dec hl
      refine ⟨xs, hx, hl', S.write hp fun x1 => ⟨xs ++ [v], upd_same, ?_, RpL.ext x1 (rl.append (.one r))⟩⟩
      rw [List.length_append]
      exact hl'
    · rw [if_neg hl] at h; cases h
theorem wipe_idem (σ : St) (vs : List Nat) : ∀ us : List Nat, (∀ u ∈ us, u ∈ vs) → wipe (wipe σ us) vs = wipe σ vs
  | [], _ => rfl
  | u :: us, h => by
    have e : wipe σ (u :: us) = (wipe σ us).set u none := rfl
    rw [e, wipe_set, if_pos (h u List.mem_cons_self), wipe_idem σ vs us fun x hx => h x (List.mem_cons_of_mem _ hx)]
theorem Gd.app {src : Option (Nat × Cell)} {st : Store} {c : Cell} (h : Gd src st) : Gd src (st ++ [c]) := by
  cases src with
  | none => trivial
  | some q =>
    obtain ⟨i, d⟩ := q
    have h' : st[i]? = some d := h
    show (st ++ [c])[i]? = some d
    rw [List.getElem?_append_left (List.getElem?_eq_some_iff.mp h').1]
    exact h'
theorem rc_comp {K : PySem.W.Frag} {mg : Str → Option Value} {W : WX} {mu : Bool} {fi : DenI} {vs : List Nat} {g : DenT} {c : DenB} {e : Den} {σ : St} {H : Hp} {Q : VK} (h : RE K mg W (dComp mu fi vs g c e) σ H Q) :
    tLc (RI K mg W fi) (RG K (some vs) g) (RT K mg Wno c) (RE K mg Wno e) vs σ H Q := by
  obtain ⟨as, env, st, E, S, h⟩ := h
  refine ⟨as, env, st, E, S, Out.wp_mono (Out.wp_bind h) (fun it st1 _ h1 as1 H1 J x1 S1 g1 ok => ?_) fun _ _ _ z => z⟩
  intro D hD
  obtain ⟨xD, SD, gD⟩ := S1.newCell (o := .lst []) (c := .lst []) hD fun x => ⟨[], upd_same, Nat.zero_le _, .nil⟩
  refine ⟨fun i m H2 => m = it.1.length - i ∧ i ≤ it.1.length ∧ ∃ as2 s2, Ext (as1 ++ [D]) (upd H1 D (.lst [])) as2 H2 ∧ StR K as2 H2 s2 ∧ Gd it.2 s2 ∧
    ((compL st1.length it.2 (wipeE env vs) g c e (it.1.drop i) s2).bind fun _ s => give mu st1 s).wp (WV K as H Q) (WE K mg W as H σ), ⟨_, rfl, Nat.zero_le _, _, _, .refl _ _, SD, g1.app, h1⟩, ?_⟩
  rintro i m H2 ⟨rfl, hi, as2, s2, x2, S2, g2, h2⟩
  have x12 : Ext as1 H1 as2 H2 := xD.trans x2
  have okk := (ok as2 H2 s2 x12 S2 g2).2 i
  by_cases hlt : i < it.1.length
  · right
    have ed : it.1.drop i = it.1[i] :: it.1.drop (i + 1) := List.drop_eq_getElem_cons hlt
    rw [ed] at h2
    obtain ⟨hgo, hy⟩ := okk.1 it.1[i] (List.getElem?_eq_getElem hlt)
    refine ⟨hgo, fun H' => i + 1 ≤ it.1.length ∧ ∃ as3 s3, Ext (as1 ++ [D]) (upd H1 D (.lst [])) as3 H' ∧ StR K as3 H' s3 ∧ Gd it.2 s3 ∧
      ((compL st1.length it.2 (wipeE env vs) g c e (it.1.drop (i + 1)) s3).bind fun _ s => give mu st1 s).wp (WV K as H Q) (WE K mg W as H σ), fun H' w => ⟨it.1.length - (i + 1), by omega, rfl, w.1, w.2⟩, fun x H3 y => ?_⟩
    obtain ⟨x3, S3, r3⟩ := hy x H3 y
    unfold compL at h2
    cases eg : g it.1[i] (wipeE env vs) with
    | none => rw [eg] at h2; exact h2.elim
    | some e1 =>
      rw [eg] at h2
      simp only at h2
      rw [Out.assoc] at h2
      refine ⟨as2, wipeE env vs, it.1[i], e1, wipeE_ok (E.ext (x1.trans (x12.trans x3))) vs, r3, eg, fun σ4 E4 m4 => ⟨?_, ?_⟩⟩
      · exact Eq.trans (show wipe σ4 vs = wipe (wipe σ vs) vs from m4) (wipe_idem σ vs vs fun _ z => z)
      refine rt_nox E4 S3 h2 fun b s4 as4 H4 x4 E5 S4 h4 => ?_
      cases b with
      | false =>
        refine iteF ?_
        rw [if_neg Bool.false_ne_true] at h4
        by_cases hG : Gd it.2 s4
        · rw [if_pos hG] at h4
          exact ⟨hlt, as4, s4, (x2.trans x3).trans x4, S4, hG, h4⟩
        · rw [if_neg hG] at h4; exact h4.elim
      | true =>
        refine iteT ?_
        rw [if_pos rfl, Out.assoc] at h4
        refine re_nox E5 S4 h4 fun y s5 as5 H5 v x5 E6 S5 r5 h5 => ?_
        cases ep : push st1.length y s5 with
        | none => rw [ep] at h5; exact h5.elim
        | some s6 =>
          rw [ep] at h5
          simp only at h5
          have x25 := ((x2.trans x3).trans x4).trans x5
          obtain ⟨acc, ha, hl, x6, S6⟩ := push_ok S5 (x25.get gD) r5 ep
          refine ⟨acc, ha, hl, hlt, as5, s6, x25.trans x6, S6, ?_⟩
          by_cases hG : Gd it.2 s6
          · rw [if_pos hG] at h5
            exact ⟨hG, h5⟩
          · rw [if_neg hG] at h5; exact h5.elim
  · left
    have : i = it.1.length := by omega
    subst this
    rw [List.drop_length] at h2
    refine ⟨okk.2 (Nat.le_refl _), ?_⟩
    unfold compL at h2
    have h3 : (give mu st1 s2).wp (WV K as H Q) (WE K mg W as H σ) := h2
    have rD : Rp K as2 H2 (.ref D) (.cell st1.length) := .cell (x2.get gD)
    unfold give at h3
    cases mu with
    | true => exact h3 as2 H2 _ (x1.trans x12) S2 rD
    | false =>
      rw [if_neg Bool.false_ne_true] at h3
      obtain ⟨d, q, x5, S5, r5⟩ := leave_ok S1 x12 S2 rD h3
      exact q as1 H2 _ (x1.trans x5) S5 r5
section
variable {X : Cx} {W : WX} {pos : Pos}
theorem pe_comp' {elt tg iter : Expr} {ifs : List Expr} {scope : Scope} {own : List (Str × Nat)} {mu : Bool} {fi : DenI} {g : DenT} {c : DenB} {e : Den} (hc : X.calm = true) (hN : X.N.Nodup) (hi : PI X tg iter (RI X.K X.mg W fi)) (ok : BlkOk X.N X.env.scope scope own)
    (hg : ∀ (s : Shared) (H : Hp) (C : Addr) (cl : List (Str × Addr)) (fp : List Addr), PG (X.blk s H scope (compEnvC scope cl C X.env) fp) tg (RG X.K (some (own.map (·.2))) g))
    (ht : ∀ (s : Shared) (H : Hp) (C : Addr) (cl : List (Str × Addr)) (fp : List Addr), PTs (X.blk s H scope (compEnvC scope cl C X.env) fp) ifs (RT X.K X.mg Wno c))
    (he : ∀ (s : Shared) (H : Hp) (C : Addr) (cl : List (Str × Addr)) (fp : List Addr), PE (X.blk s H scope (compEnvC scope cl C X.env) fp) elt (RE X.K X.mg Wno e)) (hs : ∀ x, foldedSetIterable iter X.env x = pure x) :
    PE X (.ListComp elt [⟨tg, iter, ifs, 0⟩] scope pos) (RE X.K X.mg W (dComp mu fi (own.map (·.2)) g c e)) := PE.re (pe_lc hc hN hi ok hg ht he hs) fun _ _ _ h => rc_comp h
/-- name = [..] on one line -/
theorem ps_setcomp' {i : Nat} {y : Str} {py spos : Pos} {elt tg iter : Expr} {ifs : List Expr} {scope : Scope} {own : List (Str × Nat)} {mu : Bool} {fi : DenI} {g : DenT} {c : DenB} {e : Den} (hc : X.calm = true) (hN : X.N.Nodup) (hy : X.N[i]? = some y) (hyl : X.env.scope.names.lookup y = some .local)
    (hsw : swapsWith (.ListComp elt [⟨tg, iter, ifs, 0⟩] scope pos) (some (.Name y py)) spos.line X.env = pure true) (hi : PI X tg iter (RI X.K X.mg W fi)) (ok : BlkOk X.N X.env.scope scope own)
    (hg : ∀ (s : Shared) (H : Hp) (C : Addr) (cl : List (Str × Addr)) (fp : List Addr), PG (X.blk s H scope (compEnvC scope cl C X.env) fp) tg (RG X.K (some (own.map (·.2))) g))
    (ht : ∀ (s : Shared) (H : Hp) (C : Addr) (cl : List (Str × Addr)) (fp : List Addr), PTs (X.blk s H scope (compEnvC scope cl C X.env) fp) ifs (RT X.K X.mg Wno c))
    (he : ∀ (s : Shared) (H : Hp) (C : Addr) (cl : List (Str × Addr)) (fp : List Addr), PE (X.blk s H scope (compEnvC scope cl C X.env) fp) elt (RE X.K X.mg Wno e)) (hs : ∀ x, foldedSetIterable iter X.env x = pure x) :
    PS X (.Assign [.Name y py] (.ListComp elt [⟨tg, iter, ifs, 0⟩] scope pos) spos) (RS X.K X.mg W (sAsg (dComp mu fi (own.map (·.2)) g c e) (tgName i))) :=
  PS.re (ps_setLc hc hN hy hyl hsw hi ok hg ht he hs) fun Z σ H h => by
    have q := rs_asg h
    obtain ⟨as, env, st, E, S, q⟩ := q
    refine rc_comp ⟨as, env, st, E, S, Out.wp_mono q (fun r st1 _ h1 as1 H1 v x s rp => ?_) fun _ _ _ z => z⟩
    obtain ⟨as2, env2, d, env3, E2, r2, e2, q2⟩ := h1 as1 H1 v x s rp
    cases e2
    exact q2 _ (E2.set r2 i) trivial
end
end
end L2.PyD
/-! PyD, part 6: operators, comparisons, subscripts, methods and built-ins on data. -/
namespace L2.PyD
open PySem PySem.Spec PyProof.Rows
noncomputable section

abbrev G2 := Store → D → D → Option Rv
abbrev C2 := Store → D → D → Option Bool
def gOr (g g' : G2) : G2 := fun st x y => match g st x y with
  | some r => some r
  | none => g' st x y
theorem opOr {X : Cx} {f : Value → Value → Sem Value} {g g' : G2} (h : OpR X f (RB X.K g)) (h' : OpR X f (RB X.K g')) : OpR X f (RB X.K (gOr g g')) := by
  intro pins s σ H x y v u Q I rx ry q
  obtain ⟨as, st, dx, dy, rv, S, r1, r2, e, ok⟩ := q
  unfold gOr at e
  cases e1 : g st dx dy with
  | some r => rw [e1] at e; cases e; exact h pins s σ H x y v u Q I rx ry ⟨as, st, dx, dy, _, S, r1, r2, e1, ok⟩
  | none => rw [e1] at e; exact h' pins s σ H x y v u Q I rx ry ⟨as, st, dx, dy, _, S, r1, r2, e, ok⟩
theorem rv_val {K : PySem.W.Frag} {as : List Addr} {H : Hp} {st : Store} {d : D} {v : V} {Q : VK} (S : StR K as H st) (h : RvOk K as H st (.val d) Q) (r : Rp K as H v d) : Q v H := h H v (.refl _ _) S r

/-! ### ints -/
def gI (C : Int → Int → Prop) [∀ i j, Decidable (C i j)] (f : Int → Int → Int) : G2 := fun _ x y => match x, y with
  | .int i, .int j => if C i j then some (.val (.int (f i j))) else none
  | _, _ => none
theorem opI' {X : Cx} {F : Value → Value → Sem Value} {C : Int → Int → Prop} [∀ i j, Decidable (C i j)] {f : Int → Int → Int} (h : OpR X F (rI C fun i j => .int (f i j))) : OpR X F (RB X.K (gI C f)) := by
  intro pins s σ H x y v u Q I rx ry q
  obtain ⟨as, st, dx, dy, rv, S, r1, r2, e, ok⟩ := q
  cases dx with
  | int i =>
    cases dy with
    | int j =>
      cases r1
      cases r2
      by_cases c : C i j
      · have e' : gI C f st (.int i) (.int j) = some (.val (.int (f i j))) := if_pos c
        rw [e'] at e
        cases e
        exact h pins s σ H _ _ v u Q I rx ry ⟨i, j, rfl, rfl, c, rv_val S ok (.int _)⟩
      · have e' : gI C f st (.int i) (.int j) = none := if_neg c
        rw [e'] at e
        cases e
    | _ => cases e
  | _ => cases e
def yes (_ _ : Int) : Prop := True
instance : ∀ i j, Decidable (yes i j) := fun _ _ => .isTrue trivial
/-- which products, quotients, powers fit -/
def mulOk (i j : Int) : Prop := (i.natAbs < 2 ^ 64 ∨ j.natAbs < 2 ^ 64) ∨ i.natAbs.log2 + j.natAbs.log2 < 1000000
instance : ∀ i j, Decidable (mulOk i j) := fun _ _ => Classical.propDecidable _
def divOk (_ j : Int) : Prop := j ≠ 0 ∧ j.natAbs.log2 < 9000
instance : ∀ i j, Decidable (divOk i j) := fun _ _ => Classical.propDecidable _
def modOk (_ j : Int) : Prop := j ≠ 0
instance : ∀ i j, Decidable (modOk i j) := fun _ _ => Classical.propDecidable _
def powOk (i j : Int) : Prop := 0 ≤ j ∧ (i.natAbs.log2 + 1) * j.toNat ≤ 2 ^ 27
instance : ∀ i j, Decidable (powOk i j) := fun _ _ => Classical.propDecidable _
section
variable {X : Cx}
theorem op_addI : OpR X (binaryOp .Add) (rI yes fun i j => .int (i + j)) := opI fun _ _ _ _ _ _ _ _ q => add_int q
theorem op_subI : OpR X (binaryOp .Sub) (rI yes fun i j => .int (i - j)) := opI fun _ _ _ _ _ _ _ _ q => sub_int q
theorem op_mulI : OpR X (binaryOp .Mult) (rI mulOk fun i j => .int (i * j)) := opI fun i j _ _ _ _ _ hc q => by
  rcases hc with (hc | hc) | hc
  · exact mul_int q (CMul.ok (.inl (by constructor <;> omega)))
  · exact mul_int q (CMul.ok (.inr (by constructor <;> omega)))
  · exact mul_int q (CMulW.ok hc)
theorem op_divI : OpR X (binaryOp .FloorDiv) (rI divOk fun i j => .int (i.fdiv j)) := opI fun _ _ _ _ _ _ _ hc q => floordiv_int hc.1 q (.inl (PyProof.noPylong_of_log2 hc.2))
theorem op_modI : OpR X (binaryOp .Mod) (rI modOk fun i j => .int (i.fmod j)) := opI fun _ _ _ _ _ _ _ hc q => mod_int' hc q
theorem op_powI : OpR X (binaryOp .Pow) (rI powOk fun i j => .int (i ^ j.toNat)) := opI fun i j _ _ _ _ _ hc q => by
  refine pow_int hc.1 ?_ q
  have h1 : Builtin.Int.intBits i ≤ i.natAbs.log2 + 1 := by
    unfold Builtin.Int.intBits
    split <;> omega
  have h2 := hc.2
  have h3 : Builtin.Int.intBits i * j.toNat ≤ (i.natAbs.log2 + 1) * j.toNat := Nat.mul_le_mul_right _ h1
  have h4 : ((j.toNat : Nat) : Int) = j := Int.toNat_of_nonneg hc.1
  have h5 : ((Builtin.Int.intBits i * j.toNat : Nat) : Int) ≤ 2 ^ 27 := by
    have : Builtin.Int.intBits i * j.toNat ≤ 2 ^ 27 := Nat.le_trans h3 h2
    omega
  rw [Int.natCast_mul, h4] at h5
  exact h5
end
/-! ### texts, tuples, lists by + -/
def gAddS : G2 := fun _ x y => match x, y with
  | .str i, .str j => if dec (i.length + j.length ≤ sizeLine) then some (.val (.str (i ++ j))) else none
  | _, _ => none
theorem op_addS {X : Cx} : OpR X (binaryOp .Add) (RB X.K gAddS) := by
  intro pins s σ H x y v u Q I rx ry q
  obtain ⟨as, st, dx, dy, rv, S, r1, r2, e, ok⟩ := q
  cases dx with
  | str i =>
    cases dy with
    | str j =>
      cases r1
      cases r2
      by_cases c : dec (i.length + j.length ≤ sizeLine) = true
      · have e' : gAddS st (.str i) (.str j) = some (.val (.str (i ++ j))) := if_pos c
        rw [e'] at e
        cases e
        exact op_add_str pins s σ H _ _ v u Q I rx ry ⟨i, j, rfl, rfl, of_dec c, rv_val S ok (.str _)⟩
      · have e' : gAddS st (.str i) (.str j) = none := if_neg c
        rw [e'] at e
        cases e
    | _ => cases e
  | _ => cases e
def gAddT : G2 := fun _ x y => match x, y with
  | .tup i, .tup j => if small (i ++ j) then some (.val (.tup (i ++ j))) else none
  | _, _ => none
theorem op_addT {X : Cx} : OpR X (binaryOp .Add) (RB X.K gAddT) := by
  intro pins s σ H x y v u Q I rx ry q
  obtain ⟨as, st, dx, dy, rv, S, r1, r2, e, ok⟩ := q
  cases dx with
  | tup i =>
    cases dy with
    | tup j =>
      cases r1 with
      | tup h1 z1 l1 =>
      rename_i a xs
      cases r2 with
      | tup h2 z2 l2 =>
      rename_i b ys
      by_cases c : small (i ++ j) = true
      · have e' : gAddT st (.tup i) (.tup j) = some (.val (.tup (i ++ j))) := if_pos c
        rw [e'] at e
        cases e
        have zl : xs.length + ys.length ≤ sizeLine := by
          have := of_dec c
          rw [List.length_append, ← l1.length, ← l2.length] at this
          exact this
        refine op_catA pins s σ H _ _ v u Q I rx ry ⟨a, b, xs, ys, rfl, rfl, h1, h2, zl, fun z => ?_, fun _ z => ?_, fun _ _ p hp => ?_⟩
        · subst z
          cases l1
          exact rv_val S ok (.tup h2 z2 l2)
        · subst z
          cases l2
          rw [List.append_nil] at ok
          exact rv_val S ok (.tup h1 z1 l1)
        · obtain ⟨x1, s1⟩ := S.alloc (.tup (xs ++ ys)) hp
          exact ok _ _ x1 s1 (.tup (SqT.of upd_same) (by rw [List.length_append]; exact zl) ((RpL.ext x1 l1).append (RpL.ext x1 l2)))
      · have e' : gAddT st (.tup i) (.tup j) = none := if_neg c
        rw [e'] at e
        cases e
    | _ => cases e
  | _ => cases e
/-- the list at a value that may be read by its address: it stands still, or a cell's -/
def viewL (st : Store) : D → Option (List D)
  | .lst ds => some ds
  | .cell i => match st[i]? with
    | some (.lst ds) => some ds
    | _ => none
  | _ => none
theorem viewL_ok {K : PySem.W.Frag} {as : List Addr} {H : Hp} {st : Store} {v : V} {d : D} {ds : List D} (S : StR K as H st) (r : Rp K as H v d) (e : viewL st d = some ds) : ∃ p xs, v = .ref p ∧ H p = some (.lst xs) ∧ xs.length ≤ sizeLine ∧ RpL K as H xs ds := by
  cases r with
  | lst h c z r => cases e; exact ⟨_, _, rfl, h, z, r⟩
  | cell h =>
    obtain ⟨c, e1, hR⟩ := S.get' h
    simp only [viewL, e1] at e
    cases c with
    | dct kvs => cases e
    | lst es => cases e; obtain ⟨xs, hx, z, r⟩ := hR; exact ⟨_, xs, rfl, hx, z, r⟩
  | _ => cases e
def gAddL : G2 := fun st x y => match viewL st x, viewL st y with
  | some i, some j => if small (i ++ j) then some (.newL (i ++ j)) else none
  | _, _ => none
theorem op_addL {X : Cx} : OpR X (binaryOp .Add) (RB X.K gAddL) := by
  intro pins s σ H x y v u Q I rx ry q
  obtain ⟨as, st, dx, dy, rv, S, r1, r2, e, ok⟩ := q
  unfold gAddL at e
  cases e1 : viewL st dx with
  | none => rw [e1] at e; cases e
  | some i =>
    cases e2 : viewL st dy with
    | none => rw [e1, e2] at e; cases e
    | some j =>
      rw [e1, e2] at e
      obtain ⟨a, xs, rfl, h1, z1, l1⟩ := viewL_ok S r1 e1
      obtain ⟨b, ys, rfl, h2, z2, l2⟩ := viewL_ok S r2 e2
      by_cases c : small (i ++ j) = true
      · simp only at e
        rw [if_pos c] at e
        cases e
        have zl : xs.length + ys.length ≤ sizeLine := by
          have := of_dec c
          rw [List.length_append, ← l1.length, ← l2.length] at this
          exact this
        exact op_cat pins s σ H _ _ v u Q I rx ry ⟨a, b, xs, ys, rfl, rfl, h1, h2, zl, fun p hp => ok p _ hp (by rw [List.length_append]; exact zl) (l1.append l2)⟩
      · simp only at e
        rw [if_neg c] at e
        cases e
def gAdd : G2 := gOr (gI yes fun i j => i + j) (gOr gAddT (gOr gAddS gAddL))
def gSub : G2 := gI yes fun i j => i - j
def gMul : G2 := gI mulOk fun i j => i * j
def gDiv : G2 := gI divOk fun i j => i.fdiv j
def gMod : G2 := gI modOk fun i j => i.fmod j
def gPow : G2 := gI powOk fun i j => i ^ j.toNat
/-- the operators that are served -/
def binG : Operator → Option G2
  | .Add => some gAdd
  | .Sub => some gSub
  | .Mult => some gMul
  | .FloorDiv => some gDiv
  | .Mod => some gMod
  | .Pow => some gPow
  | _ => none
theorem binG_ok {X : Cx} : ∀ {op : Operator} {g : G2}, binG op = some g → OpR X (binaryOp op) (RB X.K g)
  | .Add, _, h => by cases h; exact opOr (opI' op_addI) (opOr op_addT (opOr op_addS op_addL))
  | .Sub, _, h => by cases h; exact opI' op_subI
  | .Mult, _, h => by cases h; exact opI' op_mulI
  | .FloorDiv, _, h => by cases h; exact opI' op_divI
  | .Mod, _, h => by cases h; exact opI' op_modI
  | .Pow, _, h => by cases h; exact opI' op_powI
def gNeg : Store → D → Option Rv := fun _ x => match x with
  | .int i => some (.val (.int (-i)))
  | _ => none
theorem op_neg' {X : Cx} : UnR X (unaryOp .USub) (RU X.K gNeg) := by
  intro pins s σ H x v Q I rx q
  obtain ⟨as, st, dx, rv, S, r1, e, ok⟩ := q
  cases dx with
  | int i =>
    cases e
    cases r1
    exact un_neg pins s σ H _ v Q I rx ⟨i, rfl, rv_val S ok (.int _)⟩
  | _ => cases e

/-! ### comparisons -/
def cOr (g g' : C2) : C2 := fun st x y => match g st x y with
  | some r => some r
  | none => g' st x y
theorem cmpOr {X : Cx} {f : Value → Value → Sem Value} {g g' : C2} (h : OpR X f (RCm X.K g)) (h' : OpR X f (RCm X.K g')) : OpR X f (RCm X.K (cOr g g')) := by
  intro pins s σ H x y v u Q I rx ry q
  obtain ⟨as, st, dx, dy, b, S, r1, r2, e, ok⟩ := q
  unfold cOr at e
  cases e1 : g st dx dy with
  | some r => rw [e1] at e; cases e; exact h pins s σ H x y v u Q I rx ry ⟨as, st, dx, dy, _, S, r1, r2, e1, ok⟩
  | none => rw [e1] at e; exact h' pins s σ H x y v u Q I rx ry ⟨as, st, dx, dy, _, S, r1, r2, e, ok⟩
def cI (p : Int → Int → Bool) : C2 := fun _ x y => match x, y with
  | .int i, .int j => some (p i j)
  | _, _ => none
theorem cmpI {X : Cx} {F : Value → Value → Sem Value} {p : Int → Int → Bool} (h : OpR X F (rI0 fun i j => .bl (p i j))) : OpR X F (RCm X.K (cI p)) := by
  intro pins s σ H x y v u Q I rx ry q
  obtain ⟨as, st, dx, dy, b, S, r1, r2, e, ok⟩ := q
  cases dx with
  | int i =>
    cases dy with
    | int j =>
      cases e
      cases r1
      cases r2
      exact h pins s σ H _ _ v u Q I rx ry ⟨i, j, rfl, rfl, ok⟩
    | _ => cases e
  | _ => cases e
/-- a value as nested data -/
def pyN (st : Store) : Nat → D → Option PyData
  | 0, d => match d with
    | .non => some .none
    | .bl b => some (.bool b)
    | .int i => some (.int i)
    | .str s => if PyData.strOk s then some (.str s) else none
    | _ => none
  | k + 1, d => match d with
    | .non => some .none
    | .bl b => some (.bool b)
    | .int i => some (.int i)
    | .str s => if PyData.strOk s then some (.str s) else none
    | .ty _ => none
    | .tup ds => (mapO (pyN st k) ds).map PyData.tuple
    | .lst ds => (mapO (pyN st k) ds).map PyData.list
    | .frl ds => (mapO (pyN st k) ds).map PyData.list
    | .cell i => match st[i]? with
      | some (.lst ds) => (mapO (pyN st k) ds).map PyData.list
      | _ => none
theorem pyL_ok {K : PySem.W.Frag} {as : List Addr} {H : Hp} {k : Nat} {f : D → Option PyData} (hf : ∀ {v : V} {d : D} {p : PyData}, Rp K as H v d → f d = some p → Dp K H v p ∧ p.canLay0 = true ∧ p.depth ≤ k) :
    ∀ {vs : List V} {ds : List D} {ps : List PyData}, RpL K as H vs ds → mapO f ds = some ps → DpAll K H vs ps ∧ PyData.canLayAll0 ps = true ∧ PyData.depthAll ps ≤ k
  | _, _, _, .nil, h => by cases h; exact ⟨.nil, by simp [PyData.canLayAll0], by simp [PyData.depthAll]⟩
  | _, _, _, .cons r rl, h => by
    obtain ⟨y, ys, e1, e2, rfl⟩ := mapO_cons h
    obtain ⟨a1, a2, a3⟩ := hf r e1
    obtain ⟨b1, b2, b3⟩ := pyL_ok hf rl e2
    exact ⟨.cons a1 b1, by unfold PyData.canLayAll0; rw [a2, b2]; rfl, by unfold PyData.depthAll; omega⟩
theorem py_str {K : PySem.W.Frag} {H : Hp} {s : Str} {p : PyData} {k : Nat} (h : (if PyData.strOk s then some (PyData.str s) else none) = some p) : Dp K H (.str s) p ∧ p.canLay0 = true ∧ p.depth ≤ k := by
  by_cases c : PyData.strOk s = true
  · rw [if_pos c] at h
    cases h
    exact ⟨.str s, by unfold PyData.canLay0; exact c, by simp [PyData.depth]⟩
  · rw [if_neg c] at h; cases h
theorem pyN_ok {K : PySem.W.Frag} {as : List Addr} {H : Hp} {st : Store} (S : StR K as H st) : ∀ (k : Nat) {v : V} {d : D} {p : PyData}, Rp K as H v d → pyN st k d = some p → Dp K H v p ∧ p.canLay0 = true ∧ p.depth ≤ k
  | 0, v, d, p, r, h => by
    cases r with
    | non => cases h; exact ⟨.non, by simp [PyData.canLay0], by simp [PyData.depth]⟩
    | bl b => cases h; exact ⟨.bl b, by simp [PyData.canLay0], by simp [PyData.depth]⟩
    | int i => cases h; exact ⟨.int i, by simp [PyData.canLay0], by simp [PyData.depth]⟩
    | str s => exact py_str h
    | _ => cases h
  | k + 1, v, d, p, r, h => by
    have go := fun {vs : List V} {ds : List D} {ps : List PyData} => pyL_ok (k := k) (f := pyN st k) (fun {v d p} r h => pyN_ok S k r h) (vs := vs) (ds := ds) (ps := ps)
    cases r with
    | non => cases h; exact ⟨.non, by simp [PyData.canLay0], by simp [PyData.depth]⟩
    | bl b => cases h; exact ⟨.bl b, by simp [PyData.canLay0], by simp [PyData.depth]⟩
    | int i => cases h; exact ⟨.int i, by simp [PyData.canLay0], by simp [PyData.depth]⟩
    | str s => exact py_str h
    | ty n => cases h
    | tup hT z rl =>
      obtain ⟨es, e2, e3⟩ := Option.map_eq_some_iff.mp h
      subst e3
      obtain ⟨h1, h2, h3⟩ := go rl e2
      exact ⟨.tup hT h1, by unfold PyData.canLay0; exact h2, by unfold PyData.depth; omega⟩
    | lst hT c z rl =>
      obtain ⟨es, e2, e3⟩ := Option.map_eq_some_iff.mp h
      subst e3
      obtain ⟨h1, h2, h3⟩ := go rl e2
      exact ⟨.lst (SqL.of hT) h1, by unfold PyData.canLay0; exact h2, by unfold PyData.depth; omega⟩
    | frl hT z rl =>
      obtain ⟨es, e2, e3⟩ := Option.map_eq_some_iff.mp h
      subst e3
      obtain ⟨h1, h2, h3⟩ := go rl e2
      exact ⟨.lst hT.seq h1, by unfold PyData.canLay0; exact h2, by unfold PyData.depth; omega⟩
    | cell hc =>
      obtain ⟨c, e1, hR⟩ := S.get' hc
      unfold pyN at h
      simp only [e1] at h
      cases c with
      | dct kvs => cases h
      | lst ds =>
        obtain ⟨es, e2, e3⟩ := Option.map_eq_some_iff.mp h
        subst e3
        obtain ⟨xs, hx, z, rl⟩ := hR
        obtain ⟨h1, h2, h3⟩ := go rl e2
        exact ⟨.lst (SqL.of hx) h1, by unfold PyData.canLay0; exact h2, by unfold PyData.depth; omega⟩
def pyD (st : Store) (d : D) : Option PyData := pyN st 60 d
theorem pyD_ok {K : PySem.W.Frag} {as : List Addr} {H : Hp} {st : Store} {v : V} {d : D} {p : PyData} (S : StR K as H st) (r : Rp K as H v d) (e : pyD st d = some p) : Dp K H v p ∧ SeqAt.shaped p = true := by
  obtain ⟨h1, h2, h3⟩ := pyN_ok S 60 r e
  refine ⟨h1, ?_⟩
  unfold SeqAt.shaped
  rw [h2, decide_eq_true (show p.depth ≤ 64 by omega)]
  rfl
def cEq : C2 := fun st x y => match pyD st x, pyD st y with
  | some p, some q => some (PyData.eqv p q)
  | _, _ => none
def cNe : C2 := fun st x y => match pyD st x, pyD st y with
  | some p, some q => some (!PyData.eqv p q)
  | _, _ => none
section
variable {X : Cx}
theorem cmp_eq (hu : X.A.units + 64 < cLine) : OpR X (compareOp .Eq) (RCm X.K cEq) := by
  intro pins s σ H x y v u Q I rx ry q
  obtain ⟨as, st, dx, dy, b, S, r1, r2, e, ok⟩ := q
  unfold cEq at e
  cases e1 : pyD st dx with
  | none => rw [e1] at e; cases e
  | some p =>
    cases e2 : pyD st dy with
    | none => rw [e1, e2] at e; cases e
    | some p' =>
      rw [e1, e2] at e
      cases e
      obtain ⟨a1, a2⟩ := pyD_ok S r1 e1
      obtain ⟨b1, b2⟩ := pyD_ok S r2 e2
      exact op_eqD hu pins s σ H x y v u Q I rx ry ⟨p, p', a1, b1, a2, b2, ok⟩
theorem cmp_ne (hu : X.A.units + 64 < cLine) : OpR X (compareOp .NotEq) (RCm X.K cNe) := by
  intro pins s σ H x y v u Q I rx ry q
  obtain ⟨as, st, dx, dy, b, S, r1, r2, e, ok⟩ := q
  unfold cNe at e
  cases e1 : pyD st dx with
  | none => rw [e1] at e; cases e
  | some p =>
    cases e2 : pyD st dy with
    | none => rw [e1, e2] at e; cases e
    | some p' =>
      rw [e1, e2] at e
      cases e
      obtain ⟨a1, a2⟩ := pyD_ok S r1 e1
      obtain ⟨b1, b2⟩ := pyD_ok S r2 e2
      exact op_neD hu pins s σ H x y v u Q I rx ry ⟨p, p', a1, b1, a2, b2, ok⟩
def isNonD : D → Bool
  | .non => true
  | _ => false
theorem isNonD_ok {K : PySem.W.Frag} {as : List Addr} {H : Hp} {v : V} {d : D} (r : Rp K as H v d) : decide (v = .non) = isNonD d := by
  cases r <;> simp [isNonD]
def cIsN : C2 := fun _ x y => match y with
  | .non => some (isNonD x)
  | _ => none
def cNotN : C2 := fun _ x y => match y with
  | .non => some (!isNonD x)
  | _ => none
theorem cmp_isN : OpR X (compareOp .Is) (RCm X.K cIsN) := by
  intro pins s σ H x y v u Q I rx ry q
  obtain ⟨as, st, dx, dy, b, S, r1, r2, e, ok⟩ := q
  cases dy with
  | non =>
    cases r2
    cases e
    refine op_isN pins s σ H _ _ v u Q I rx ry ⟨rfl, ?_⟩
    rw [isNonD_ok r1]
    exact ok
  | _ => cases e
theorem cmp_notN : OpR X (compareOp .IsNot) (RCm X.K cNotN) := by
  intro pins s σ H x y v u Q I rx ry q
  obtain ⟨as, st, dx, dy, b, S, r1, r2, e, ok⟩ := q
  cases dy with
  | non =>
    cases r2
    cases e
    refine op_notN pins s σ H _ _ v u Q I rx ry ⟨rfl, ?_⟩
    rw [isNonD_ok r1]
    exact ok
  | _ => cases e
end
/-- how a sequence lies now -/
theorem seq_now {K : PySem.W.Frag} {as : List Addr} {H : Hp} {st : Store} {v : V} {d : D} {it : Items} (S : StR K as H st) (r : Rp K as H v d) (e : seqD st d = some it) : ∃ a xs, v = .ref a ∧ (SqL K H a xs ∨ SqT K H a xs) ∧ xs.length ≤ sizeLine ∧ RpL K as H xs it.1 := by
  obtain ⟨g, a, ev, h⟩ := seq_lies S r e
  rcases h with h | ⟨_, xs, hq, z, rl⟩
  · obtain ⟨xs, hq, z, rl⟩ := h as H st (.refl _ _) S g
    exact ⟨a, xs, ev, .inl hq, z, rl⟩
  · exact ⟨a, xs, ev, .inr hq, z, rl⟩
/-- flat values, and how they are equal -/
def flatD : D → Bool
  | .non => true
  | .bl _ => true
  | .int _ => true
  | .str _ => true
  | _ => false
def eqF : D → D → Bool
  | .non, .non => true
  | .bl a, .bl b => a == b
  | .bl a, .int b => (if a then 1 else 0) == b
  | .int a, .bl b => a == (if b then 1 else 0)
  | .int a, .int b => a == b
  | .str a, .str b => a == b
  | _, _ => false
theorem flat_ok {K : PySem.W.Frag} {as : List Addr} {H : Hp} {v : V} {d : D} (r : Rp K as H v d) (f : flatD d = true) : flatV v = true := by
  cases r <;> first | rfl | cases f
theorem flats_ok {K : PySem.W.Frag} {as : List Addr} {H : Hp} : ∀ {vs : List V} {ds : List D}, RpL K as H vs ds → ds.all flatD = true → vs.all flatV = true
  | _, _, .nil, _ => rfl
  | _, _, .cons r rl, f => by
    rw [List.all_cons, Bool.and_eq_true] at f
    rw [List.all_cons, flat_ok r f.1, flats_ok rl f.2]
    rfl
theorem eqF_ok {K : PySem.W.Frag} {as : List Addr} {H : Hp} {v w : V} {d e : D} (r : Rp K as H v d) (q : Rp K as H w e) (f : flatD d = true) (f' : flatD e = true) : eqV v w = eqF d e := by
  cases r <;> first | (cases f; done) | (cases q <;> first | rfl | cases f')
theorem inF_ok {K : PySem.W.Frag} {as : List Addr} {H : Hp} {w : V} {e : D} (q : Rp K as H w e) (f' : flatD e = true) : ∀ {vs : List V} {ds : List D}, RpL K as H vs ds → ds.all flatD = true → inV w vs = ds.any fun z => eqF z e
  | _, _, .nil, _ => rfl
  | _, _, .cons r rl, f => by
    rw [List.all_cons, Bool.and_eq_true] at f
    unfold inV
    rw [List.any_cons, List.any_cons, eqF_ok r q f.1 f']
    have := inF_ok q f' rl f.2
    unfold inV at this
    rw [this]
def cInF (neg : Bool) : C2 := fun st x y => match seqD st y with
  | some it => if flatD x && it.1.all flatD then some (if neg then !it.1.any (fun z => eqF z x) else it.1.any fun z => eqF z x) else none
  | none => none
theorem cmp_inF {X : Cx} {op : CmpOp} {neg : Bool} (h : OpR X (compareOp op) (rIn X.K neg)) : OpR X (compareOp op) (RCm X.K (cInF neg)) := by
  intro pins s σ H x y v u Q I rx ry q
  obtain ⟨as, st, dx, dy, b, S, r1, r2, e, ok⟩ := q
  unfold cInF at e
  cases e1 : seqD st dy with
  | none => rw [e1] at e; cases e
  | some it =>
    rw [e1] at e
    simp only at e
    by_cases c : (flatD dx && it.1.all flatD) = true
    · rw [if_pos c] at e
      cases e
      rw [Bool.and_eq_true] at c
      obtain ⟨a, xs, ev, hq, z, rl⟩ := seq_now S r2 e1
      subst ev
      refine h pins s σ H _ _ v u Q I rx ry ⟨a, xs, rfl, hq, flat_ok r1 c.1, flats_ok rl c.2, ?_⟩
      rw [inF_ok r1 c.1 rl c.2]
      exact ok
    · rw [if_neg c] at e; cases e
/-- the comparisons that are served -/
def cmpG : CmpOp → Option C2
  | .Lt => some (cI fun i j => decide (i < j))
  | .LtE => some (cI fun i j => decide (i ≤ j))
  | .Gt => some (cI fun i j => decide (j < i))
  | .GtE => some (cI fun i j => decide (j ≤ i))
  | .Eq => some cEq
  | .NotEq => some cNe
  | .Is => some cIsN
  | .IsNot => some cNotN
  | .In => some (cInF false)
  | .NotIn => some (cInF true)
theorem cmpG_ok {X : Cx} (hu : X.A.units + 64 < cLine) : ∀ {op : CmpOp} {g : C2}, cmpG op = some g → OpR X (compareOp op) (RCm X.K g)
  | .Lt, _, h => by cases h; exact cmpI op_lt
  | .LtE, _, h => by cases h; exact cmpI op_le
  | .Gt, _, h => by cases h; exact cmpI op_gt
  | .GtE, _, h => by cases h; exact cmpI op_ge
  | .Eq, _, h => by cases h; exact cmp_eq hu
  | .NotEq, _, h => by cases h; exact cmp_ne hu
  | .Is, _, h => by cases h; exact cmp_isN
  | .IsNot, _, h => by cases h; exact cmp_notN
  | .In, _, h => by cases h; exact cmp_inF op_in_seq
  | .NotIn, _, h => by cases h; exact cmp_inF op_notIn_seq
end
end L2.PyD
/-! PyD, part 7: subscripts, stores, methods, built-in functions; calls of the text's own defs; bodies. -/
namespace L2.PyD
open PySem PySem.Spec PyProof.Rows
noncomputable section

/-! ### o[i] -/
def gIx : G2 := fun st x y => match y with
  | .int i => match seqD st x with
    | some it => match atI it.1 i with
      | some d => some (.val d)
      | none => none
    | none => none
  | _ => none
theorem RpL.at {K : PySem.W.Frag} {as : List Addr} {H : Hp} {vs : List V} {ds : List D} {i : Int} {d : D} (r : RpL K as H vs ds) (e : atI ds i = some d) : ∃ v, atI vs i = some v ∧ Rp K as H v d := by
  unfold atI at e ⊢
  rw [r.length]
  cases e1 : ixN ds.length i with
  | none => rw [e1] at e; cases e
  | some j => rw [e1] at e; exact r.get e
section
variable {X : Cx} {W : WX} {pos : Pos}
theorem ix_ok : IxR X (RB X.K gIx) := by
  intro value slice pins s σ H x y v u Q I rx ry q hs
  obtain ⟨as, st, dx, dy, rv, S, r1, r2, e, ok⟩ := q
  cases dy with
  | int i =>
    cases r2
    unfold gIx at e
    simp only at e
    cases e1 : seqD st dx with
    | none => rw [e1] at e; cases e
    | some it =>
      rw [e1] at e
      simp only at e
      cases e2 : atI it.1 i with
      | none => rw [e2] at e; cases e
      | some d =>
        rw [e2] at e
        cases e
        obtain ⟨a, xs, ev, hq, z, rl⟩ := seq_now S r1 e1
        subst ev
        obtain ⟨w, hw, rw'⟩ := rl.at e2
        rcases hq with hq | hq
        · exact ix_list value slice pins s σ H _ _ v u Q I rx ry ⟨a, xs, i, w, rfl, rfl, hq, hw, rv_val S ok rw'⟩ hs
        · exact ix_tup value slice pins s σ H _ _ v u Q I rx ry ⟨a, xs, i, w, rfl, rfl, hq, hw, rv_val S ok rw'⟩ hs
  | _ => cases e

/-! ### o[i] = v -/
abbrev GSet := Store → D → D → D → Option Store
def RSet (K : PySem.W.Frag) (g : GSet) : TSet := fun o i v H Q => ∃ as st d1 d2 d3 st', StR K as H st ∧ Rp K as H o d1 ∧ Rp K as H i d2 ∧ Rp K as H v d3 ∧ g st d1 d2 d3 = some st' ∧ ∀ as' H', Ext as H as' H' → StR K as' H' st' → Q H'
def gSetL : GSet := fun st o i v => match o, i with
  | .cell c, .int k => match st[c]? with
    | some (.lst ds) => match ixN ds.length k with
      | some j => some (st.set c (.lst (ds.set j v)))
      | none => none
    | _ => none
  | _, _ => none
theorem set_ok : PSet X (RSet X.K gSetL) := by
  intro pins s σ H o i v ov iv u Q I ro ri rv h
  obtain ⟨as, st, d1, d2, d3, st', S, r1, r2, r3, e, ok⟩ := h
  cases d1 with
  | cell c =>
    cases d2 with
    | int k =>
      cases r1 with
      | cell hc =>
      rename_i p
      cases r2
      obtain ⟨cc, e1, hR⟩ := S.get' hc
      unfold gSetL at e
      simp only [e1] at e
      cases cc with
      | dct kvs => cases e
      | lst ds =>
        simp only at e
        obtain ⟨xs, hx, z, rl⟩ := hR
        cases e2 : ixN ds.length k with
        | none => rw [e2] at e; cases e
        | some j =>
          rw [e2] at e
          cases e
          obtain ⟨x1, s1⟩ := S.write (o := .lst (xs.set j v)) (c := .lst (ds.set j d3)) hc fun x1 => ⟨_, upd_same, by rw [List.length_set]; exact z, RpL.ext x1 (RpL.set r3 j rl)⟩
          exact set_list pins s σ H _ _ v ov iv u Q I ro ri rv ⟨p, xs, k, j, rfl, rfl, hx, by rw [rl.length]; exact e2, ok _ _ x1 s1⟩
    | _ => cases e
  | _ => cases e
/-- o[i] = e: the value first -/
def sSet (g : GSet) (fo fi fe : Den) : DenS := fun env st => (fe env st).then env fun v st1 => (fo env st1).then env fun o st2 => (fi env st2).then env fun i st3 => match g st3 o i v with
  | some st4 => .nx env st4
  | none => .bad
theorem ps_setix' {o i e : Expr} {spos : Pos} {g : GSet} {fo fi fe : Den} (ho : PE X o (RE X.K X.mg W fo)) (hi : PE X i (RE X.K X.mg W fi)) (he : PE X e (RE X.K X.mg W fe)) (hset : PSet X (RSet X.K g))
    (ha : ∀ v, assign (.Subscript o i pos) X.env v = (do
      let ov ← holding [v] (eval o X.env)
      let iv ← holding [v, ov] (eval i X.env)
      standAt pos
      holding [v, ov, iv] (setItem ov iv v)
      release [v, ov, iv] []))
    (hs : swapsWithSole [.Subscript o i pos] e spos.line X.env = pure false) (hw : swappedStores [.Subscript o i pos] e X.env = pure none)
    (h1 : (assignEach [.Subscript o i pos] X.env).map (·.2) = [assign (.Subscript o i pos) X.env]) : PS X (.Assign [.Subscript o i pos] e spos) (RS X.K X.mg W (sSet g fo fi fe)) := by
  refine PS.re (ps_asg he (pg_sub ho hi hset ha) hs hw h1) fun Z σ H h => ?_
  obtain ⟨as, env, st, E, S, h⟩ := h
  refine re_thenS E S h fun r st1 as1 H1 v x1 E1 S1 r1 h1 => re_thenS E1 S1 h1 fun r' st2 as2 H2 v2 x2 E2 S2 r2 h2 => re_thenS E2 S2 h2 fun r'' st3 as3 H3 v3 x3 E3 S3 r3 h3 => ?_
  cases e : g st3 r' r'' r with
  | none => rw [e] at h3; exact h3.elim
  | some st4 =>
    rw [e] at h3
    exact ⟨as3, st3, r', r'', r, st4, S3, Rp.ext x3 r2, r3, Rp.ext x3 (Rp.ext x2 r1), e, fun as' H' x s => h3 as' H' σ x s (E3.ext x)⟩
/-- name op= e, the old value an int -/
def sAug (i : Nat) (g : G2) (f : Den) : DenS := fun env st => match env[i]? with
  | some (some x) => (f env st).then env fun y st1 => match g st1 x y with
    | some (.val d) => .nx (env.set i (some d)) st1
    | _ => .bad
  | _ => .bad
theorem ps_aug' {i : Nat} {x : Str} {e : Expr} {f : Den} {op : Operator} {h2 : Int → Int → Int} {pos' : Pos} (hN : X.N.Nodup) (hi : X.N[i]? = some x) (hx : Loc X.env.scope x) (he : PE X e (RE X.K X.mg W f)) (ho : PIp X op (ipI h2)) (hf : X.fn x = true ∨ X.env.scope.names.lookup x = some .local) :
    PS X (.AugAssign (.Name x pos') op e pos) (RS X.K X.mg W (sAug i (gI yes h2) f)) := by
  refine PS.re (ps_aug hN hi hx he ho hf) fun Z σ H h => ?_
  obtain ⟨as, env, st, E, S, h⟩ := h
  unfold sAug at h
  cases e1 : env[i]? with
  | none => rw [e1] at h; exact h.elim
  | some o =>
    cases o with
    | none => rw [e1] at h; exact h.elim
    | some d =>
      rw [e1] at h
      simp only at h
      obtain ⟨v, hv, rv⟩ := E.at_ i d e1
      refine ⟨v, hv, re_thenS E S h fun r st1 as1 H1 w x1 E1 S1 r1 h1 => ?_⟩
      have rv1 := Rp.ext x1 rv
      cases d with
      | int a =>
        cases r with
        | int b =>
          cases rv1
          cases r1
          exact ⟨a, b, rfl, rfl, h1 as1 H1 _ (.refl _ _) S1 (E1.set (.int (h2 a b)) i)⟩
        | _ => exact h1.elim
      | _ => cases r <;> exact h1.elim

/-! ### methods of built-in types -/
/-- the type of a value by which a method is found -/
def hasT (T : String) (st : Store) : D → Bool
  | .str _ => T == "str"
  | .lst _ => T == "list"
  | .frl _ => T == "list"
  | .cell i => match st[i]? with
    | some (.lst _) => T == "list"
    | some (.dct _) => T == "dict"
    | none => false
  | _ => false
theorem hasT_ok {K : PySem.W.Frag} {as : List Addr} {H : Hp} {st : Store} {T : String} {v : V} {d : D} (S : StR K as H st) (r : Rp K as H v d) (e : hasT T st d = true) : tyV K T v H := by
  cases r with
  | str s => exact eq_of_beq e
  | lst h c z r => exact .inl ⟨eq_of_beq e, _, SqL.of h⟩
  | frl h z r => exact .inl ⟨eq_of_beq e, _, h.seq⟩
  | cell hc =>
    obtain ⟨c, e1, hR⟩ := S.get' hc
    unfold hasT at e
    simp only [e1] at e
    cases c with
    | lst ds => obtain ⟨xs, hx, z, r⟩ := hR; exact .inl ⟨eq_of_beq e, xs, SqL.of hx⟩
    | dct kvs => obtain ⟨ws, hx, r⟩ := hR; exact .inr (.inr (.inl ⟨eq_of_beq e, .inr ⟨ws, hx⟩⟩))
  | _ => cases e
abbrev GMet := Store → D → List D → Out D
def RM (K : PySem.W.Frag) (g : GMet) : V → List V → Hp → VK → Prop := fun x vs H Q => ∃ as st dx ds, StR K as H st ∧ Rp K as H x dx ∧ RpL K as H vs ds ∧ (g st dx ds).nox.wp (WV K as H Q) (fun _ _ _ => False)
def dMet (T : String) (g : GMet) (fo : Den) (fa : DenA) : Den := fun env st => (fo env st).bind fun x st1 => if hasT T st1 x then (fa env st1).bind fun ds st2 => (g st2 x ds).nox else .bad
theorem rm_met {K : PySem.W.Frag} {mg : Str → Option Value} {T : String} {g : GMet} {fo : Den} {fa : DenA} {σ : St} {H : Hp} {Q : VK} (h : RE K mg W (dMet T g fo fa) σ H Q) : tBM K T (RM K g) (RE K mg W fo) (RA K mg W fa) σ H Q := by
  obtain ⟨as, env, st, E, S, h⟩ := h
  refine re_then E S h fun r st1 as1 H1 v x1 E1 S1 r1 h1 => ?_
  by_cases c : hasT T st1 r = true
  · rw [if_pos c] at h1
    refine ⟨hasT_ok S1 r1 c, ra_then E1 S1 h1 fun rs st2 as2 H2 vs x2 E2 S2 r2 h2 => ⟨as2, st2, r, rs, S2, Rp.ext x2 r1, r2, ?_⟩⟩
    generalize g st2 r rs = o at h2 ⊢
    cases o with
    | ok d st3 => exact WV.ext (x1.trans x2) h2
    | exc _ _ _ => exact h2.elim
    | bad => exact h2.elim
  · rw [if_neg c] at h1; exact h1.elim
theorem pe_met' {o e : Expr} {es : List Expr} {fo : Den} {fa : DenA} {g : GMet} {name : Str} {apos cpos : Pos} {T id : String} (pa : PlainAttrs T) (slot : Slot T name id) (hty : typeOf (.builtin id) = pure (.type "method_descriptor")) (hm : MtR X id (RM X.K g)) (ho : PE X o (RE X.K X.mg W fo)) (ha : PA X (e :: es) (RA X.K X.mg W fa))
    (hbase : attributeBase o name X.env (eval o X.env) = eval o X.env)
    (hfew : ((backTo cpos (starEach (e :: es) X.env)).all (fun x => !x.1) && (backToKw cpos (keywordEach [] X.env)).all (fun x => x.1.isSome)
      && decide ((e :: es).length + ([] : List Keyword).length + (if ([] : List Keyword).isEmpty then 0 else 1) < 30)) = true)
    (hline : (apos.endLine == cpos.line) = true) (hs : starEach (e :: es) X.env = (false, eval e X.env) :: starEach es X.env) (hplain : (backTo cpos (starEach es X.env)).any (·.1) = false) :
    PE X (.Call (.Attribute o name apos) (e :: es) [] cpos) (RE X.K X.mg W (dMet T g fo fa)) := PE.re (pe_bm pa slot hty hm ho ha hbase hfew hline hs hplain) fun _ _ _ h => rm_met h
def mAppend : GMet := fun st x ds => match x, ds with
  | .cell c, [y] => match push c y st with
    | some st' => .ok .non st'
    | none => .bad
  | _, _ => .bad
theorem mt_append' : MtM X "list.append" (RM X.K mAppend) := by
  intro pins s σ H x vs v us Q I rx rs h
  obtain ⟨as, st, dx, ds, S, r1, r2, h⟩ := h
  match dx, ds, r1, r2, h with
  | .cell c, [y], .cell hc, .cons ry .nil, h =>
    unfold mAppend at h
    simp only at h
    cases e : push c y st with
    | none => rw [e] at h; exact h.elim
    | some st' =>
      rw [e] at h
      obtain ⟨acc, ha, hl, x1, s1⟩ := push_ok S hc ry e
      exact mt_append pins s σ H _ _ v us Q I rx rs ⟨_, acc, _, rfl, rfl, ha, hl, h as _ _ x1 s1 .non⟩
  | .cell _, [], _, _, h => exact h.elim
  | .cell _, _ :: _ :: _, _, _, h => exact h.elim
  | .non, _, _, _, h => exact h.elim
  | .bl _, _, _, _, h => exact h.elim
  | .int _, _, _, _, h => exact h.elim
  | .str _, _, _, _, h => exact h.elim
  | .ty _, _, _, _, h => exact h.elim
  | .tup _, _, _, _, h => exact h.elim
  | .lst _, _, _, _, h => exact h.elim
  | .frl _, _, _, _, h => exact h.elim
end
end
end L2.PyD
/-! PyD, part 8: built-in functions; calls of the text's own defs; bodies. -/
namespace L2.PyD
open PySem PySem.Spec PyProof.Rows
noncomputable section

abbrev GC := Store → List D → Option Rv
/-- one argument -/
def g1 (g : Store → D → Option Rv) : GC := fun st ds => match ds with
  | [x] => g st x
  | _ => none
def g2 (g : G2) : GC := fun st ds => match ds with
  | [x, y] => g st x y
  | _ => none
theorem rl1 {K : PySem.W.Frag} {as : List Addr} {H : Hp} {vs : List V} {d : D} (r : RpL K as H vs [d]) : ∃ v, vs = [v] ∧ Rp K as H v d := by
  cases r with
  | cons a b => cases b; exact ⟨_, rfl, a⟩
theorem rl2 {K : PySem.W.Frag} {as : List Addr} {H : Hp} {vs : List V} {d e : D} (r : RpL K as H vs [d, e]) : ∃ v w, vs = [v, w] ∧ Rp K as H v d ∧ Rp K as H w e := by
  cases r with
  | cons a b => cases b with | cons c b => cases b; exact ⟨_, _, rfl, a, c⟩
theorem callR1 {X : Cx} {f : Value} {g : Store → D → Option Rv} (h : ∀ (as : List Addr) (st : Store) (d : D) (rv : Rv) (v : V) (H : Hp) (Q : VK) (pins : List (Addr × Obj)) (s : Shared) (σ : St) (us : List Value), StR X.K as H st → Rp X.K as H v d → g st d = some rv → RvOk X.K as H st rv Q →
    Inv X pins σ H s → Vals [v] us → wpAny (model X.prog X.w) X.A (call f us) (EP X pins σ Q) X.xe s) : CallR X f (RC X.K (g1 g)) := by
  intro pins s σ H vs us Q I r q
  obtain ⟨as, st, ds, rv, S, rl, e, ok⟩ := q
  match ds, rl, e with
  | [d], rl, e =>
    obtain ⟨v, ev, rd⟩ := rl1 rl
    subst ev
    exact h as st d rv v H Q pins s σ us S rd e ok I r
  | [], _, e => cases e
  | _ :: _ :: _, _, e => cases e
theorem callR2 {X : Cx} {f : Value} {g : G2} (h : ∀ (as : List Addr) (st : Store) (d d' : D) (rv : Rv) (v v' : V) (H : Hp) (Q : VK) (pins : List (Addr × Obj)) (s : Shared) (σ : St) (us : List Value), StR X.K as H st → Rp X.K as H v d → Rp X.K as H v' d' → g st d d' = some rv → RvOk X.K as H st rv Q →
    Inv X pins σ H s → Vals [v, v'] us → wpAny (model X.prog X.w) X.A (call f us) (EP X pins σ Q) X.xe s) : CallR X f (RC X.K (g2 g)) := by
  intro pins s σ H vs us Q I r q
  obtain ⟨as, st, ds, rv, S, rl, e, ok⟩ := q
  match ds, rl, e with
  | [d, d'], rl, e =>
    obtain ⟨v, v', ev, rd, rd'⟩ := rl2 rl
    subst ev
    exact h as st d d' rv v v' H Q pins s σ us S rd rd' e ok I r
  | [], _, e => cases e
  | [_], _, e => cases e
  | _ :: _ :: _ :: _, _, e => cases e

/-- len -/
def gLen : Store → D → Option Rv := fun st x => match x with
  | .str s => if dec (s.length ≤ sizeLine) then some (.val (.int s.length)) else none
  | .cell i => match st[i]? with
    | some (.lst ds) => some (.val (.int ds.length))
    | some (.dct kvs) => some (.val (.int kvs.length))
    | none => none
  | .tup ds => some (.val (.int ds.length))
  | .lst ds => some (.val (.int ds.length))
  | .frl ds => some (.val (.int ds.length))
  | _ => none
theorem call_len' {X : Cx} : CallR X (.builtin "len") (RC X.K (g1 gLen)) := callR1 fun as st d rv v H Q pins s σ us S r e ok I rs => by
  cases r with
  | str z =>
    by_cases c : dec (z.length ≤ sizeLine) = true
    · have e' : gLen st (.str z) = some (.val (.int z.length)) := if_pos c
      rw [e'] at e; cases e
      exact call_len_str pins s σ H _ us Q I rs ⟨z, rfl, of_dec c, rv_val S ok (.int _)⟩
    · have e' : gLen st (.str z) = none := if_neg c
      rw [e'] at e; cases e
  | cell hc =>
    obtain ⟨c, e1, hR⟩ := S.get' hc
    unfold gLen at e
    simp only [e1] at e
    cases c with
    | lst ds =>
      cases e
      obtain ⟨xs, hx, z, rl⟩ := hR
      exact call_len_seq pins s σ H _ us Q I rs ⟨_, xs, rfl, .inl (SqL.of hx), by rw [rl.length]; exact rv_val S ok (.int _)⟩
    | dct kvs =>
      cases e
      obtain ⟨ws, hx, rl⟩ := hR
      refine call_len_dT pins s σ H _ us Q I rs ⟨_, ws, rfl, hx, ?_⟩
      rw [Paired.length rl]
      exact rv_val S ok (.int _)
  | tup h z rl => cases e; exact call_len_seq pins s σ H _ us Q I rs ⟨_, _, rfl, .inr h, by rw [rl.length]; exact rv_val S ok (.int _)⟩
  | lst h c z rl => cases e; exact call_len_seq pins s σ H _ us Q I rs ⟨_, _, rfl, .inl (SqL.of h), by rw [rl.length]; exact rv_val S ok (.int _)⟩
  | frl h z rl => cases e; exact call_len_seq pins s σ H _ us Q I rs ⟨_, _, rfl, .inl h.seq, by rw [rl.length]; exact rv_val S ok (.int _)⟩
  | _ => cases e
/-- int, abs -/
def gInt : Store → D → Option Rv := fun _ x => match x with
  | .int i => some (.val (.int i))
  | .bl b => some (.val (.int (if b then 1 else 0)))
  | _ => none
theorem call_int' {X : Cx} : CallR X (.type "int") (RC X.K (g1 gInt)) := callR1 fun as st d rv v H Q pins s σ us S r e ok I rs => by
  cases r with
  | int i => cases e; exact call_int1 pins s σ H _ us Q I rs (.inl ⟨i, rfl, rv_val S ok (.int _)⟩)
  | bl b => cases e; exact call_int1 pins s σ H _ us Q I rs (.inr ⟨b, rfl, rv_val S ok (.int _)⟩)
  | _ => cases e
def gAbs : Store → D → Option Rv := fun _ x => match x with
  | .int i => some (.val (.int (if i < 0 then -i else i)))
  | _ => none
theorem call_abs' {X : Cx} : CallR X (.builtin "abs") (RC X.K (g1 gAbs)) := callR1 fun as st d rv v H Q pins s σ us S r e ok I rs => by
  cases r with
  | int i => cases e; exact call_abs pins s σ H _ us Q I rs ⟨i, rfl, rv_val S ok (.int _)⟩
  | _ => cases e
/-- max, min of two ints; gcd; comb -/
def g2I (C : Int → Int → Prop) [∀ i j, Decidable (C i j)] (f : Int → Int → Int) : G2 := gI C f
theorem call2I {X : Cx} {F : Value} {C : Int → Int → Prop} [∀ i j, Decidable (C i j)] {f : Int → Int → Int} (h : CallR X F fun xs H Q => ∃ i j, xs = [.int i, .int j] ∧ C i j ∧ Q (.int (f i j)) H) : CallR X F (RC X.K (g2 (gI C f))) :=
  callR2 fun as st d d' rv v v' H Q pins s σ us S r r' e ok I rs => by
  cases d with
  | int i =>
    cases d' with
    | int j =>
      by_cases c : C i j
      · have e' : gI C f st (.int i) (.int j) = some (.val (.int (f i j))) := if_pos c
        rw [e'] at e; cases e
        cases r
        cases r'
        exact h pins s σ H _ us Q I rs ⟨i, j, rfl, c, rv_val S ok (.int _)⟩
      · have e' : gI C f st (.int i) (.int j) = none := if_neg c
        rw [e'] at e; cases e
    | _ => cases e
  | _ => cases e
def gcdI (i j : Int) : Int := ((Nat.gcd i.natAbs j.natAbs : Nat) : Int)
def combOk (a b : Int) : Prop := 0 ≤ a ∧ 0 ≤ b ∧ a < 2 ^ 64 ∧ b ≤ 9000
instance : ∀ i j, Decidable (combOk i j) := fun _ _ => Classical.propDecidable _
section
variable {X : Cx}
theorem call_max2' (hc : X.calm = true) : CallR X (.builtin "max") (RC X.K (g2 (gI yes fun i j => if j > i then j else i))) := call2I fun pins s σ H xs us Q I rs h => by
  obtain ⟨i, j, e, _, q⟩ := h
  exact call_max2 hc pins s σ H xs us Q I rs ⟨i, j, e, q⟩
theorem call_min2' (hc : X.calm = true) : CallR X (.builtin "min") (RC X.K (g2 (gI yes fun i j => if j < i then j else i))) := call2I fun pins s σ H xs us Q I rs h => by
  obtain ⟨i, j, e, _, q⟩ := h
  exact call_min2 hc pins s σ H xs us Q I rs ⟨i, j, e, q⟩
theorem call_gcd' : CallR X (.builtin "math.gcd") (RC X.K (g2 (gI yes gcdI))) := call2I fun pins s σ H xs us Q I rs h => by
  obtain ⟨i, j, e, _, q⟩ := h
  exact cr_gcd pins s σ H xs us Q I rs ⟨i, j, e, q⟩
theorem call_comb' : CallR X (.builtin "math.comb") (RC X.K (g2 (gI combOk PySem.W.mcComb))) := call2I fun pins s σ H xs us Q I rs h => by
  obtain ⟨i, j, e, c, q⟩ := h
  subst e
  obtain ⟨t, u, rfl⟩ := Vals.int2 rs
  exact PySem.W.mc_comb c.1 c.2.1 c.2.2.1 (.inl c.2.2.2) fun _ => ⟨.int _, H, I.tok _, ⟨_, rfl⟩, q⟩
end
/-- lists of ints, of bools -/
def intsOf : List D → Option (List Int)
  | [] => some []
  | .int i :: ds => match intsOf ds with
    | some is => some (i :: is)
    | none => none
  | _ :: _ => none
def blsOf : List D → Option (List Bool)
  | [] => some []
  | .bl i :: ds => match blsOf ds with
    | some is => some (i :: is)
    | none => none
  | _ :: _ => none
theorem ints_ok {K : PySem.W.Frag} {as : List Addr} {H : Hp} : ∀ {vs : List V} {ds : List D} {is : List Int}, RpL K as H vs ds → intsOf ds = some is → vs = is.map V.int
  | _, _, _, .nil, e => by cases e; rfl
  | _, _, _, .cons (d := d) (ds := ds) r rl, e => by
    cases d with
    | int i =>
      unfold intsOf at e
      cases e1 : intsOf ds with
      | none => rw [e1] at e; cases e
      | some js => rw [e1] at e; cases e; cases r; rw [ints_ok rl e1]; rfl
    | _ => cases e
theorem bls_ok {K : PySem.W.Frag} {as : List Addr} {H : Hp} : ∀ {vs : List V} {ds : List D} {is : List Bool}, RpL K as H vs ds → blsOf ds = some is → vs = is.map V.bl
  | _, _, _, .nil, e => by cases e; rfl
  | _, _, _, .cons (d := d) (ds := ds) r rl, e => by
    cases d with
    | bl i =>
      unfold blsOf at e
      cases e1 : blsOf ds with
      | none => rw [e1] at e; cases e
      | some js => rw [e1] at e; cases e; cases r; rw [bls_ok rl e1]; rfl
    | _ => cases e
/-- a list's items, however it is kept (not a tuple's) -/
def lstD (st : Store) : D → Option (List D)
  | .lst ds => some ds
  | .frl ds => some ds
  | .cell i => match st[i]? with
    | some (.lst ds) => some ds
    | _ => none
  | _ => none
theorem lst_now {K : PySem.W.Frag} {as : List Addr} {H : Hp} {st : Store} {v : V} {d : D} {ds : List D} (S : StR K as H st) (r : Rp K as H v d) (e : lstD st d = some ds) : ∃ a xs, v = .ref a ∧ SqL K H a xs ∧ xs.length ≤ sizeLine ∧ RpL K as H xs ds := by
  cases r with
  | lst h c z r => cases e; exact ⟨_, _, rfl, SqL.of h, z, r⟩
  | frl h z r => cases e; exact ⟨_, _, rfl, h.seq, z, r⟩
  | cell h =>
    obtain ⟨c, e1, hR⟩ := S.get' h
    simp only [lstD, e1] at e
    cases c with
    | dct kvs => cases e
    | lst es => cases e; obtain ⟨xs, hx, z, r⟩ := hR; exact ⟨_, xs, rfl, SqL.of hx, z, r⟩
  | _ => cases e
def gSum : Store → D → Option Rv := fun st x => match lstD st x with
  | some ds => match intsOf ds with
    | some is => some (.val (.int is.sum))
    | none => none
  | none => none
def gAny : Store → D → Option Rv := fun st x => match lstD st x with
  | some ds => match blsOf ds with
    | some is => some (.val (.bl (is.any id)))
    | none => none
  | none => none
def gAll : Store → D → Option Rv := fun st x => match lstD st x with
  | some ds => match blsOf ds with
    | some is => some (.val (.bl (is.all id)))
    | none => none
  | none => none
theorem call_sum' {X : Cx} (hc : X.calm = true) : CallR X (.builtin "sum") (RC X.K (g1 gSum)) := callR1 fun as st d rv v H Q pins s σ us S r e ok I rs => by
  unfold gSum at e
  cases e1 : lstD st d with
  | none => rw [e1] at e; cases e
  | some ds =>
    rw [e1] at e
    simp only at e
    cases e2 : intsOf ds with
    | none => rw [e2] at e; cases e
    | some is =>
      rw [e2] at e; cases e
      obtain ⟨a, xs, ev, hq, z, rl⟩ := lst_now S r e1
      subst ev
      have := ints_ok rl e2
      subst this
      exact cr_sum hc pins s σ H _ us Q I rs ⟨a, is, rfl, hq, rv_val S ok (.int _)⟩
theorem call_any' {X : Cx} (hc : X.calm = true) : CallR X (.builtin "any") (RC X.K (g1 gAny)) := callR1 fun as st d rv v H Q pins s σ us S r e ok I rs => by
  unfold gAny at e
  cases e1 : lstD st d with
  | none => rw [e1] at e; cases e
  | some ds =>
    rw [e1] at e
    simp only at e
    cases e2 : blsOf ds with
    | none => rw [e2] at e; cases e
    | some is =>
      rw [e2] at e; cases e
      obtain ⟨a, xs, ev, hq, z, rl⟩ := lst_now S r e1
      subst ev
      have := bls_ok rl e2
      subst this
      exact cr_any hc pins s σ H _ us Q I rs ⟨a, is, rfl, hq, rv_val S ok (.bl _)⟩
theorem call_all' {X : Cx} (hc : X.calm = true) : CallR X (.builtin "all") (RC X.K (g1 gAll)) := callR1 fun as st d rv v H Q pins s σ us S r e ok I rs => by
  unfold gAll at e
  cases e1 : lstD st d with
  | none => rw [e1] at e; cases e
  | some ds =>
    rw [e1] at e
    simp only at e
    cases e2 : blsOf ds with
    | none => rw [e2] at e; cases e
    | some is =>
      rw [e2] at e; cases e
      obtain ⟨a, xs, ev, hq, z, rl⟩ := lst_now S r e1
      subst ev
      have := bls_ok rl e2
      subst this
      exact cr_all hc pins s σ H _ us Q I rs ⟨a, is, rfl, hq, rv_val S ok (.bl _)⟩
/-- tuple(x), list(x) of lists and tuples -/
def gTup : Store → D → Option Rv := fun st x => match x with
  | .tup ds => some (.val (.tup ds))
  | _ => match lstD st x with
    | some ds => some (.val (.tup ds))
    | none => none
theorem call_tuple' {X : Cx} : CallR X (.type "tuple") (RC X.K (g1 gTup)) := callR1 fun as st d rv v H Q pins s σ us S r e ok I rs => by
  have go : ∀ ds, lstD st d = some ds → RvOk X.K as H st (.val (.tup ds)) Q → wpAny (model X.prog X.w) X.A (call (.type "tuple") us) (EP X pins σ Q) X.xe s := fun ds e1 ok => by
    obtain ⟨a, xs, ev, hq, z, rl⟩ := lst_now S r e1
    subst ev
    refine call_tuple_of pins s σ H _ us Q I rs ⟨a, xs, rfl, .inl ⟨hq, fun l hl => ?_⟩⟩
    obtain ⟨x1, s1⟩ := S.alloc (.tup xs) hl
    exact ok _ _ x1 s1 (.tup (SqT.of upd_same) z (RpL.ext x1 rl))
  cases d with
  | tup ds =>
    cases e
    cases r with
    | tup h z rl => exact call_tuple_of pins s σ H _ us Q I rs ⟨_, _, rfl, .inr ⟨h, rv_val S ok (.tup h z rl)⟩⟩
  | lst ds => cases e; exact go ds rfl ok
  | frl ds => cases e; exact go ds rfl ok
  | cell i =>
    unfold gTup at e
    simp only at e
    cases e1 : lstD st (.cell i) with
    | none => rw [e1] at e; cases e
    | some ds => rw [e1] at e; cases e; exact go ds e1 ok
  | _ => cases e
def gList : Store → D → Option Rv := fun st x => match seqD st x with
  | some it => some (.newL it.1)
  | none => none
theorem call_list' {X : Cx} : CallR X (.type "list") (RC X.K (g1 gList)) := callR1 fun as st d rv v H Q pins s σ us S r e ok I rs => by
  unfold gList at e
  cases e1 : seqD st d with
  | none => rw [e1] at e; cases e
  | some it =>
    rw [e1] at e; cases e
    obtain ⟨a, xs, ev, hq, z, rl⟩ := seq_now S r e1
    subst ev
    exact call_list_of pins s σ H _ us Q I rs ⟨a, xs, rfl, hq, fun l hl => ok l xs hl z rl⟩
/-- isinstance -/
def tyD (st : Store) : D → Option String
  | .non => some "NoneType"
  | .bl _ => some "bool"
  | .int _ => some "int"
  | .str _ => some "str"
  | .tup _ => some "tuple"
  | .lst _ => some "list"
  | .frl _ => some "list"
  | .cell i => match st[i]? with
    | some (.lst _) => some "list"
    | some (.dct _) => some "dict"
    | none => none
  | .ty _ => none
def tysOf : List D → Option (List String)
  | [] => some []
  | .ty n :: ds => match tysOf ds with
    | some is => some (n :: is)
    | none => none
  | _ :: _ => none
def kitL (t : String) : List String → Option Bool
  | [] => some false
  | n :: ns => match kitB t n with
    | some true => some true
    | some false => kitL t ns
    | none => none
def gIsi : G2 := fun st x c => match tyD st x with
  | some t => match c with
    | .ty n => match kitB t n with
      | some b => some (.val (.bl b))
      | none => none
    | .tup ds => match tysOf ds with
      | some ns => match kitL t ns with
        | some b => some (.val (.bl b))
        | none => none
      | none => none
    | _ => none
  | none => none
theorem FixL.ty {K : PySem.W.Frag} {H : Hp} {p : Addr} {xs : List V} (h : FixL K H p xs) : TyX K H (.ref p) (.type "list") := by
  rcases h with ⟨o, h⟩ | h
  · exact .base (.frz h)
  · rcases h (fun _ => none) with (q | ⟨o, q⟩) | ⟨o, its, n, hk, hc, _⟩
    · cases q
    · cases q
    · exact .kList hk hc
theorem SqT.ty {K : PySem.W.Frag} {H : Hp} {p : Addr} {xs : List V} (h : SqT K H p xs) : TyX K H (.ref p) (.type "tuple") := by
  rcases h with (q | ⟨o, q⟩) | ⟨o, its, n, hk, hc, _⟩
  · exact .base (.tup q)
  · exact .fTuple q
  · exact .kTuple hk hc
theorem tyD_ok {K : PySem.W.Frag} {as : List Addr} {H : Hp} {st : Store} {v : V} {d : D} {t : String} (S : StR K as H st) (r : Rp K as H v d) (e : tyD st d = some t) : TyX K H v (.type t) := by
  cases r with
  | non => cases e; exact .base .non
  | bl b => cases e; exact .base (.bl b)
  | int i => cases e; exact .base (.int i)
  | str s => cases e; exact .base (.str s)
  | ty n => cases e
  | tup h z r => cases e; exact SqT.ty h
  | lst h c z r => cases e; exact .base (.lst h)
  | frl h z r => cases e; exact h.ty
  | cell hc =>
    obtain ⟨c, e1, hR⟩ := S.get' hc
    unfold tyD at e
    simp only [e1] at e
    cases c with
    | lst ds => cases e; obtain ⟨xs, hx, z, r⟩ := hR; exact .base (.lst hx)
    | dct kvs => cases e; obtain ⟨ws, hx, r⟩ := hR; exact .base (.dT hx)
theorem tys_ok {K : PySem.W.Frag} {as : List Addr} {H : Hp} : ∀ {vs : List V} {ds : List D} {ns : List String}, RpL K as H vs ds → tysOf ds = some ns → vs = ns.map V.ty
  | _, _, _, .nil, e => by cases e; rfl
  | _, _, _, .cons (d := d) (ds := ds) r rl, e => by
    cases d with
    | ty i =>
      unfold tysOf at e
      cases e1 : tysOf ds with
      | none => rw [e1] at e; cases e
      | some js => rw [e1] at e; cases e; cases r; rw [tys_ok rl e1]; rfl
    | _ => cases e
theorem tys_cls : ∀ ns : List String, Paired ClsV (ns.map V.ty) (ns.map Value.type)
  | [] => .nil
  | n :: ns => .cons (.ty n) (tys_cls ns)
theorem kitL_ok {K : PySem.W.Frag} {t : String} : ∀ {ns : List String} {b : Bool}, kitL t ns = some b → PySem.W.kitAny K (.type t) (ns.map Value.type) = some b
  | [], b, e => by cases e; exact kitAny_nil
  | n :: ns, b, e => by
    unfold kitL at e
    cases e1 : kitB t n with
    | none => rw [e1] at e; cases e
    | some k =>
      rw [e1] at e
      cases k with
      | true => cases e; exact kitAny_cons (kit_ty e1) (fun q => nomatch q) fun _ => rfl
      | false => exact kitAny_cons (kit_ty e1) (fun _ => kitL_ok e) fun q => nomatch q
theorem call_isi' {X : Cx} : CallR X (.builtin "isinstance") (RC X.K (g2 gIsi)) := callR2 fun as st d d' rv v v' H Q pins s σ us S r r' e ok I rs => by
  unfold gIsi at e
  cases e1 : tyD st d with
  | none => rw [e1] at e; cases e
  | some t =>
    rw [e1] at e
    simp only at e
    have ht := tyD_ok S r e1
    cases d' with
    | ty n =>
      cases r'
      simp only at e
      cases e2 : kitB t n with
      | none => rw [e2] at e; cases e
      | some b =>
        rw [e2] at e; cases e
        exact call_isi pins s σ H _ us Q I rs ⟨v, .ty n, .type t, .type n, b, rfl, .ty n, ht, kit_ty e2, rv_val S ok (.bl _)⟩
    | tup ds =>
      simp only at e
      cases e2 : tysOf ds with
      | none => rw [e2] at e; cases e
      | some ns =>
        rw [e2] at e
        simp only at e
        cases e3 : kitL t ns with
        | none => rw [e3] at e; cases e
        | some b =>
          rw [e3] at e; cases e
          cases r' with
          | tup hT z rl =>
          have ev := tys_ok rl e2
          subst ev
          obtain ⟨w1, w2, ew, q1, q2⟩ := vals2 rs
          subst ew
          cases (show w2 = Value.ref _ from q2)
          obtain ⟨Pr, Zr, pr, hx⟩ := kit_of I q1 ht
          obtain ⟨its, rv, ⟨o, o1, o2, m, o3⟩, _⟩ := I.tuple hT
          have ei := ClsV.all (tys_cls ns) rv
          subst ei
          obtain ⟨oc, od, dt, sl⟩ := o
          simp only at o2 o3
          subst o2 o3
          exact PySem.W.kia_tup Zr I.kIn pr o1 (kitL_ok e3) hx fun tk => ⟨.bl b, H, I.tok tk, rfl, rv_val S ok (.bl _)⟩
    | _ => cases e
/-! ### the text's own defs -/
abbrev Cal := List D → Store → Out D
def dCall (c : Cal) (fa : DenA) : Den := fun env st => (fa env st).bind fun ds st1 => c ds st1
/-- what a def promises: what its data reading gives -/
def spI (K : PySem.W.Frag) (mg : Str → Option Value) (n : Nat) (c : Cal) : Sp := fun vs H Q E => ∃ as st ds, StR K as H st ∧ RpL K as H vs ds ∧ vs.length = n ∧ (c ds st).wp (WV K as H Q) fun x fs st' => ∀ as' H' C d, Ext as H as' H' → StR K as' H' st' → ExcR K mg as' H' x fs C d → E C d H'
section
variable {X : Cx} {W : WX} {pos : Pos}
theorem pe_call' {k : Nat} {f : Addr} {fd : FuncData} {ps : List Str} {c : Cal} {n : Nat} {x : Str} {p : Pos} {e : Expr} {es : List Expr} {fa : DenA} (F : FnOk X.prog X.w X.K X.mg X.base (L2.CX X.prog X.w) k f fd ps (spI X.K X.mg n c)) (hr : Room k X.A) (hg : Gl X x) (hm : X.mg x = some (.ref f)) (hk : PySem.W.keepIn X.K (.ref f) = true)
    (hb : Binds X.K fd ps []) (tk : Takes X W) (ha : PA X (e :: es) (RA X.K X.mg W fa)) (hn : ∀ env st ds st', fa env st = .ok ds st' → ds.length = n) (hdb : (x == ("__debug__" : Str)) = false)
    (he : starEach (e :: es) X.env = (false, eval e X.env) :: starEach es X.env) (hpl : (backTo pos (starEach es X.env)).any (·.1) = false) :
    PE X (.Call (.Name x p) (e :: es) [] pos) (RE X.K X.mg W (dCall c fa)) := PE.re (pe_callS F hr hg hm hk hb (fun σ => passAt tk σ) ha hdb he hpl) fun σ H Q h => by
  obtain ⟨as, env, st, E, S, h⟩ := h
  refine ⟨as, env, st, E, S, Out.wp_mono (Out.wp_bind h) (fun ds st1 e1 h1 as1 H1 vs x1 S1 rl => ?_) fun _ _ _ z => z⟩
  refine ⟨as1, st1, ds, S1, rl, by rw [rl.length]; exact hn env st ds st1 e1, Out.wp_mono h1 (fun _ _ _ z => z.ext x1) fun y fs st' z => ?_⟩
  exact fun as' H' C d x2 S2 r2 => z as' H' C d (x1.trans x2) S2 r2
end
/-- the names' values at the entry -/
def startE (n : Nat) (ds : List D) : Env := ds.map some ++ List.replicate (n - ds.length) none
theorem startE_ok {K : PySem.W.Frag} {as : List Addr} {H : Hp} {N : List Str} {vs : List V} {ds : List D} (r : RpL K as H vs ds) : EnvR K as H (start N vs) (startE N.length ds) := by
  have hl := r.length
  refine ⟨by unfold start startE; simp [hl], fun i d e => ?_⟩
  unfold startE at e
  unfold start
  by_cases hi : i < ds.length
  · rw [List.getElem?_append_left (by simpa using hi), List.getElem?_map] at e
    cases e1 : ds[i]? with
    | none => rw [e1] at e; cases e
    | some d' =>
      rw [e1] at e
      cases e
      obtain ⟨v, h1, h2⟩ := r.get e1
      exact ⟨v, by rw [List.getElem?_append_left (by simp [hl]; exact hi), List.getElem?_map, h1]; rfl, h2⟩
  · rw [List.getElem?_append_right (by simpa using hi), List.getElem?_replicate] at e
    split at e <;> cases e
open Classical in
noncomputable def leaveX (st0 s : Store) (x : Str) (fs : List (Str × D)) : Out D := if Closed st0 s ∧ fs.all (fun p => p.2.undr st0.length) = true then .exc x fs (s.take st0.length) else .bad
/-- a def by its body -/
noncomputable def dBody (n : Nat) (b : DenS) : Cal := fun ds st => match b (startE n ds) st with
  | .ret d s => leave st s d
  | .nx _ s => leave st s .non
  | .exc _ x fs s => leaveX st s x fs
  | _ => .bad
theorem fields_cut {K : PySem.W.Frag} {as : List Addr} {H : Hp} {n : Nat} : ∀ {ws : List (Str × V)} {fs : List (Str × D)}, Paired (fun (a : Str × V) (b : Str × D) => a.1 = b.1 ∧ Rp K as H a.2 b.2) ws fs → fs.all (fun p => p.2.undr n) = true →
    Paired (fun (a : Str × V) (b : Str × D) => a.1 = b.1 ∧ Rp K (as.take n) H a.2 b.2) ws fs
  | _, _, .nil, _ => .nil
  | _, _, .cons h r, b => by
    rw [List.all_cons, Bool.and_eq_true] at b
    exact .cons ⟨h.1, Rp.cut h.2 b.1⟩ (fields_cut r b.2)
section
variable {P : Program} {w : World} {K : PySem.W.Frag} {mg : Str → Option Value} {base : Heap}
theorem fn_ok {x qual : Str} {st : Stmt} {f : Addr} {fd : FuncData} {N ps : List Str} {k n : Nat} {b : DenS} (F : Fun K x qual st f fd) (S : FnScope N ps (defScope st)) (hn : n = ps.length)
    (hbody : ∀ (cdv : Value) (A : Around) (outer : List PySem.Env) (s : Shared) (H : Hp) (E : XK), Room k (A.deeper (envOfC qual (defScope st) s.heap.objs.size f cdv)) →
      PSs (cxOf (L2.CX P w) P w K mg base N qual (defScope st) f cdv A outer s H E) (defBody st) (RS K mg (fun cls d _ H => E cls d H) b)) : FnOk P w K mg base (L2.CX P w) (k + 1) f fd ps (spI K mg n (dBody N.length b)) := by
  refine F.okX S (fun vs H Q E h => ?_) fun cdv A outer s H vs Q E hr h => ?_
  · obtain ⟨_, _, _, _, _, h, _⟩ := h
    rw [h, hn]
  · obtain ⟨as, st0, ds, S0, rl, hl, h⟩ := h
    refine ⟨_, hbody cdv A outer s H E hr, as, startE N.length ds, st0, startE_ok rl, S0, ?_⟩
    unfold dBody at h
    cases e : b (startE N.length ds) st0 with
    | ret d s1 =>
      rw [e] at h
      intro as1 H1 v x1 S1 r1
      obtain ⟨d', q, x2, S2, r2⟩ := leave_ok S0 x1 S1 r1 h
      exact q as H1 v x2 S2 r2
    | nx e1 s1 =>
      rw [e] at h
      intro as1 H1 σ1 x1 S1 r1
      obtain ⟨d', q, x2, S2, r2⟩ := leave_ok S0 x1 S1 .non h
      exact q as H1 .non x2 S2 r2
    | exc e1 y fs s1 =>
      rw [e] at h
      intro as1 H1 σ1 C d x1 S1 r1 hx
      have h := show (leaveX st0 s1 y fs).wp _ _ from h
      unfold leaveX at h
      by_cases c : Closed st0 s1 ∧ fs.all (fun p => p.2.undr st0.length) = true
      · rw [if_pos c] at h
        obtain ⟨e0, x2, S2⟩ := closed_ok S0 x1 S1 c.1
        refine h as H1 C d x2 S2 ⟨hx.1, ?_⟩
        obtain ⟨_, hx⟩ := hx
        cases fs with
        | nil => exact hx
        | cons p fs =>
          obtain ⟨dd, ws, h1, h2, h3⟩ := hx
          have := fields_cut h3 c.2
          rw [e0] at this
          exact ⟨dd, ws, h1, h2, this⟩
      · rw [if_neg c] at h; exact h.elim
    | brk _ _ => rw [e] at h; exact h.elim
    | ct _ _ => rw [e] at h; exact h.elim
    | bad => rw [e] at h; exact h.elim
end
end
end L2.PyD
/-! PyD, part 9: short forms of expressions and statements; what they do; when a text has such a form. -/
namespace L2.PyD
open PySem PySem.Spec PyProof.Rows
noncomputable section

/-- built-in functions -/
inductive Bi where
  | len | int | abs | max2 | min2 | gcd | comb | sum | any | all | tuple | list | isi
  deriving DecidableEq
def Bi.g : Bi → GC
  | .len => g1 gLen
  | .int => g1 gInt
  | .abs => g1 gAbs
  | .max2 => g2 (gI yes fun i j => if j > i then j else i)
  | .min2 => g2 (gI yes fun i j => if j < i then j else i)
  | .gcd => g2 (gI yes gcdI)
  | .comb => g2 (gI combOk PySem.W.mcComb)
  | .sum => g1 gSum
  | .any => g1 gAny
  | .all => g1 gAll
  | .tuple => g1 gTup
  | .list => g1 gList
  | .isi => g2 gIsi
/-- its name; whether it is imported; its value -/
def Bi.name : Bi → Str
  | .len => "len"
  | .int => "int"
  | .abs => "abs"
  | .max2 => "max"
  | .min2 => "min"
  | .gcd => "gcd"
  | .comb => "comb"
  | .sum => "sum"
  | .any => "any"
  | .all => "all"
  | .tuple => "tuple"
  | .list => "list"
  | .isi => "isinstance"
inductive Bk where
  | fn (id : String) | ty (id : String) | im (id : String)
def Bi.kind : Bi → Bk
  | .len => .fn "len"
  | .int => .ty "int"
  | .abs => .fn "abs"
  | .max2 => .fn "max"
  | .min2 => .fn "min"
  | .gcd => .im "math.gcd"
  | .comb => .im "math.comb"
  | .sum => .fn "sum"
  | .any => .fn "any"
  | .all => .fn "all"
  | .tuple => .ty "tuple"
  | .list => .ty "list"
  | .isi => .fn "isinstance"
def Bk.val : Bk → Value
  | .fn id => .builtin id
  | .ty id => .type id
  | .im id => .builtin id
theorem Bi.ok {X : Cx} (hc : X.calm = true) : ∀ b : Bi, CallR X b.kind.val (RC X.K b.g)
  | .len => call_len'
  | .int => call_int'
  | .abs => call_abs'
  | .max2 => call_max2' hc
  | .min2 => call_min2' hc
  | .gcd => call_gcd'
  | .comb => call_comb'
  | .sum => call_sum' hc
  | .any => call_any' hc
  | .all => call_all' hc
  | .tuple => call_tuple'
  | .list => call_list'
  | .isi => call_isi'
theorem Bi.boot : ∀ b : Bi, (∀ id, b.kind ≠ .im id) → bootBuiltins b.name = some b.kind.val
  | .len, _ => by decide +kernel
  | .int, _ => by decide +kernel
  | .abs, _ => by decide +kernel
  | .max2, _ => by decide +kernel
  | .min2, _ => by decide +kernel
  | .gcd, h => absurd rfl (h _)
  | .comb, h => absurd rfl (h _)
  | .sum, _ => by decide +kernel
  | .any, _ => by decide +kernel
  | .all, _ => by decide +kernel
  | .tuple, _ => by decide +kernel
  | .list, _ => by decide +kernel
  | .isi, _ => by decide +kernel
/-- methods -/
inductive Mt where
  | append
  deriving DecidableEq
def Mt.T : Mt → String
  | .append => "list"
def Mt.name : Mt → Str
  | .append => "append"
def Mt.g : Mt → GMet
  | .append => mAppend
structure MtFact (X : Cx) (T : String) (name : Str) (g : GMet) : Prop where
  ex : ∃ id, PlainAttrs T ∧ Slot T name id ∧ typeOf (.builtin id) = pure (.type "method_descriptor") ∧ MtR X id (RM X.K g)
theorem Mt.ok {X : Cx} : ∀ m : Mt, MtFact X m.T m.name m.g
  | .append => ⟨_, PySem.F.plainAttrs_list, PySem.F.slot_list_append, PySem.F.type_list_append, mt_append'⟩

/-- targets -/
inductive T where
  | nm (i : Nat)
  | tup (is : List Nat)
def tgNames : List Nat → DenTs
  | [] => tgNil
  | i :: is => tgCons (tgName i) (tgNames is)
def tg : T → DenT
  | .nm i => tgName i
  | .tup is => tgTup is.length (tgNames is)

mutual
inductive E where
  | con (d : D)
  | var (i : Nat)
  | glb (j : Nat)
  | tyn (n : String)
  | tup (as : Es)
  | lst (mu : Bool) (as : Es)
  | bin (mu : Bool) (o : Operator) (a b : E)
  | neg (a : E)
  | cmp (o : CmpOp) (a b : E)
  | cmp2 (o o' : CmpOp) (a b c : E)
  | and (a b : E)
  | or (a b : E)
  | not (a : E)
  | ite (t a b : E)
  | ix (a b : E)
  | call (f : Nat) (as : Es)
  | blt (mu : Bool) (b : Bi) (as : Es)
  | met (m : Mt) (o : E) (as : Es)
  | comp (mu : Bool) (it : I) (own : List (Str × Nat)) (t : T) (e : E)
  | compIf (mu : Bool) (it : I) (own : List (Str × Nat)) (t : T) (c e : E)
inductive Es where
  | nil
  | cons (e : E) (es : Es)
inductive I where
  | val (e : E)
  | rng (as : Es)
  | enu (as : Es)
end
/-- what an expression does: as a value, as a bool, as a test -/
structure Tri where
  v : Den
  b : DenB
  t : DenB
def triV (f : Den) : Tri := ⟨f, bVal f, bTru f⟩
def triB (b t : DenB) : Tri := ⟨dOf b, b, t⟩
def badB : DenB := fun _ _ => .bad
structure Pr where
  C : Nat → Cal
  G : Nat → D
def binG' (o : Operator) : G2 := (binG o).getD fun _ _ _ => none
def cmpG' (o : CmpOp) : C2 := (cmpG o).getD fun _ _ _ => none
def bYes : DenB := fun _ st => .ok true st
mutual
noncomputable def ev (p : Pr) : E → Tri
  | .con d => triV (dCon d)
  | .var i => triV (dVar i)
  | .glb j => triV (dCon (p.G j))
  | .tyn n => triV (dCon (.ty n))
  | .tup as => triV (dTup (evs p as))
  | .lst mu as => triV (dLst mu (evs p as))
  | .bin mu o a b => triV (dBin mu (binG' o) (ev p a).v (ev p b).v)
  | .neg a => triV (dUn false gNeg (ev p a).v)
  | .cmp o a b => triB (bCmp (cmpG' o) (ev p a).v (ev p b).v) (bCmp (cmpG' o) (ev p a).v (ev p b).v)
  | .cmp2 o o' a b c => triB (bChain (cmpG' o) (cmpG' o') (ev p a).v (ev p b).v (ev p c).v) (bChain (cmpG' o) (cmpG' o') (ev p a).v (ev p b).v (ev p c).v)
  | .and a b => triB (bAnd (ev p a).b (ev p b).b) (bAnd (ev p a).t (ev p b).t)
  | .or a b => triB (bOr (ev p a).b (ev p b).b) (bOr (ev p a).t (ev p b).t)
  | .not a => triB (bNot (ev p a).b) (bNot (ev p a).t)
  | .ite t a b => ⟨dIte (ev p t).t (ev p a).v (ev p b).v, bVal (dIte (ev p t).t (ev p a).v (ev p b).v), badB⟩
  | .ix a b => triV (dBin false gIx (ev p a).v (ev p b).v)
  | .call f as => triV (dCall (p.C f) (evs p as))
  | .blt mu b as => triV (dCl mu b.g (evs p as))
  | .met m o as => triV (dMet m.T m.g (ev p o).v (evs p as))
  | .comp mu it own t e => triV (dComp mu (evI p it) (own.map (·.2)) (tg t) bYes (ev p e).v)
  | .compIf mu it own t c e => triV (dComp mu (evI p it) (own.map (·.2)) (tg t) (ev p c).t (ev p e).v)
noncomputable def evs (p : Pr) : Es → DenA
  | .nil => aNil
  | .cons e es => aCons (ev p e).v (evs p es)
noncomputable def evI (p : Pr) : I → DenI
  | .val e => iVal (ev p e).v
  | .rng as => iRng (evs p as)
  | .enu as => iEnu (evs p as)
end
def Es.len : Es → Nat
  | .nil => 0
  | .cons _ es => es.len + 1

/-! ### when a text has such a form -/
/-- where one stands -/
structure Mc where
  N : List Str
  sc : Scope
  st : Str → Bool
  fns : List (Str × Nat × Nat)
  gls : List (Str × Nat)
  blt : List Str
  imp : List (Str × String)
def notStar : Expr → Bool
  | .Starred .. => false
  | _ => true
def notSlice : Expr → Bool
  | .Slice .. => false
  | _ => true
def notSet : Expr → Bool
  | .Set .. => false
  | _ => true
def notSuper : Expr → Bool
  | .Call (.Name _ _) [] [] _ => false
  | _ => true
def plainT : Expr → Bool
  | .UnaryOp .Not _ _ => false
  | .BoolOp .. => false
  | .IfExp .. => false
  | .Compare .. => false
  | _ => true
def visB (sc : Scope) (x : Str) : Bool := match sc.names.lookup x with
  | some .local => true
  | some .cell => true
  | some .free => true
  | _ => false
def glB (sc : Scope) (x : Str) : Bool := match sc.names.lookup x with
  | some .globalImplicit => true
  | _ => false
def okName (x : Str) : Bool := !(x == ("__debug__" : Str)) && !(x == ("__classdict__" : Str)) && !(x == ("__name__" : Str))
def conB : Const → D → Bool
  | .int i, .int j => decide (i = j)
  | .bool a, .bl b => a == b
  | .none, .non => true
  | .str a, .str b => decide (a = b)
  | _, _ => false
section
variable {env : PySem.Env}
theorem star1 {e : Expr} {es : List Expr} (h : notStar e = true) : starEach (e :: es) env = (false, eval e env) :: starEach es env := by
  cases e <;> first | rfl | cases h
theorem stars {pos : Pos} : ∀ {es : List Expr}, es.all notStar = true → (backTo pos (starEach es env)).any (·.1) = false
  | [], _ => rfl
  | e :: es, h => by
    rw [List.all_cons, Bool.and_eq_true] at h
    rw [star1 h.1]
    show (false || (backTo pos (starEach es env)).any (·.1)) = false
    rw [stars h.2]
    rfl
theorem starsA {pos : Pos} : ∀ {es : List Expr}, es.all notStar = true → (backTo pos (starEach es env)).all (fun x => !x.1) = true
  | [], _ => rfl
  | e :: es, h => by
    rw [List.all_cons, Bool.and_eq_true] at h
    rw [star1 h.1]
    show (!false && (backTo pos (starEach es env)).all (fun x => !x.1)) = true
    rw [starsA h.2]
    rfl
theorem plainIx_of {b : Expr} (h : notSlice b = true) : PlainIx b := fun o i => by
  cases b <;> first | rfl | cases h
theorem fold_of {e : Expr} (h : notSet e = true) : ∀ x, foldedSetIterable e env x = pure x := fun x => by
  cases e <;> first | rfl | cases h
theorem plainT_of {e : Expr} (h : plainT e = true) : ∀ whole, isTrue e env whole = (do let v ← whole; standAt e.pos; holding [v] (truthy v)) := fun whole => by
  cases e with
  | UnaryOp o x p => cases o <;> first | rfl | cases h
  | _ => first | rfl | cases h
theorem base_of {o : Expr} {a : Str} {whole : Sem Value} (h : notSuper o = true) : attributeBase o a env whole = whole := by
  unfold attributeBase
  split
  · cases h
  · rfl
end
def tynB (n : String) (x : Str) : Bool := match n with
  | "int" => decide (x = ("int" : Str))
  | "bool" => decide (x = ("bool" : Str))
  | "str" => decide (x = ("str" : Str))
  | "tuple" => decide (x = ("tuple" : Str))
  | "list" => decide (x = ("list" : Str))
  | "dict" => decide (x = ("dict" : Str))
  | _ => false
theorem tyn_ok {n : String} {x : Str} (h : tynB n x = true) : bootBuiltins x = some (.type n) := by
  unfold tynB at h
  split at h
  · rw [of_decide_eq_true h]; decide +kernel
  · rw [of_decide_eq_true h]; decide +kernel
  · rw [of_decide_eq_true h]; decide +kernel
  · rw [of_decide_eq_true h]; decide +kernel
  · rw [of_decide_eq_true h]; decide +kernel
  · rw [of_decide_eq_true h]; decide +kernel
  · cases h
def locB (sc : Scope) (x : Str) : Bool := match sc.names.lookup x with
  | some .local => true
  | some .cell => true
  | _ => false
def owB (ow : Option (List Nat)) (i : Nat) : Bool := match ow with
  | none => true
  | some vs => vs.contains i
def mNm (m : Mc) (ow : Option (List Nat)) (i : Nat) (x : Str) : Bool := decide (m.N[i]? = some x) && locB m.sc x && m.st x && owB ow i
def mNms (m : Mc) (ow : Option (List Nat)) : List Nat → List Expr → Bool
  | [], [] => true
  | i :: is, .Name x _ :: es => mNm m ow i x && mNms m ow is es
  | _, _ => false
def mT (m : Mc) (ow : Option (List Nat)) : T → Expr → Bool
  | .nm i, .Name x _ => mNm m ow i x
  | .tup is, .Tuple es _ _ => mNms m ow is es
  | _, _ => false
def Mc.blk (m : Mc) (scope : Scope) : Mc := { m with sc := relS scope m.sc, st := fun x => (scope.names.lookup x == some .cell) || ((relS scope m.sc).names.lookup x == some .local) }
def tupT : Expr → Bool
  | .Tuple .. => true
  | _ => false
theorem tupT_ok {e : Expr} (h : tupT e = true) : ∃ elts kk p, e = .Tuple elts kk p := by
  cases e <;> first | exact ⟨_, _, _, rfl⟩ | cases h
def mBlt (m : Mc) (b : Bi) (x : Str) : Bool := decide (b.name = x) && match b.kind with
  | .im id => decide (m.imp.lookup x = some id)
  | _ => m.blt.contains x
mutual
def mL (m : Mc) (k : Option BoolOp) : E → List Expr → Bool
  | .con d, xs => match xs with
    | [.Constant c _ _] => conB c d
    | _ => false
  | .var i, xs => match xs with
    | [.Name x _] => decide (m.N[i]? = some x) && visB m.sc x && okName x
    | _ => false
  | .glb j, xs => match xs with
    | [.Name x _] => decide (m.gls.lookup x = some j) && glB m.sc x && okName x
    | _ => false
  | .tyn n, xs => match xs with
    | [.Name x _] => tynB n x && m.blt.contains x && glB m.sc x && okName x
    | _ => false
  | .tup as, xs => match xs with
    | [.Tuple es _ _] => mEs m as es && es.all notStar
    | _ => false
  | .lst _ as, xs => match xs with
    | [.List es _] => mEs m as es && es.all notStar
    | _ => false
  | .bin _ o a b, xs => match xs with
    | [.BinOp x o' y _] => decide (o = o') && (binG o).isSome && mL m none a [x] && mL m none b [y]
    | _ => false
  | .neg a, xs => match xs with
    | [.UnaryOp .USub x _] => mL m none a [x]
    | _ => false
  | .cmp o a b, xs => match xs with
    | [.Compare x [o'] [y] _] => decide (o = o') && mL m none a [x] && mL m none b [y] && !behindInMarks o y
    | _ => false
  | .cmp2 o o2 a b c, xs => match xs with
    | [.Compare x [p, p'] [y, z] _] => decide (o = p) && decide (o2 = p') && mL m none a [x] && mL m none b [y] && mL m none c [z] && !lastMarks [o, o2] [y, z]
    | _ => false
  | .and a b, xs => match xs with
    | [.BoolOp .And (x :: y :: r) _] => mL m none a [x] && mL m (some .And) b (y :: r)
    | x :: y :: r => (match k with | some .And => true | _ => false) && mL m none a [x] && mL m (some .And) b (y :: r)
    | _ => false
  | .or a b, xs => match xs with
    | [.BoolOp .Or (x :: y :: r) _] => mL m none a [x] && mL m (some .Or) b (y :: r)
    | x :: y :: r => (match k with | some .Or => true | _ => false) && mL m none a [x] && mL m (some .Or) b (y :: r)
    | _ => false
  | .not a, xs => match xs with
    | [.UnaryOp .Not x _] => mL m none a [x]
    | _ => false
  | .ite t a b, xs => match xs with
    | [.IfExp c x y _] => mL m none t [c] && mL m none a [x] && mL m none b [y]
    | _ => false
  | .ix a b, xs => match xs with
    | [.Subscript x y _] => mL m none a [x] && mL m none b [y] && notSlice y
    | _ => false
  | .call f as, xs => match xs with
    | [.Call (.Name x _) es [] _] => decide (m.fns.lookup x = some (f, es.length)) && glB m.sc x && okName x && mEs m as es && es.all notStar && !es.isEmpty
    | _ => false
  | .blt _ b as, xs => match xs with
    | [.Call (.Name x _) es [] _] => mBlt m b x && glB m.sc x && okName x && mEs m as es && es.all notStar && !es.isEmpty
    | _ => false
  | .met mt o as, xs => match xs with
    | [.Call (.Attribute y name ap) es [] cp] => decide (mt.name = name) && mL m none o [y] && mEs m as es && es.all notStar && !es.isEmpty && notSuper y && decide (es.length < 30) && (ap.endLine == cp.line)
    | _ => false
  | .comp _ it own t e, xs => match xs with
    | [.ListComp x [⟨tgt, iter, [], a⟩] scope _] => decide (a = 0) && mI m (tupT tgt) it iter && blkC m.N m.sc scope own && mT (m.blk scope) (some (own.map (·.2))) t tgt && notSet iter && mL (m.blk scope) none e [x]
    | _ => false
  | .compIf _ it own t c e, xs => match xs with
    | [.ListComp x [⟨tgt, iter, [c'], a⟩] scope _] => decide (a = 0) && mI m (tupT tgt) it iter && blkC m.N m.sc scope own && mT (m.blk scope) (some (own.map (·.2))) t tgt && notSet iter && mL (m.blk scope) none c [c'] && mL (m.blk scope) none e [x]
    | _ => false
def mEs (m : Mc) : Es → List Expr → Bool
  | .nil, xs => xs.isEmpty
  | .cons e es, xs => match xs with
    | x :: r => mL m none e [x] && mEs m es r
    | [] => false
def mI (m : Mc) (tp : Bool) : I → Expr → Bool
  | .val e, x => mL m none e [x]
  | .enu as, x => match x with
    | .Call (.Name n _) es [] _ => tp && decide (n = ("enumerate" : Str)) && m.blt.contains n && glB m.sc n && mEs m as es && es.all notStar && decide (es.length = 1)
    | _ => false
  | .rng as, x => match x with
    | .Call (.Name n _) es [] _ => decide (n = ("range" : Str)) && m.blt.contains n && glB m.sc n && mEs m as es && es.all notStar && (decide (es.length = 1) || decide (es.length = 2))
    | _ => false
end
/-- what stands behind the names where one stands -/
structure Cok (X : Cx) (m : Mc) (p : Pr) : Prop where
  N : X.N = m.N
  sc : X.env.scope = m.sc
  nd : m.N.Nodup
  calm : X.calm = true
  hu : X.A.units + 64 < cLine
  st : ∀ x, m.st x = true → X.fn x = true ∨ X.env.scope.names.lookup x = some .local
  fns : ∀ x i n, m.fns.lookup x = some (i, n) → ∃ (k : Nat) (f : Addr) (fd : FuncData) (ps : List Str), FnOk X.prog X.w X.K X.mg X.base (L2.CX X.prog X.w) k f fd ps (spI X.K X.mg n (p.C i)) ∧ Room k X.A ∧ X.mg x = some (.ref f) ∧ PySem.W.keepIn X.K (.ref f) = true ∧ Binds X.K fd ps []
  gls : ∀ x j, m.gls.lookup x = some j → ∃ (v : V) (u : Value), X.mg x = some u ∧ RelV v u ∧ ∀ as H, Rp X.K as H v (p.G j)
  blt : ∀ x, m.blt.contains x = true → X.mg x = none
  imp : ∀ x id, m.imp.lookup x = some id → X.mg x = some (.builtin id)
theorem Cok.blk {X : Cx} {m : Mc} {p : Pr} (c : Cok X m p) {scope : Scope} (s : Shared) (H : Hp) (C : Addr) (cl : List (Str × Addr)) (fp : List Addr) : Cok (X.blk s H scope (compEnvC scope cl C X.env) fp) (m.blk scope) p := by
  have hs : (compEnvC scope cl C X.env).scope = relS scope m.sc := by rw [← c.sc]; rfl
  refine ⟨c.N, hs, c.nd, c.calm, c.hu, fun x h => ?_, c.fns, c.gls, c.blt, c.imp⟩
  have h' : ((scope.names.lookup x == some .cell) || ((relS scope m.sc).names.lookup x == some .local)) = true := h
  rw [Bool.or_eq_true] at h'
  rcases h' with h' | h'
  · exact .inl h'
  · refine .inr ?_
    show (compEnvC scope cl C X.env).scope.names.lookup x = some .local
    rw [hs]
    exact eq_of_beq h'
theorem evs_len {p : Pr} : ∀ (as : Es) {env : Env} {st st' : Store} {ds : List D}, evs p as env st = .ok ds st' → ds.length = as.len
  | .nil, _, _, _, _, h => by unfold evs aNil at h; cases h; rfl
  | .cons e es, env, st, st', ds, h => by
    unfold evs aCons at h
    cases e1 : (ev p e).v env st with
    | ok x st1 =>
      rw [e1] at h
      simp only [Out.bind] at h
      cases e2 : evs p es env st1 with
      | ok xs st2 =>
        rw [e2] at h
        cases h
        rw [List.length_cons, evs_len es e2]
        rfl
      | _ => rw [e2] at h; cases h
    | _ => rw [e1] at h; cases h
theorem mEs_len {m : Mc} : ∀ (as : Es) {xs : List Expr}, mEs m as xs = true → xs.length = as.len
  | .nil, xs, h => by unfold mEs at h; cases xs with | nil => rfl | cons _ _ => cases h
  | .cons e es, xs, h => by
    cases xs with
    | nil => unfold mEs at h; cases h
    | cons x r =>
      unfold mEs at h
      rw [Bool.and_eq_true] at h
      rw [List.length_cons, mEs_len es h.2]
      rfl
end
end L2.PyD
/-! PyD, part 10: an expression that has such a form does what the form does. -/
namespace L2.PyD
open PySem PySem.Spec PyProof.Rows
noncomputable section

structure Good (X : Cx) (W : WX) (x : Expr) (t : Tri) : Prop where
  pe : PE X x (RE X.K X.mg W t.v)
  pb : PE X x (RE X.K X.mg W (dOf t.b))
  pt : PT X x (RT X.K X.mg W t.t)
structure GoodB (X : Cx) (W : WX) (op : BoolOp) (xs : List Expr) (t : Tri) : Prop where
  pb : ∀ pos, PE X (.BoolOp op xs pos) (RE X.K X.mg W (dOf t.b))
  pw : ∀ pos, PW X (.BoolOp op xs pos) (RT X.K X.mg W t.t)
/-- a list of parts of an and, an or; or one expression alone -/
def GoodL (X : Cx) (W : WX) (k : Option BoolOp) (xs : List Expr) (t : Tri) : Prop := match k with
  | none => ∃ x, xs = [x] ∧ Good X W x t
  | some op => GoodB X W op xs t
section
variable {X : Cx} {W : WX}
theorem goodV {x : Expr} {f : Den} (h : PE X x (RE X.K X.mg W f)) (c : plainT x = true) : Good X W x (triV f) := ⟨h, pe_bVal h, pt_val' h (plainT_of c)⟩
theorem oneB {x : Expr} {t : Tri} (g : Good X W x t) : ∀ op : BoolOp, GoodB X W op [x] t
  | .And => ⟨fun _ => pe_one g.pb, fun _ => pw_and1' g.pt⟩
  | .Or => ⟨fun _ => pe_one g.pb, fun _ => pw_or1' g.pt⟩
theorem goodL1 {x : Expr} {t : Tri} (g : Good X W x t) : ∀ k : Option BoolOp, GoodL X W k [x] t
  | none => ⟨x, rfl, g⟩
  | some op => oneB g op
theorem GoodL.one {x : Expr} {t : Tri} (g : GoodL X W none [x] t) : Good X W x t := by
  obtain ⟨y, e, g⟩ := g
  cases e
  exact g
theorem vis_of {sc : Scope} {x : Str} (h : visB sc x = true) : Vis sc x := by
  unfold visB at h
  split at h
  · exact .inl (by assumption)
  · exact .inr (.inl (by assumption))
  · exact .inr (.inr (by assumption))
  · cases h
theorem loc_of {sc : Scope} {x : Str} (h : locB sc x = true) : Loc sc x := by
  unfold locB at h
  split at h
  · exact .inl (by assumption)
  · exact .inr (by assumption)
  · cases h
theorem gl_of {m : Mc} {p : Pr} {x : Str} (c : Cok X m p) (h : glB m.sc x = true) : Gl X x := by
  unfold glB at h
  split at h
  · rename_i e
    show X.env.scope.names.lookup x = some .globalImplicit
    rw [c.sc]
    exact e
  · cases h
theorem okName_of {x : Str} (h : okName x = true) : (x == ("__debug__" : Str)) = false ∧ (x == ("__classdict__" : Str)) = false ∧ x ≠ "__name__" := by
  unfold okName at h
  simp only [Bool.and_eq_true, Bool.not_eq_true'] at h
  exact ⟨h.1.1, h.1.2, fun e => by rw [e] at h; exact absurd h.2 (by decide)⟩
theorem binG_some {o : Operator} (h : (binG o).isSome = true) : OpR X (binaryOp o) (RB X.K (binG' o)) := by
  unfold binG'
  cases e : binG o with
  | none => rw [e] at h; cases h
  | some g => exact binG_ok e
theorem cmpG_some {m : Mc} {p : Pr} (c : Cok X m p) (o : CmpOp) : OpR X (compareOp o) (RCm X.K (cmpG' o)) := by
  unfold cmpG'
  cases e : cmpG o with
  | none => cases o <;> cases e
  | some g => exact cmpG_ok c.hu e
/-! ### targets -/
theorem ow_of {ow : Option (List Nat)} {i : Nat} (h : owB ow i = true) : Ow ow i := by
  cases ow with
  | none => trivial
  | some vs => exact List.contains_iff_mem.mp h
theorem mNm_ok {m : Mc} {p : Pr} {ow : Option (List Nat)} {i : Nat} {x : Str} {pos : Pos} (c : Cok X m p) (h : mNm m ow i x = true) : PG X (.Name x pos) (RG X.K ow (tgName i)) := by
  unfold mNm at h
  simp only [Bool.and_eq_true] at h
  obtain ⟨⟨⟨h1, h2⟩, h3⟩, h4⟩ := h
  exact pg_name' (ow_of h4) (by rw [c.N]; exact c.nd) (by rw [c.N]; exact of_decide_eq_true h1) (by rw [c.sc]; exact loc_of h2) (c.st x h3)
theorem mNms_ok {m : Mc} {p : Pr} {ow : Option (List Nat)} (c : Cok X m p) : ∀ {is : List Nat} {es : List Expr}, mNms m ow is es = true → PGs X es (RGs X.K ow (tgNames is)) ∧ (assignEach es X.env).length = is.length ∧ (assignEach es X.env).findIdx? (·.1) = none
  | [], [], _ => ⟨pgs_nil', rfl, rfl⟩
  | i :: is, e :: es, h => by
    cases e with
    | Name x pos =>
      unfold mNms at h
      rw [Bool.and_eq_true] at h
      obtain ⟨h1, h2, h3⟩ := mNms_ok c h.2
      refine ⟨pgs_cons' (mNm_ok c h.1) h1 rfl, ?_, ?_⟩
      · show (assignEach es X.env).length + 1 = is.length + 1
        rw [h2]
      · show List.findIdx? (·.1) ((false, assign (.Name x pos) X.env) :: assignEach es X.env) = none
        rw [List.findIdx?_cons]
        simp only [Bool.false_eq_true, if_false, h3, Option.map_none]
    | _ => unfold mNms at h; cases h
  | [], e :: es, h => by unfold mNms at h; cases h
  | i :: is, [], h => by unfold mNms at h; cases h
theorem mT_ok {m : Mc} {p : Pr} {ow : Option (List Nat)} (c : Cok X m p) : ∀ {t : T} {e : Expr}, mT m ow t e = true → PG X e (RG X.K ow (tg t))
  | .nm i, e, h => by
    cases e with
    | Name x pos => exact mNm_ok c h
    | _ => unfold mT at h; cases h
  | .tup is, e, h => by
    cases e with
    | Tuple es k pos =>
      obtain ⟨h1, h2, h3⟩ := mNms_ok c (show mNms m ow is es = true from h)
      exact pg_tup' c.calm h1 h2 h3
    | _ => unfold mT at h; cases h
/-! ### calls of built-ins -/
theorem blt_ok {m : Mc} {p : Pr} {b : Bi} {x : Str} {q pos : Pos} {e : Expr} {es : List Expr} {mu : Bool} {fa : DenA} (c : Cok X m p) (h : mBlt m b x = true) (hg : glB m.sc x = true) (hn : okName x = true) (ha : PA X (e :: es) (RA X.K X.mg W fa)) (hs : (e :: es).all notStar = true) :
    PE X (.Call (.Name x q) (e :: es) [] pos) (RE X.K X.mg W (dCl mu b.g fa)) := by
  obtain ⟨n1, n2, n3⟩ := okName_of hn
  unfold mBlt at h
  rw [Bool.and_eq_true] at h
  have hx := of_decide_eq_true h.1
  rw [List.all_cons, Bool.and_eq_true] at hs
  have he := star1 (env := X.env) (es := es) hs.1
  have hpl := stars (env := X.env) (pos := pos) hs.2
  have hc := Bi.ok (X := X) c.calm b
  refine PE.re (t := tCB (RC X.K b.g) (RA X.K X.mg W fa)) ?_ fun _ _ _ z => rc_call z
  obtain ⟨_, h2⟩ := h
  cases ek : b.kind with
  | fn id =>
    rw [ek] at h2 hc
    have hv := Bi.boot b (fun id e => by rw [ek] at e; cases e)
    rw [ek, hx] at hv
    exact pe_callB hc (gl_of c hg) (c.blt x h2) hv ha n3 n1 he hpl
  | ty id =>
    rw [ek] at h2 hc
    have hv := Bi.boot b (fun id e => by rw [ek] at e; cases e)
    rw [ek, hx] at hv
    exact pe_callTy hc (gl_of c hg) (c.blt x h2) hv ha n3 n1 he hpl
  | im id =>
    rw [ek] at h2 hc
    exact pe_callBfun hc (gl_of c hg) (c.imp x id (of_decide_eq_true h2)) ha n1 he hpl
theorem con_ok {k : Const} {d : D} {j : Nat} {pos : Pos} (h : conB k d = true) : PE X (.Constant k j pos) (RE X.K X.mg W (dCon d)) := by
  unfold conB at h
  split at h
  · rw [of_decide_eq_true h]; exact pe_int'
  · rw [eq_of_beq h]; exact pe_bl'
  · exact pe_non'
  · rw [of_decide_eq_true h]; exact pe_str'
  · cases h
end

mutual
theorem mL_ok {p : Pr} : ∀ (e : E) {X : Cx} {m : Mc} {W : WX} {k : Option BoolOp} {xs : List Expr}, mL m k e xs = true → Cok X m p → Takes X W → GoodL X W k xs (ev p e)
  | .con d, X, m, W, k, xs, h, c, tk => by
    unfold mL at h
    split at h
    · exact goodL1 (goodV (con_ok h) rfl) k
    · cases h
  | .var i, X, m, W, k, xs, h, c, tk => by
    unfold mL at h
    split at h
    · simp only [Bool.and_eq_true] at h
      obtain ⟨⟨h1, h2⟩, h3⟩ := h
      obtain ⟨n1, n2, n3⟩ := okName_of h3
      exact goodL1 (goodV (pe_var' (by rw [c.N]; exact of_decide_eq_true h1) (by rw [c.sc]; exact vis_of h2) n1 n2) rfl) k
    · cases h
  | .glb j, X, m, W, k, xs, h, c, tk => by
    unfold mL at h
    split at h
    · simp only [Bool.and_eq_true] at h
      obtain ⟨⟨h1, h2⟩, h3⟩ := h
      obtain ⟨n1, n2, n3⟩ := okName_of h3
      obtain ⟨v, u, g1, g2, g3⟩ := c.gls _ _ (of_decide_eq_true h1)
      exact goodL1 (goodV (pe_glob' (gl_of c h2) g1 g2 g3 n1) rfl) k
    · cases h
  | .tyn n, X, m, W, k, xs, h, c, tk => by
    unfold mL at h
    split at h
    · simp only [Bool.and_eq_true] at h
      obtain ⟨⟨⟨h1, h2⟩, h3⟩, h4⟩ := h
      obtain ⟨n1, n2, n3⟩ := okName_of h4
      exact goodL1 (goodV (pe_bltn' (v := .ty n) (gl_of c h3) (c.blt _ h2) (tyn_ok h1) rfl (fun _ _ => .ty n) n3 n1) rfl) k
    · cases h
  | .tup as, X, m, W, k, xs, h, c, tk => by
    unfold mL at h
    split at h
    · rw [Bool.and_eq_true] at h
      exact goodL1 (goodV (pe_tup' (mEs_ok as h.1 h.2 c tk)) rfl) k
    · cases h
  | .lst mu as, X, m, W, k, xs, h, c, tk => by
    unfold mL at h
    split at h
    · rw [Bool.and_eq_true] at h
      exact goodL1 (goodV (pe_lst' (mEs_ok as h.1 h.2 c tk)) rfl) k
    · cases h
  | .bin mu o a b, X, m, W, k, xs, h, c, tk => by
    unfold mL at h
    split at h
    · simp only [Bool.and_eq_true] at h
      obtain ⟨⟨⟨h1, h2⟩, h3⟩, h4⟩ := h
      rw [← of_decide_eq_true h1]
      exact goodL1 (goodV (pe_bin' (binG_some h2) (mL_ok a h3 c tk).one.pe (mL_ok b h4 c tk).one.pe) rfl) k
    · cases h
  | .neg a, X, m, W, k, xs, h, c, tk => by
    unfold mL at h
    split at h
    · exact goodL1 (goodV (pe_un' op_neg' (mL_ok a h c tk).one.pe) rfl) k
    · cases h
  | .cmp o a b, X, m, W, k, xs, h, c, tk => by
    unfold mL at h
    split at h
    · simp only [Bool.and_eq_true, Bool.not_eq_true'] at h
      obtain ⟨⟨⟨h1, h2⟩, h3⟩, h4⟩ := h
      rw [← of_decide_eq_true h1]
      have g1 := (mL_ok a h2 c tk).one.pe
      have g2 := (mL_ok b h3 c tk).one.pe
      exact goodL1 ⟨pe_cmp' (cmpG_some c o) g1 g2 h4, pe_cmp' (cmpG_some c o) g1 g2 h4, pt_cmp' (cmpG_some c o) g1 g2 h4⟩ k
    · cases h
  | .cmp2 o o2 a b d, X, m, W, k, xs, h, c, tk => by
    unfold mL at h
    split at h
    · simp only [Bool.and_eq_true, Bool.not_eq_true'] at h
      obtain ⟨⟨⟨⟨⟨h1, h1'⟩, h2⟩, h3⟩, h3'⟩, h4⟩ := h
      rw [← of_decide_eq_true h1, ← of_decide_eq_true h1']
      have g1 := (mL_ok a h2 c tk).one.pe
      have g2 := (mL_ok b h3 c tk).one.pe
      have g3 := (mL_ok d h3' c tk).one.pe
      exact goodL1 ⟨pe_chain' (cmpG_some c o) (cmpG_some c o2) g1 g2 g3 h4, pe_chain' (cmpG_some c o) (cmpG_some c o2) g1 g2 g3 h4, pt_chain' (cmpG_some c o) (cmpG_some c o2) g1 g2 g3 h4⟩ k
    · cases h
  | .and a b, X, m, W, k, xs, h, c, tk => by
    unfold mL at h
    split at h
    · rw [Bool.and_eq_true] at h
      have g1 := (mL_ok a h.1 c tk).one
      have g2 : GoodB X W .And _ (ev p b) := mL_ok b h.2 c tk
      exact goodL1 ⟨pe_and' g1.pb (g2.pb _), pe_and' g1.pb (g2.pb _), (pw_and' g1.pt (g2.pw _)).pt⟩ k
    · simp only [Bool.and_eq_true] at h
      obtain ⟨⟨h0, h1⟩, h2⟩ := h
      split at h0
      · have g1 := (mL_ok a h1 c tk).one
        have g2 : GoodB X W .And _ (ev p b) := mL_ok b h2 c tk
        exact ⟨fun pos => pe_and' g1.pb (g2.pb pos), fun pos => pw_and' g1.pt (g2.pw pos)⟩
      · cases h0
    · cases h
  | .or a b, X, m, W, k, xs, h, c, tk => by
    unfold mL at h
    split at h
    · rw [Bool.and_eq_true] at h
      have g1 := (mL_ok a h.1 c tk).one
      have g2 : GoodB X W .Or _ (ev p b) := mL_ok b h.2 c tk
      exact goodL1 ⟨pe_or' g1.pb (g2.pb _), pe_or' g1.pb (g2.pb _), (pw_or' g1.pt (g2.pw _)).pt⟩ k
    · simp only [Bool.and_eq_true] at h
      obtain ⟨⟨h0, h1⟩, h2⟩ := h
      split at h0
      · have g1 := (mL_ok a h1 c tk).one
        have g2 : GoodB X W .Or _ (ev p b) := mL_ok b h2 c tk
        exact ⟨fun pos => pe_or' g1.pb (g2.pb pos), fun pos => pw_or' g1.pt (g2.pw pos)⟩
      · cases h0
    · cases h
  | .not a, X, m, W, k, xs, h, c, tk => by
    unfold mL at h
    split at h
    · have g := (mL_ok a h c tk).one
      exact goodL1 ⟨pe_not' g.pb, pe_not' g.pb, pt_not' g.pt⟩ k
    · cases h
  | .ite t a b, X, m, W, k, xs, h, c, tk => by
    unfold mL at h
    split at h
    · simp only [Bool.and_eq_true] at h
      obtain ⟨⟨h1, h2⟩, h3⟩ := h
      have g := pe_ite' (pos := by assumption) (mL_ok t h1 c tk).one.pt (mL_ok a h2 c tk).one.pe (mL_ok b h3 c tk).one.pe
      refine goodL1 ⟨g, pe_bVal g, ⟨fun pins s σ H Q I q => ?_⟩⟩ k
      obtain ⟨_, _, _, _, _, q⟩ := q
      exact False.elim q
    · cases h
  | .ix a b, X, m, W, k, xs, h, c, tk => by
    unfold mL at h
    split at h
    · simp only [Bool.and_eq_true] at h
      obtain ⟨⟨h1, h2⟩, h3⟩ := h
      exact goodL1 (goodV (pe_ix' ix_ok (mL_ok a h1 c tk).one.pe (mL_ok b h2 c tk).one.pe (plainIx_of h3)) rfl) k
    · cases h
  | .call f as, X, m, W, k, xs, h, c, tk => by
    unfold mL at h
    split at h
    · rename_i x q es pos
      simp only [Bool.and_eq_true, Bool.not_eq_true'] at h
      obtain ⟨⟨⟨⟨⟨h1, h2⟩, h3⟩, h4⟩, h5⟩, h6⟩ := h
      cases es with
      | nil => cases h6
      | cons e es =>
        obtain ⟨n1, n2, n3⟩ := okName_of h3
        obtain ⟨j, fa, fd, ps, F, hr, hm, hk, hb⟩ := c.fns _ _ _ (of_decide_eq_true h1)
        have ha := mEs_ok as h4 h5 c tk
        have hs := h5
        rw [List.all_cons, Bool.and_eq_true] at hs
        refine goodL1 (goodV (pe_call' F hr (gl_of c h2) hm hk hb tk ha (fun env st ds st' z => ?_) n1 (star1 hs.1) (stars hs.2)) rfl) k
        rw [evs_len as z, mEs_len as h4]
    · cases h
  | .blt mu b as, X, m, W, k, xs, h, c, tk => by
    unfold mL at h
    split at h
    · rename_i x q es pos
      simp only [Bool.and_eq_true, Bool.not_eq_true'] at h
      obtain ⟨⟨⟨⟨⟨h1, h2⟩, h3⟩, h4⟩, h5⟩, h6⟩ := h
      cases es with
      | nil => cases h6
      | cons e es => exact goodL1 (goodV (blt_ok c h1 h2 h3 (mEs_ok as h4 h5 c tk) h5) rfl) k
    · cases h
  | .met mt o as, X, m, W, k, xs, h, c, tk => by
    unfold mL at h
    split at h
    · rename_i y name ap es cp
      simp only [Bool.and_eq_true, Bool.not_eq_true'] at h
      obtain ⟨⟨⟨⟨⟨⟨⟨h1, h2⟩, h3⟩, h4⟩, h5⟩, h6⟩, h7⟩, h8⟩ := h
      cases es with
      | nil => cases h5
      | cons e es =>
        obtain ⟨id, f1, f2, f3, f4⟩ := (Mt.ok (X := X) mt).ex
        rw [of_decide_eq_true h1] at f2
        have hs := h4
        rw [List.all_cons, Bool.and_eq_true] at hs
        refine goodL1 (goodV (pe_met' f1 f2 f3 f4 (mL_ok o h2 c tk).one.pe (mEs_ok as h3 h4 c tk) (base_of h6) ?_ h8 (star1 hs.1) (stars hs.2)) rfl) k
        rw [starsA h4]
        have hl := of_decide_eq_true h7
        simp only [List.isEmpty_nil, if_true, List.length_nil, Nat.add_zero, Bool.true_and]
        rw [decide_eq_true hl]
        rfl
    · cases h
  | .comp mu it own t e, X, m, W, k, xs, h, c, tk => by
    unfold mL at h
    split at h
    · rename_i x tgt iter a scope pos
      simp only [Bool.and_eq_true] at h
      obtain ⟨⟨⟨⟨⟨h1, h2⟩, h3⟩, h4⟩, h5⟩, h6⟩ := h
      rw [of_decide_eq_true h1]
      refine goodL1 (goodV (pe_comp' c.calm (by rw [c.N]; exact c.nd) (mI_ok it h2 c tk) (by rw [c.N, c.sc]; exact blkOk_by h3)
        (fun s H C cl fp => mT_ok (c.blk s H C cl fp) h4) (fun s H C cl fp => ?_) (fun s H C cl fp => (mL_ok e h6 (c.blk s H C cl fp) takes0).one.pe) (fold_of h5)) rfl) k
      exact ⟨fun pins s σ H Q I q => (pts_nil).run pins s σ H Q I (by
        obtain ⟨as, env, st, E, S, q⟩ := q
        exact q as H (.refl _ _) S)⟩
    · cases h
  | .compIf mu it own t d e, X, m, W, k, xs, h, c, tk => by
    unfold mL at h
    split at h
    · rename_i x tgt iter c' a scope pos
      simp only [Bool.and_eq_true] at h
      obtain ⟨⟨⟨⟨⟨⟨h1, h2⟩, h3⟩, h4⟩, h5⟩, h6⟩, h7⟩ := h
      rw [of_decide_eq_true h1]
      exact goodL1 (goodV (pe_comp' c.calm (by rw [c.N]; exact c.nd) (mI_ok it h2 c tk) (by rw [c.N, c.sc]; exact blkOk_by h3)
        (fun s H C cl fp => mT_ok (c.blk s H C cl fp) h4) (fun s H C cl fp => pts_one (mL_ok d h6 (c.blk s H C cl fp) takes0).one.pt) (fun s H C cl fp => (mL_ok e h7 (c.blk s H C cl fp) takes0).one.pe) (fold_of h5)) rfl) k
    · cases h
theorem mEs_ok {p : Pr} : ∀ (as : Es) {X : Cx} {m : Mc} {W : WX} {xs : List Expr}, mEs m as xs = true → xs.all notStar = true → Cok X m p → Takes X W → PA X xs (RA X.K X.mg W (evs p as))
  | .nil, X, m, W, xs, h, hs, c, tk => by
    cases xs with
    | nil => exact pa_nil'
    | cons _ _ => unfold mEs at h; cases h
  | .cons e es, X, m, W, xs, h, hs, c, tk => by
    cases xs with
    | nil => unfold mEs at h; cases h
    | cons x r =>
      unfold mEs at h
      rw [Bool.and_eq_true] at h
      rw [List.all_cons, Bool.and_eq_true] at hs
      exact pa_cons' (mL_ok e h.1 c tk).one.pe (mEs_ok es h.2 hs.2 c tk) (star1 hs.1)
theorem mI_ok {p : Pr} : ∀ (it : I) {X : Cx} {m : Mc} {W : WX} {x : Expr} {tgt : Expr}, mI m (tupT tgt) it x = true → Cok X m p → Takes X W → PI X tgt x (RI X.K X.mg W (evI p it))
  | .val e, X, m, W, x, tgt, h, c, tk => pi_val' (mL_ok e (by unfold mI at h; exact h) c tk).one.pe
  | .enu as, X, m, W, x, tgt, h, c, tk => by
    unfold mI at h
    split at h
    · rename_i n q es pos
      simp only [Bool.and_eq_true] at h
      obtain ⟨⟨⟨⟨⟨⟨h0, h1⟩, h2⟩, h3⟩, h4⟩, h5⟩, h6⟩ := h
      have hn := of_decide_eq_true h1
      subst hn
      obtain ⟨elts, kk, tp, et⟩ := tupT_ok h0
      subst et
      have ha := mEs_ok as h4 h5 c tk
      match es, h5, h6, ha with
      | [a], h5, _, ha =>
        rw [List.all_cons, Bool.and_eq_true] at h5
        exact pi_enum' (gl_of c h3) (c.blt _ h2) ha (star1 h5.1)
      | [], _, h6, _ => simp at h6
      | _ :: _ :: _, _, h6, _ => simp at h6
    · cases h
  | .rng as, X, m, W, x, tgt, h, c, tk => by
    unfold mI at h
    split at h
    · rename_i n q es pos
      simp only [Bool.and_eq_true] at h
      obtain ⟨⟨⟨⟨⟨h1, h2⟩, h3⟩, h4⟩, h5⟩, h6⟩ := h
      have hn := of_decide_eq_true h1
      subst hn
      have ha := mEs_ok as h4 h5 c tk
      have hl := mEs_len as h4
      match es, h5, h6, ha, hl with
      | [a], h5, _, ha, hl =>
        rw [List.all_cons, Bool.and_eq_true] at h5
        exact pi_range1' (gl_of c h3) (c.blt _ h2) ha (star1 h5.1) fun ds env st st1 z => by rw [evs_len as z, ← hl]; rfl
      | [a, b], h5, _, ha, hl =>
        rw [List.all_cons, List.all_cons, Bool.and_eq_true, Bool.and_eq_true] at h5
        exact pi_range2' (gl_of c h3) (c.blt _ h2) ha (by rw [star1 h5.1, star1 h5.2.1]; rfl) (star1 h5.2.1) fun ds env st st1 z => by rw [evs_len as z, ← hl]; rfl
      | [], _, h6, _, _ => simp at h6
      | _ :: _ :: _ :: _, _, h6, _, _ => simp at h6
    · cases h
end
end
end L2.PyD
/-! PyD, part 11: forms of statements; a program as a table of them. -/
namespace L2.PyD
open PySem PySem.Spec PyProof.Rows
noncomputable section

inductive S where
  | skip
  | seq (a b : S)
  | asg (t : T) (e : E)
  | asgC (i : Nat) (e : E)
  | par (i j : Nat) (as : Es)
  | par3 (i j l : Nat) (as : Es)
  | setix (o i e : E)
  | aug (i : Nat) (sub : Bool) (e : E)
  | expr (e : E)
  | ifs (t : E) (a b : S)
  | whl (t : E) (b : S)
  | fors (t : T) (it : I) (b : S)
  | ret (e : E)
  | retN
  | brk
  | ct
  | pass
  | dead
def sPar3 (i j l : Nat) (f : DenA) : DenS := fun env st => (f env st).then env fun ds st1 => match ds with
  | [u, v, w] => .nx (((env.set i (some u)).set j (some v)).set l (some w)) st1
  | _ => .bad
def sBad : DenS := fun _ _ => .bad
noncomputable def ex (p : Pr) : S → DenS
  | .skip => sSkip
  | .seq a b => sSeq (ex p a) (ex p b)
  | .asg t e => sAsg (ev p e).v (tg t)
  | .asgC i e => sAsg (ev p e).v (tgName i)
  | .par i j as => sPar i j (evs p as)
  | .par3 i j l as => sPar3 i j l (evs p as)
  | .setix o i e => sSet gSetL (ev p o).v (ev p i).v (ev p e).v
  | .aug i sub e => sAug i (gI yes fun a b => if sub then a - b else a + b) (ev p e).v
  | .expr e => sExpr (ev p e).v
  | .ifs t a b => sIf (ev p t).t (ex p a) (ex p b)
  | .whl t b => sWhile (ev p t).t (ex p b)
  | .fors t it b => sFor (evI p it) (tg t) (ex p b)
  | .ret e => sRet (ev p e).v
  | .retN => sRetN
  | .brk => sBrk
  | .ct => sCt
  | .pass => sSkip
  | .dead => sBad

/-! ### the machine's marks at stores, by the text -/
def isComp : Expr → Bool
  | .ListComp .. => true
  | .SetComp .. => true
  | .DictComp .. => true
  | _ => false
def compNames : Expr → List (Str × NameKind)
  | .ListComp _ _ s _ => s.names
  | .SetComp _ _ s _ => s.names
  | .DictComp _ _ _ s _ => s.names
  | _ => []
def swB (sc : Scope) (tgt : Expr) (e : Expr) : Bool := isComp e && match tgt with
  | .Name t pos => (sc.names.lookup t == some .local) && (pos.line == e.pos.line) && !((compNames e).any fun (n, k) => n == t && (k == .local || k == .cell))
  | _ => false
theorem block_of {env : PySem.Env} (hk : env.scope.kind = .function) : env.blockKind = .function := by
  unfold Env.blockKind
  rw [hk]
  rfl
theorem swB_ok {env : PySem.Env} {tgt e : Expr} {line : Nat} (hk : env.scope.kind = .function) : swapsWithSole [tgt] e line env = pure (swB env.scope tgt e) := by
  show swapsWith e (some tgt) line env = _
  unfold swapsWith swB
  have hb := block_of hk
  cases e <;> first | rfl | (cases tgt <;> first | rfl | (simp only [hb, isComp, compNames]; rfl))
theorem swN_ok {env : PySem.Env} {e : Expr} {line : Nat} (h : isComp e = false) : swapsWith e none line env = pure false := by
  cases e <;> first | rfl | cases h
def stB : Expr → Bool
  | .Starred .. => true
  | _ => false
def nmOf (sc : Scope) (line : Nat) : Expr → Option Str
  | .Name id pos => if sc.names.lookup id == some .local && pos.line == line then some id else none
  | _ => none
def line0 (ts : List Expr) : Nat := (ts.head?.map (·.pos.line)).getD 0
/-- none: not known; some none: stored in order; some ns: plain names, stored from the right -/
def swT (sc : Scope) (ts vs : List Expr) : Option (Option (List Str)) :=
  if !(ts.length == 2 || ts.length == 3) || vs.length != ts.length then some none
  else if vs.any stB then some none
  else if (ts.filterMap (nmOf sc (line0 ts))).length != ts.length || (ts.filterMap (nmOf sc (line0 ts))).eraseDups.length != (ts.filterMap (nmOf sc (line0 ts))).length then some none
  else if vs.all (foldedForSure 8) then some none
  else if vs.all (constantsAlone 8) then none
  else some (some (ts.filterMap (nmOf sc (line0 ts))))
def swG (sc : Scope) (ts vs : List Expr) : Sem (Option (List Str)) :=
  if !(ts.length == 2 || ts.length == 3) || vs.length != ts.length then pure none
  else if vs.any stB then pure none
  else if (ts.filterMap (nmOf sc (line0 ts))).length != ts.length || (ts.filterMap (nmOf sc (line0 ts))).eraseDups.length != (ts.filterMap (nmOf sc (line0 ts))).length then pure none
  else if vs.all (foldedForSure 8) then pure none
  else if vs.all (constantsAlone 8) then unsupported "assign.tuple-of-constant-expressions:order-of-the-stores" >>= fun (_ : Unit) => pure (some (ts.filterMap (nmOf sc (line0 ts))))
  else pure (some (ts.filterMap (nmOf sc (line0 ts))))
def swO (sc : Scope) (tgt : Expr) (e : Expr) : Option (Option (List Str)) := match tgt, e with
  | .Tuple ts _ _, .Tuple vs _ _ => swT sc ts vs
  | .List .., .Tuple .. => none
  | _, _ => some none
theorem swT_ok {sc : Scope} {ts vs : List Expr} {r : Option (List Str)} (h : swT sc ts vs = some r) : swG sc ts vs = pure r := by
  unfold swT at h
  unfold swG
  split at h
  · rename_i c; rw [if_pos c]; cases h; rfl
  · rename_i c; rw [if_neg c]
    split at h
    · rename_i c; rw [if_pos c]; cases h; rfl
    · rename_i c; rw [if_neg c]
      split at h
      · rename_i c; rw [if_pos c]; cases h; rfl
      · rename_i c; rw [if_neg c]
        split at h
        · rename_i c; rw [if_pos c]; cases h; rfl
        · rename_i c; rw [if_neg c]
          split at h
          · cases h
          · rename_i c; rw [if_neg c]; cases h; rfl
theorem swO_ok {env : PySem.Env} {tgt e : Expr} {r : Option (List Str)} (hk : env.scope.kind = .function) (h : swO env.scope tgt e = some r) : swappedStores [tgt] e env = pure r := by
  have hb := block_of hk
  cases tgt with
  | Tuple ts k1 p1 =>
    cases e with
    | Tuple vs k2 p2 =>
      have hne : (ScopeKind.function != ScopeKind.function) = false := by decide
      refine Eq.trans ?_ (swT_ok (show swT env.scope ts vs = some r from h))
      unfold swappedStores
      simp only [hb, hne, Bool.or_false]
      rfl
    | _ => cases h; rfl
  | List ts p1 =>
    cases e with
    | Tuple vs k2 p2 => cases h
    | _ => cases h; rfl
  | _ => cases h; rfl
def locN (m : Mc) (i : Nat) (x : Str) : Bool := decide (m.N[i]? = some x) && decide (m.sc.names.lookup x = some .local)
mutual
def mS (m : Mc) : S → Stmt → Bool
  | .asg t e, st => match st with
    | .Assign [tgt] x _ => mT m none t tgt && mL m none e [x] && !swB m.sc tgt x && decide (swO m.sc tgt x = some none)
    | _ => false
  | .asgC i e, st => match st with
    | .Assign [.Name y py] x _ => locN m i y && mL m none e [x] && swB m.sc (.Name y py) x
    | _ => false
  | .par i j as, st => match st with
    | .Assign [.Tuple [.Name x px, .Name y py] kt pt] (.Tuple [a, b] k2 p2) _ => locN m i x && locN m j y && decide (i ≠ j) && mEs m as [a, b] && [a, b].all notStar && decide (swO m.sc (.Tuple [.Name x px, .Name y py] kt pt) (.Tuple [a, b] k2 p2) = some (some [x, y]))
    | _ => false
  | .par3 i j l as, st => match st with
    | .Assign [.Tuple [.Name x px, .Name y py, .Name z pz] kt pt] (.Tuple [a, b, c] k2 p2) _ => locN m i x && locN m j y && locN m l z && decide (i ≠ j) && decide (i ≠ l) && decide (j ≠ l) && mEs m as [a, b, c] && [a, b, c].all notStar &&
      decide (swO m.sc (.Tuple [.Name x px, .Name y py, .Name z pz] kt pt) (.Tuple [a, b, c] k2 p2) = some (some [x, y, z]))
    | _ => false
  | .setix o i e, st => match st with
    | .Assign [.Subscript x y _] z _ => mL m none o [x] && mL m none i [y] && mL m none e [z] && notSlice y
    | _ => false
  | .aug i sub e, st => match st with
    | .AugAssign (.Name x _) op z _ => decide (m.N[i]? = some x) && locB m.sc x && m.st x && decide (op = if sub then .Sub else .Add) && mL m none e [z]
    | _ => false
  | .expr e, st => match st with
    | .Expr x _ => mL m none e [x] && !isComp x
    | _ => false
  | .ifs t a b, st => match st with
    | .If c x y _ => mL m none t [c] && mSs m a x && mSs m b y
    | _ => false
  | .whl t b, st => match st with
    | .While c x [] _ => mL m none t [c] && mSs m b x
    | _ => false
  | .fors t it b, st => match st with
    | .For tgt iter x [] _ => mT m none t tgt && mI m (tupT tgt) it iter && notSet iter && mSs m b x
    | _ => false
  | .ret e, st => match st with
    | .Return (some x) _ => mL m none e [x]
    | _ => false
  | .retN, st => match st with
    | .Return none _ => true
    | _ => false
  | .brk, st => match st with
    | .Break _ => true
    | _ => false
  | .ct, st => match st with
    | .Continue _ => true
    | _ => false
  | .pass, st => match st with
    | .Pass _ => true
    | _ => false
  | .dead, _ => true
  | .skip, _ => false
  | .seq _ _, _ => false
def mSs (m : Mc) : S → List Stmt → Bool
  | .skip, l => l.isEmpty
  | .seq a b, l => match l with
    | st :: r => mS m a st && mSs m b r
    | [] => false
  | _, _ => false
end
/-- a def's own level -/
structure Sok (X : Cx) (m : Mc) (p : Pr) (W : WX) : Prop where
  c : Cok X m p
  kind : X.env.scope.kind = .function
  po : PassesOwn (model X.prog X.w) X.A X.env X.xe
  tk : Takes X W
section
variable {X : Cx} {m : Mc} {p : Pr} {W : WX}
theorem comp_set {i : Nat} {y : Str} {py spos : Pos} {x : Expr} (s : Sok X m p W) (hl : locN m i y = true) (hw : swB m.sc (.Name y py) x = true) : ∀ {e : E}, mL m none e [x] = true → PS X (.Assign [.Name y py] x spos) (RS X.K X.mg W (sAsg (ev p e).v (tgName i))) := by
  intro e h
  have c := s.c
  have tk := s.tk
  have hlx := hl
  unfold locN at hlx
  rw [Bool.and_eq_true] at hlx
  have hy : X.N[i]? = some y := by rw [c.N]; exact of_decide_eq_true hlx.1
  have hyl : X.env.scope.names.lookup y = some .local := by rw [c.sc]; exact of_decide_eq_true hlx.2
  have hsw : swapsWith x (some (.Name y py)) spos.line X.env = pure true := by
    have := swB_ok (tgt := .Name y py) (e := x) (line := spos.line) s.kind
    rw [c.sc, hw] at this
    exact this
  have ic : isComp x = true := by
    unfold swB at hw
    rw [Bool.and_eq_true] at hw
    exact hw.1
  cases e with
  | comp mu it own t e =>
    unfold mL at h
    split at h
    · rename_i xe hx
      cases hx
      simp only [Bool.and_eq_true] at h
      obtain ⟨⟨⟨⟨⟨h1, h2⟩, h3⟩, h4⟩, h5⟩, h6⟩ := h
      have h1 := of_decide_eq_true h1
      subst h1
      exact ps_setcomp' c.calm (by rw [c.N]; exact c.nd) hy hyl hsw (mI_ok it h2 c tk) (by rw [c.N, c.sc]; exact blkOk_by h3)
        (fun s H C cl fp => mT_ok (c.blk s H C cl fp) h4) (fun s H C cl fp => ⟨fun pins s σ H Q I q => (pts_nil).run pins s σ H Q I (by
          obtain ⟨as, env, st, E, S, q⟩ := q
          exact q as H (.refl _ _) S)⟩) (fun s H C cl fp => (mL_ok e h6 (c.blk s H C cl fp) takes0).one.pe) (fold_of h5)
    · cases h
  | compIf mu it own t d e =>
    unfold mL at h
    split at h
    · rename_i xe hx
      cases hx
      simp only [Bool.and_eq_true] at h
      obtain ⟨⟨⟨⟨⟨⟨h1, h2⟩, h3⟩, h4⟩, h5⟩, h6⟩, h7⟩ := h
      have h1 := of_decide_eq_true h1
      subst h1
      exact ps_setcomp' c.calm (by rw [c.N]; exact c.nd) hy hyl hsw (mI_ok it h2 c tk) (by rw [c.N, c.sc]; exact blkOk_by h3)
        (fun s H C cl fp => mT_ok (c.blk s H C cl fp) h4) (fun s H C cl fp => pts_one (mL_ok d h6 (c.blk s H C cl fp) takes0).one.pt) (fun s H C cl fp => (mL_ok e h7 (c.blk s H C cl fp) takes0).one.pe) (fold_of h5)
    · cases h
  | _ =>
    exfalso
    cases x <;> first | (cases ic; done) | (unfold mL at h; simp at h; done)
theorem mT_star {ow : Option (List Nat)} {t : T} {x : Expr} (h : mT m ow t x = true) : notStar x = true := by
  cases t <;> cases x <;> first | rfl | (cases h; done)
theorem asg_one {tgt : Expr} (h : notStar tgt = true) : (assignEach [tgt] X.env).map (·.2) = [assign tgt X.env] := by
  cases tgt <;> first | rfl | cases h
theorem rs_par3 {K : PySem.W.Frag} {mg : Str → Option Value} {f : DenA} {i j l : Nat} {Z : Ends} {σ : St} {H : Hp} (h : RS K mg W (sPar3 i j l f) Z σ H) : tPar3 i j l (RA K mg W f) Z σ H := by
  obtain ⟨as, env, st, E, S, h⟩ := h
  refine ra_thenS E S h fun r st1 as1 H1 v x E1 S1 r1 h1 => ?_
  match r, r1, h1 with
  | [_, _, _], .cons ra (.cons rb (.cons rc .nil)), h1 => exact ⟨_, _, _, rfl, h1 as1 H1 _ (.refl _ _) S1 (((E1.set ra i).set rb j).set rc l)⟩
  | [], _, h1 => exact h1.elim
  | [_], _, h1 => exact h1.elim
  | [_, _], _, h1 => exact h1.elim
  | _ :: _ :: _ :: _ :: _, _, h1 => exact h1.elim
theorem locN_ok {i : Nat} {x : Str} (c : Cok X m p) (h : locN m i x = true) : X.N[i]? = some x ∧ X.env.scope.names.lookup x = some .local := by
  unfold locN at h
  rw [Bool.and_eq_true] at h
  exact ⟨by rw [c.N]; exact of_decide_eq_true h.1, by rw [c.sc]; exact of_decide_eq_true h.2⟩
theorem sw_ok {tgt x : Expr} {line : Nat} (s : Sok X m p W) (h : swB m.sc tgt x = false) : swapsWithSole [tgt] x line X.env = pure false := by
  rw [swB_ok s.kind, s.c.sc, h]
theorem so_ok {tgt x : Expr} {r : Option (List Str)} (s : Sok X m p W) (h : swO m.sc tgt x = some r) : swappedStores [tgt] x X.env = pure r := swO_ok s.kind (by rw [s.c.sc]; exact h)
theorem sub_asg {o i : Expr} {pos : Pos} {env : PySem.Env} (h : notSlice i = true) : ∀ v, assign (.Subscript o i pos) env v = (do
      let ov ← holding [v] (eval o env)
      let iv ← holding [v, ov] (eval i env)
      standAt pos
      holding [v, ov, iv] (setItem ov iv v)
      release [v, ov, iv] []) := fun v => by
  cases i <;> first | rfl | cases h
theorem nostB {sc : Scope} {ts : List Expr} {k1 k2 : Nat} {p1 p2 : Pos} {vs : List Expr} : swB sc (.Tuple ts k1 p1) (.Tuple vs k2 p2) = false := rfl

mutual
theorem mS_ok : ∀ (f : S) {st : Stmt}, mS m f st = true → Sok X m p W → PS X st (RS X.K X.mg W (ex p f))
  | .asg t e, st, h, s => by
    unfold mS at h
    split at h
    · simp only [Bool.and_eq_true, Bool.not_eq_true'] at h
      obtain ⟨⟨⟨h1, h2⟩, h3⟩, h4⟩ := h
      exact ps_asg' (mL_ok e h2 s.c s.tk).one.pe (mT_ok s.c h1) (sw_ok s h3) (so_ok s (of_decide_eq_true h4)) (asg_one (mT_star h1))
    · cases h
  | .asgC i e, st, h, s => by
    unfold mS at h
    split at h
    · simp only [Bool.and_eq_true] at h
      obtain ⟨⟨h1, h2⟩, h3⟩ := h
      exact comp_set s h1 h3 h2
    · cases h
  | .par i j as, st, h, s => by
    unfold mS at h
    split at h
    · simp only [Bool.and_eq_true] at h
      obtain ⟨⟨⟨⟨⟨h1, h2⟩, h3⟩, h4⟩, h5⟩, h6⟩ := h
      obtain ⟨a1, a2⟩ := locN_ok s.c h1
      obtain ⟨b1, b2⟩ := locN_ok s.c h2
      exact PS.re (ps_par s.c.calm (by rw [s.c.N]; exact s.c.nd) a1 b1 (of_decide_eq_true h3) a2 b2 (mEs_ok as h4 h5 s.c s.tk) (so_ok s (of_decide_eq_true h6)) (sw_ok s nostB)) fun _ _ _ z => rs_par z
    · cases h
  | .par3 i j l as, st, h, s => by
    unfold mS at h
    split at h
    · simp only [Bool.and_eq_true] at h
      obtain ⟨⟨⟨⟨⟨⟨⟨⟨h1, h2⟩, h3⟩, h4⟩, h5⟩, h6⟩, h7⟩, h8⟩, h9⟩ := h
      obtain ⟨a1, a2⟩ := locN_ok s.c h1
      obtain ⟨b1, b2⟩ := locN_ok s.c h2
      obtain ⟨c1, c2⟩ := locN_ok s.c h3
      exact PS.re (ps_par3 s.c.calm (by rw [s.c.N]; exact s.c.nd) a1 b1 c1 (of_decide_eq_true h4) (of_decide_eq_true h5) (of_decide_eq_true h6) a2 b2 c2 (mEs_ok as h7 h8 s.c s.tk) (so_ok s (of_decide_eq_true h9)) (sw_ok s nostB)) fun _ _ _ z => rs_par3 z
    · cases h
  | .setix o i e, st, h, s => by
    unfold mS at h
    split at h
    · simp only [Bool.and_eq_true] at h
      obtain ⟨⟨⟨h1, h2⟩, h3⟩, h4⟩ := h
      refine ps_setix' (mL_ok o h1 s.c s.tk).one.pe (mL_ok i h2 s.c s.tk).one.pe (mL_ok e h3 s.c s.tk).one.pe set_ok (sub_asg h4) (sw_ok s ?_) (so_ok s rfl) rfl
      unfold swB
      rw [Bool.and_false]
    · cases h
  | .aug i sub e, st, h, s => by
    unfold mS at h
    split at h
    · simp only [Bool.and_eq_true] at h
      obtain ⟨⟨⟨⟨h1, h2⟩, h3⟩, h4⟩, h5⟩ := h
      rw [of_decide_eq_true h4]
      refine ps_aug' (by rw [s.c.N]; exact s.c.nd) (by rw [s.c.N]; exact of_decide_eq_true h1) (by rw [s.c.sc]; exact loc_of h2) (mL_ok e h5 s.c s.tk).one.pe ?_ (s.c.st _ h3)
      cases sub with
      | true => exact ip_sub
      | false => exact ip_add
    · cases h
  | .expr e, st, h, s => by
    unfold mS at h
    split at h
    · simp only [Bool.and_eq_true, Bool.not_eq_true'] at h
      exact ps_expr' (mL_ok e h.1 s.c s.tk).one.pe (swN_ok h.2)
    · cases h
  | .ifs t a b, st, h, s => by
    unfold mS at h
    split at h
    · simp only [Bool.and_eq_true] at h
      obtain ⟨⟨h1, h2⟩, h3⟩ := h
      exact ps_if' (mL_ok t h1 s.c s.tk).one.pt (mSs_ok a h2 s) (mSs_ok b h3 s)
    · cases h
  | .whl t b, st, h, s => by
    unfold mS at h
    split at h
    · simp only [Bool.and_eq_true] at h
      exact ps_while' s.po (mL_ok t h.1 s.c s.tk).one.pt (mSs_ok b h.2 s)
    · cases h
  | .fors t it b, st, h, s => by
    unfold mS at h
    split at h
    · simp only [Bool.and_eq_true] at h
      obtain ⟨⟨⟨h1, h2⟩, h3⟩, h4⟩ := h
      exact ps_for' s.po s.c.calm (mI_ok it h2 s.c s.tk) (mT_ok s.c h1) (mSs_ok b h4 s) (fold_of h3)
    · cases h
  | .ret e, st, h, s => by
    unfold mS at h
    split at h
    · exact ps_ret' (mL_ok e h s.c s.tk).one.pe
    · cases h
  | .retN, st, h, s => by
    unfold mS at h
    split at h
    · exact ps_retN'
    · cases h
  | .brk, st, h, s => by
    unfold mS at h
    split at h
    · exact ps_break'
    · cases h
  | .ct, st, h, s => by
    unfold mS at h
    split at h
    · exact ps_continue'
    · cases h
  | .pass, st, h, s => by
    unfold mS at h
    split at h
    · exact ps_pass'
    · cases h
  | .dead, st, h, s => PS.re ps_never fun Z σ H q => by
    obtain ⟨_, _, _, _, _, q⟩ := q
    exact q
  | .skip, st, h, s => by unfold mS at h; cases h
  | .seq _ _, st, h, s => by unfold mS at h; cases h
theorem mSs_ok : ∀ (f : S) {l : List Stmt}, mSs m f l = true → Sok X m p W → PSs X l (RS X.K X.mg W (ex p f))
  | .skip, l, h, s => by
    cases l with
    | nil => exact pss_nil'
    | cons _ _ => unfold mSs at h; cases h
  | .seq a b, l, h, s => by
    cases l with
    | nil => unfold mSs at h; cases h
    | cons st r =>
      unfold mSs at h
      rw [Bool.and_eq_true] at h
      exact pss_cons' (mS_ok a h.1 s) (mSs_ok b h.2 s)
  | .asg _ _, l, h, s => by unfold mSs at h; cases h
  | .asgC _ _, l, h, s => by unfold mSs at h; cases h
  | .par _ _ _, l, h, s => by unfold mSs at h; cases h
  | .par3 _ _ _ _, l, h, s => by unfold mSs at h; cases h
  | .setix _ _ _, l, h, s => by unfold mSs at h; cases h
  | .aug _ _ _, l, h, s => by unfold mSs at h; cases h
  | .expr _, l, h, s => by unfold mSs at h; cases h
  | .ifs _ _ _, l, h, s => by unfold mSs at h; cases h
  | .whl _ _, l, h, s => by unfold mSs at h; cases h
  | .fors _ _ _, l, h, s => by unfold mSs at h; cases h
  | .ret _, l, h, s => by unfold mSs at h; cases h
  | .retN, l, h, s => by unfold mSs at h; cases h
  | .brk, l, h, s => by unfold mSs at h; cases h
  | .ct, l, h, s => by unfold mSs at h; cases h
  | .pass, l, h, s => by unfold mSs at h; cases h
  | .dead, l, h, s => by unfold mSs at h; cases h
end
end
end
end L2.PyD
/-! PyD, part 12: a text as a table of defs; what its law gives. -/
namespace L2.PyD
open PySem PySem.Spec PyProof.Rows
noncomputable section

/-- a def: its name, its names by slot (parameters first), how many parameters, its body -/
structure Fd where
  name : Str
  N : List Str
  ps : List Str
  body : S
noncomputable def callN (G : Nat → D) (tbl : List Fd) : Nat → Nat → Cal
  | 0, _ => fun _ _ => .bad
  | k + 1, i => match tbl[i]? with
    | some f => dBody f.N.length (ex ⟨callN G tbl k, G⟩ f.body)
    | none => fun _ _ => .bad
def fnsGo : Nat → List Fd → List (Str × Nat × Nat)
  | _, [] => []
  | i, f :: r => (f.name, i, f.ps.length) :: fnsGo (i + 1) r
theorem fnsGo_ok : ∀ (l : List Fd) (i : Nat) {x : Str} {j n : Nat}, (fnsGo i l).lookup x = some (j, n) → ∃ f, i ≤ j ∧ l[j - i]? = some f ∧ f.name = x ∧ f.ps.length = n
  | [], _, _, _, _, h => by cases h
  | f :: r, i, x, j, n, h => by
    unfold fnsGo at h
    rw [List.lookup_cons] at h
    split at h
    · rename_i e
      cases h
      exact ⟨f, Nat.le_refl _, by simp, (eq_of_beq e).symm, rfl⟩
    · obtain ⟨g, h1, h2, h3, h4⟩ := fnsGo_ok r (i + 1) h
      refine ⟨g, by omega, ?_, h3, h4⟩
      have : j - i = (j - (i + 1)) + 1 := by omega
      rw [this]
      simpa using h2
/-- what else the text knows by name: constants, built-ins that no name hides, imported ones -/
structure Gn where
  gls : List (Str × D)
  blt : List Str
  imp : List (Str × String)
def glsGo : Nat → List (Str × D) → List (Str × Nat)
  | _, [] => []
  | i, f :: r => (f.1, i) :: glsGo (i + 1) r
theorem glsGo_ok : ∀ (l : List (Str × D)) (i : Nat) {x : Str} {j : Nat}, (glsGo i l).lookup x = some j → ∃ d, i ≤ j ∧ l[j - i]? = some (x, d)
  | [], _, _, _, h => by cases h
  | f :: r, i, x, j, h => by
    unfold glsGo at h
    rw [List.lookup_cons] at h
    split at h
    · rename_i e
      cases h
      exact ⟨f.2, Nat.le_refl _, by rw [eq_of_beq e]; simp⟩
    · obtain ⟨g, h1, h2⟩ := glsGo_ok r (i + 1) h
      refine ⟨g, by omega, ?_⟩
      have : j - i = (j - (i + 1)) + 1 := by omega
      rw [this]
      simpa using h2
def Gn.G (g : Gn) (j : Nat) : D := match g.gls[j]? with
  | some p => p.2
  | none => .non
def mcOf (g : Gn) (tbl : List Fd) (f : Fd) (st : Stmt) : Mc := ⟨f.N, defScope st, fun _ => true, fnsGo 0 tbl, glsGo 0 g.gls, g.blt, g.imp⟩
def nodupB : List Str → Bool
  | [] => true
  | x :: r => !r.contains x && nodupB r
theorem nodupB_ok : ∀ {l : List Str}, nodupB l = true → l.Nodup
  | [], _ => .nil
  | x :: r, h => by
    unfold nodupB at h
    rw [Bool.and_eq_true, Bool.not_eq_true'] at h
    refine List.nodup_cons.mpr ⟨fun m => ?_, nodupB_ok h.2⟩
    rw [List.contains_iff_mem.mpr m] at h
    cases h.1
def scopeB (N ps : List Str) (sc : Scope) : Bool := (match sc.kind with | .function => true | _ => false) && !sc.isCoroutine && !sc.isGenerator && nodupB N && decide (N.take ps.length = ps) && ps.all (locB sc) && sc.names.all fun y => !(y.2 == .free)
theorem scopeB_ok {N ps : List Str} {sc : Scope} (h : scopeB N ps sc = true) : FnScope N ps sc := by
  unfold scopeB at h
  simp only [Bool.and_eq_true, Bool.not_eq_true', List.all_eq_true] at h
  obtain ⟨⟨⟨⟨⟨⟨h1, h2⟩, h3⟩, h4⟩, h5⟩, h6⟩, h7⟩ := h
  refine ⟨?_, h2, h3, nodupB_ok h4, of_decide_eq_true h5, fun x hx => loc_of (h6 x hx), fun y hy e => ?_⟩
  · split at h1
    · assumption
    · cases h1
  · have := h7 y hy
    rw [e] at this
    cases this
/-- a def of the table stands in the text as it is told -/
def defB (g : Gn) (tbl : List Fd) (f : Fd) (st : Stmt) : Bool := scopeB f.N f.ps (defScope st) && mSs (mcOf g tbl f st) f.body (defBody st)
section
variable {P : Program} {w : World} {K : PySem.W.Frag} {mg : Str → Option Value} {base : Heap}
/-- how a def's arguments bind -/
def BA (fd : FuncData) (ps : List Str) : Prop := ∀ us : List Value, us.length = ps.length → bindArgs fd ⟨us, []⟩ = pure (ps.zip us)
/-- where a def stands behind the top -/
def DefAt (K : PySem.W.Frag) (mg : Str → Option Value) (f : Fd) (st : Stmt) : Prop :=
  ∃ (a : Addr) (fd : FuncData), Fun K f.name f.name st a fd ∧ mg f.name = some (.ref a) ∧ BA fd f.ps
structure TextOk (K : PySem.W.Frag) (mg : Str → Option Value) (g : Gn) (tbl : List Fd) (sts : List Stmt) : Prop where
  defs : ∀ (i : Nat) (f : Fd) (st : Stmt), tbl[i]? = some f → sts[i]? = some st → DefAt K mg f st
  len : tbl.length = sts.length
  gls : ∀ (j : Nat) (x : Str) (d : D), g.gls[j]? = some (x, d) → ∃ (v : V) (u : Value), mg x = some u ∧ RelV v u ∧ ∀ as H, Rp K as H v d
  blt : ∀ x, g.blt.contains x = true → mg x = none
  imp : ∀ x id, g.imp.lookup x = some id → mg x = some (.builtin id)
/-- every def keeps what its table row says -/
def AllOk (P : Program) (w : World) (K : PySem.W.Frag) (mg : Str → Option Value) (base : Heap) (g : Gn) (tbl : List Fd) (k : Nat) : Prop :=
  ∀ (i : Nat) (f : Fd), tbl[i]? = some f → ∃ (a : Addr) (fd : FuncData), mg f.name = some (.ref a) ∧ (∃ st, Fun K f.name f.name st a fd) ∧ BA fd f.ps ∧ FnOk P w K mg base (L2.CX P w) k a fd f.ps (spI K mg f.ps.length (callN g.G tbl k i))
theorem all_ok {g : Gn} {tbl : List Fd} {sts : List Stmt} (T : TextOk K mg g tbl sts) (hb : ∀ (i : Nat) (f : Fd) (st : Stmt), tbl[i]? = some f → sts[i]? = some st → defB g tbl f st = true) : ∀ k, AllOk P w K mg base g tbl k
  | 0, i, f, e => by
    have hi : i < sts.length := by rw [← T.len]; exact (List.getElem?_eq_some_iff.mp e).1
    obtain ⟨a, fd, F, hm, B⟩ := T.defs i f _ e (List.getElem?_eq_getElem hi)
    refine ⟨a, fd, hm, ⟨_, F⟩, B, ⟨fun vs H Q E h => ?_, fun A outer s H args us vs Q E hr e0 hb r h => ?_⟩⟩
    · obtain ⟨_, _, _, _, _, h, _⟩ := h
      exact h
    · obtain ⟨_, _, _, _, _, _, h⟩ := h
      exact h.elim
  | k + 1, i, f, e => by
    have hi : i < sts.length := by rw [← T.len]; exact (List.getElem?_eq_some_iff.mp e).1
    have es := List.getElem?_eq_getElem hi
    obtain ⟨a, fd, F, hm, B⟩ := T.defs i f _ e es
    have hB := hb i f _ e es
    unfold defB at hB
    rw [Bool.and_eq_true] at hB
    have Sc := scopeB_ok hB.1
    have ec : callN g.G tbl (k + 1) i = dBody f.N.length (ex ⟨callN g.G tbl k, g.G⟩ f.body) := by
      show (match tbl[i]? with
        | some f => dBody f.N.length (ex ⟨callN g.G tbl k, g.G⟩ f.body)
        | none => fun _ _ => .bad) = _
      rw [e]
    rw [ec]
    refine ⟨a, fd, hm, ⟨_, F⟩, B, fn_ok F Sc rfl fun cdv A outer s H E hr => ?_⟩
    have c : Cok (cxOf (L2.CX P w) P w K mg base f.N f.name (defScope sts[i]) a cdv A outer s H E) (mcOf g tbl f sts[i]) ⟨callN g.G tbl k, g.G⟩ := by
      refine ⟨rfl, rfl, Sc.nd, rfl, hr.units, fun _ _ => .inl rfl, fun x j n h => ?_, fun x j h => ?_, T.blt, T.imp⟩
      · obtain ⟨f', h1, h2, h3, h4⟩ := fnsGo_ok tbl 0 h
        obtain ⟨a', fd', m1, m2, m3, m4⟩ := all_ok T hb k j f' (by simpa using h2)
        rw [h4] at m4
        exact ⟨k, a', fd', f'.ps, m4, hr, by rw [← h3]; exact m1, (by obtain ⟨_, m2⟩ := m2; exact m2.kp), .all m3⟩
      · obtain ⟨d, h1, h2⟩ := glsGo_ok g.gls 0 h
        have h2 : g.gls[j]? = some (x, d) := by simpa using h2
        obtain ⟨v, u, m1, m2, m3⟩ := T.gls j x d h2
        refine ⟨v, u, m1, m2, fun as H => ?_⟩
        have : g.G j = d := by unfold Gn.G; rw [h2]
        show Rp K as H v (g.G j)
        rw [this]
        exact m3 as H
    exact mSs_ok f.body hB.2 ⟨c, Sc.kind, passes_of rfl, takes_of rfl rfl rfl rfl⟩
/-- what the law's def is to give -/
def spLaw (K : PySem.W.Frag) : Sp := fun vs H Q _ => ∃ (a : Addr) (ns : List Int), vs = [.ref a] ∧ FixL K H a (ns.map V.int) ∧ ns.length ≤ 63 ∧ ∀ H', Q (.bl true) H'
theorem law_ok {g : Gn} {tbl : List Fd} {k i : Nat} {f : Fd} {fa : Addr} (A : AllOk P w K mg base g tbl k) (e : tbl[i]? = some f) (hp : f.ps = (["script"] : List Str)) (hm : mg f.name = some (.ref fa)) (h : ∀ ns : List Int, ns.length ≤ 63 → callN g.G tbl k i [.frl (ns.map D.int)] [] = .ok (.bl true) []) :
    ∃ fd : FuncData, (∃ st, Fun K f.name f.name st fa fd) ∧ FnOk P w K mg base (L2.CX P w) k fa fd ["script"] (spLaw K) := by
  obtain ⟨a, fd, m1, m2, m3, m4⟩ := A i f e
  rw [hm] at m1
  cases m1
  rw [hp] at m4
  refine ⟨fd, m2, m4.imp fun vs H Q E q => ?_⟩
  obtain ⟨a, ns, ev, hF, hl, q⟩ := q
  refine ⟨[], [], [.frl (ns.map D.int)], ⟨rfl, .nil, fun i p c z _ => by cases i <;> cases z⟩, ?_, by rw [ev]; rfl, ?_⟩
  · rw [ev]
    refine .cons (.frl hF ?_ (RpL.ints ns)) .nil
    rw [List.length_map]
    exact Nat.le_trans hl (by decide)
  · rw [h ns hl]
    intro as' H' v x s r
    cases r
    exact q H'
end
theorem fix_of {K : PySem.W.Frag} {H : Hp} {a : Addr} {xs : List V} (o : Only H) (h : SqL K H a xs) : FixL K H a xs := by
  rcases h with (h | h) | h
  · rcases o a with q | ⟨o, ys, q⟩
    · rw [q] at h; cases h
    · rw [q] at h; cases h
  · exact .inl h
  · exact .inr fun _ => .inr h
end
end L2.PyD
/-! PyD, part 13: the written part holds the text. -/
namespace L2.PyD
open PySem PySem.Spec PyProof.Rows
noncomputable section
def AllP {α : Type} (p : α → Prop) : List α → Prop
  | [] => True
  | x :: r => p x ∧ AllP p r
theorem AllP.get {α : Type} {p : α → Prop} : ∀ {l : List α}, AllP p l → ∀ x ∈ l, p x
  | y :: r, h, x, m => by
    rcases List.mem_cons.mp m with e | m
    · subst e; exact h.1
    · exact AllP.get h.2 x m
structure DefIn (K : PySem.W.Frag) (p : Fd × Stmt) : Prop where
  ex : ∃ (a : Addr) (fd : FuncData), Fun K p.1.name p.1.name p.2 a fd ∧ PySem.W.nsIn K mainGlobals p.1.name = some (some (.ref a)) ∧ BA fd p.1.ps
theorem defIn_mk {K : PySem.W.Frag} {p : Fd × Stmt} {a : Addr} {oc : Value} {od an : Option Addr} {osl : Array (Option Value)} {kV doc pm cdv ct : Value}
    (a1 : PySem.W.nsIn K mainGlobals p.1.name = some (some (.ref a))) (l : K.lookup a = some ⟨oc, od, .func (PySem.W.fnOf p.1.name p.1.name (defArgs p.2) (defBody p.2) (defScope p.2) .none kV doc pm an cdv ct), osl⟩)
    (c : PySem.W.codeIn K cdv p.1.name = true) (k : PySem.W.keepIn K (.ref a) = true)
    (b : ∀ (kV doc pm : Value) (an : Option Addr) (cdv ct : Value) (us : List Value), us.length = p.1.ps.length → bindArgs (PySem.W.fnOf p.1.name p.1.name (defArgs p.2) (defBody p.2) (defScope p.2) .none kV doc pm an cdv ct) ⟨us, []⟩ = pure (p.1.ps.zip us)) : DefIn K p :=
  ⟨⟨a, _, fun_mk l c k, a1, b kV doc pm an cdv ct⟩⟩
structure GlIn (K : PySem.W.Frag) (p : Str × D) : Prop where
  ex : ∃ (v : V) (u : Value), PySem.W.nsIn K mainGlobals p.1 = some (some u) ∧ RelV v u ∧ ∀ as H, Rp K as H v p.2
theorem glIn_int {K : PySem.W.Frag} {x : Str} {i : Int} {t : Tok} (h : PySem.W.nsIn K mainGlobals x = some (some (.int i t))) : GlIn K (x, .int i) := ⟨⟨.int i, _, h, ⟨t, rfl⟩, fun _ _ => .int i⟩⟩
structure BltIn (K : PySem.W.Frag) (x : Str) : Prop where
  ex : PySem.W.nsIn K mainGlobals x = some none
structure ImpIn (K : PySem.W.Frag) (p : Str × String) : Prop where
  ex : PySem.W.nsIn K mainGlobals p.1 = some (some (.builtin p.2))
theorem cx_no {P : Program} {w : World} {outer : List PySem.Env} {H : Hp} {s s' : Shared} {e : Value} (h : L2.CX P w outer H s (fun _ _ _ => False) e s') : False := by
  obtain ⟨_, _, _, _, _, _, _, _, _, _, _, _, h⟩ := h
  exact h
structure TextIn (K : PySem.W.Frag) (g : Gn) (tbl : List Fd) (sts : List Stmt) : Prop where
  defs : AllP (DefIn K) (tbl.zip sts)
  len : tbl.length = sts.length
  gls : AllP (GlIn K) g.gls
  blt : AllP (BltIn K) g.blt
  imp : AllP (ImpIn K) g.imp
theorem lookup_mem {β : Type} : ∀ {l : List (Str × β)} {x : Str} {b : β}, l.lookup x = some b → (x, b) ∈ l
  | (y, c) :: r, x, b, h => by
    rw [List.lookup_cons] at h
    split at h
    · rename_i e
      cases h
      rw [eq_of_beq e]
      exact List.mem_cons_self ..
    · exact List.mem_cons_of_mem _ (lookup_mem h)
theorem TextIn.ok {K : PySem.W.Frag} {g : Gn} {tbl : List Fd} {sts : List Stmt} {h : Heap} {mg : Str → Option Value} (T : TextIn K g tbl sts) (X : K.In h) (G : h.Ns mainGlobals mg) : TextOk K mg g tbl sts := by
  refine ⟨fun i f st e1 e2 => ?_, T.len, fun j x d e => ?_, fun x e => ?_, fun x id e => ?_⟩
  · have m : (f, st) ∈ tbl.zip sts := by
      refine List.mem_iff_getElem?.mpr ⟨i, ?_⟩
      rw [List.getElem?_zip_eq_some]
      exact ⟨e1, e2⟩
    obtain ⟨a, fd, h1, h2, h3⟩ := (T.defs.get _ m).ex
    exact ⟨a, fd, h1, PySem.W.mg_of X G h2, h3⟩
  · obtain ⟨v, u, h1, h2, h3⟩ := (T.gls.get _ (List.mem_of_getElem? e)).ex
    exact ⟨v, u, PySem.W.mg_of X G h1, h2, h3⟩
  · exact PySem.W.mg_none_of X G (T.blt.get _ (List.contains_iff_mem.mp e)).ex
  · exact PySem.W.mg_of X G (T.imp.get _ (lookup_mem e)).ex
theorem fun_uniq {K : PySem.W.Frag} {x q x' q' : Str} {st st' : Stmt} {a : Addr} {fd fd' : FuncData} (F : Fun K x q st a fd) (F' : Fun K x' q' st' a fd') : fd = fd' := by
  obtain ⟨_, _, _, _, _, _, _, _, _, _, l, _⟩ := F.ex
  obtain ⟨_, _, _, _, _, _, _, _, _, _, l', _⟩ := F'.ex
  rw [l] at l'
  cases l'
  rfl
/-- the whole of it: from the written part and the law's answer to what k_head asks -/
theorem law_F {P : Program} {w : World} {K : PySem.W.Frag} {g : Gn} {tbl : List Fd} {sts : List Stmt} {h : Heap} {mg : Str → Option Value} {fa : Addr} {k i : Nat} {f : Fd} (X : K.In h) (G : h.Ns mainGlobals mg) (T : TextIn K g tbl sts) (hc : ((tbl.zip sts).all fun p => defB g tbl p.1 p.2) = true)
    (e : tbl[i]? = some f) (hp : f.ps = (["script"] : List Str)) (hm : mg f.name = some (.ref fa)) (hl : ∀ ns : List Int, ns.length ≤ 63 → callN g.G tbl k i [.frl (ns.map D.int)] [] = .ok (.bl true) []) :
    ∃ fd : FuncData, (∀ (s : Shared) (u : Value), BindsTo s fd ⟨[u], []⟩ [("script", u)]) ∧ ∀ base : Heap, K.In base → base.Ns mainGlobals mg → FnOk P w K mg base (L2.CX P w) k fa fd ["script"] (spLaw K) := by
  have TO := T.ok X G
  have hb : ∀ (i : Nat) (f : Fd) (st : Stmt), tbl[i]? = some f → sts[i]? = some st → defB g tbl f st = true := fun i f st e1 e2 => by
    rw [List.all_eq_true] at hc
    refine hc (f, st) (List.mem_iff_getElem?.mpr ⟨i, ?_⟩)
    rw [List.getElem?_zip_eq_some]
    exact ⟨e1, e2⟩
  have hi : i < sts.length := by rw [← TO.len]; exact (List.getElem?_eq_some_iff.mp e).1
  obtain ⟨a, fd, F, m, B⟩ := TO.defs i f _ e (List.getElem?_eq_getElem hi)
  rw [hm] at m
  cases m
  refine ⟨fd, fun s u => .of_eq (by rw [hp] at B; exact B [u] rfl), fun base _ _ => ?_⟩
  obtain ⟨fd', ⟨_, F'⟩, ok⟩ := law_ok (all_ok (P := P) (w := w) (base := base) TO hb k) e hp hm hl
  rw [fun_uniq F F']
  exact ok
end
end L2.PyD
/-! PyD, part 14: how the short forms are reckoned with (rewriting outside in), loops by invariants, leaving, the row. -/
namespace L2.PyD
open PySem PySem.Spec PyProof.Rows
noncomputable section

/-! ### rewriting -/
section
variable {α β : Type} {p : Pr} {env : Env} {st : Store} {a b c t : E} {as : Es}
@[simp ↓] theorem obind_ok {x : α} {f : α → Store → Out β} : (Out.ok x st).bind f = f x st := rfl
@[simp ↓] theorem obind_exc {x : Str} {fs : List (Str × D)} {f : α → Store → Out β} : (Out.exc x fs st).bind f = .exc x fs st := rfl
@[simp ↓] theorem obind_bad {f : α → Store → Out β} : (Out.bad : Out α).bind f = .bad := rfl
@[simp ↓] theorem obind_if {q : Prop} [Decidable q] {x y : Out α} {f : α → Store → Out β} : (if q then x else y).bind f = if q then x.bind f else y.bind f := by split <;> rfl
@[simp ↓] theorem othen_ok {x : α} {f : α → Store → Fs} : (Out.ok x st).then env f = f x st := rfl
@[simp ↓] theorem othen_exc {x : Str} {fs : List (Str × D)} {f : α → Store → Fs} : (Out.exc x fs st).then env f = .exc env x fs st := rfl
@[simp ↓] theorem othen_bad {f : α → Store → Fs} : (Out.bad : Out α).then env f = .bad := rfl
@[simp ↓] theorem othen_if {q : Prop} [Decidable q] {x y : Out α} {f : α → Store → Fs} : (if q then x else y).then env f = if q then x.then env f else y.then env f := by split <;> rfl
@[simp] theorem onox_ok {x : α} : (Out.ok x st).nox = .ok x st := rfl
@[simp] theorem obool_some {x : Bool} : obool (some x) st = .ok x st := rfl
@[simp] theorem fin_some {mu : Bool} {d : D} : fin mu (some (.val d)) st = .ok d st := rfl
@[simp] theorem fin_new {ds : List D} : fin false (some (.newL ds)) st = .ok (.lst ds) st := rfl
@[simp] theorem fin_cell {ds : List D} : fin true (some (.newL ds)) st = .ok (.cell st.length) (st ++ [.lst ds]) := rfl
/-- a value -/
@[simp ↓] theorem v_con {d : D} : (ev p (.con d)).v env st = .ok d st := rfl
@[simp ↓] theorem v_var {i : Nat} : (ev p (.var i)).v env st = match env[i]? with | some (some d) => .ok d st | _ => .bad := rfl
@[simp ↓] theorem v_glb {j : Nat} : (ev p (.glb j)).v env st = .ok (p.G j) st := rfl
@[simp ↓] theorem v_tyn {n : String} : (ev p (.tyn n)).v env st = .ok (.ty n) st := rfl
@[simp ↓] theorem v_tup : (ev p (.tup as)).v env st = (evs p as env st).bind fun ds st1 => if small ds then .ok (.tup ds) st1 else .bad := rfl
@[simp ↓] theorem v_lstT : (ev p (.lst true as)).v env st = (evs p as env st).bind fun ds st1 => if small ds then .ok (.cell st1.length) (st1 ++ [.lst ds]) else .bad := rfl
@[simp ↓] theorem v_lstF : (ev p (.lst false as)).v env st = (evs p as env st).bind fun ds st1 => if small ds then .ok (.lst ds) st1 else .bad := rfl
@[simp ↓] theorem v_bin {mu : Bool} {o : Operator} : (ev p (.bin mu o a b)).v env st = ((ev p a).v env st).bind fun x st1 => ((ev p b).v env st1).bind fun y st2 => fin mu (binG' o st2 x y) st2 := rfl
@[simp ↓] theorem v_neg : (ev p (.neg a)).v env st = ((ev p a).v env st).bind fun x st1 => fin false (gNeg st1 x) st1 := rfl
@[simp ↓] theorem v_cmp {o : CmpOp} : (ev p (.cmp o a b)).v env st = ((ev p (.cmp o a b)).b env st).bind fun x st1 => .ok (.bl x) st1 := rfl
@[simp ↓] theorem v_cmp2 {o o' : CmpOp} : (ev p (.cmp2 o o' a b c)).v env st = ((ev p (.cmp2 o o' a b c)).b env st).bind fun x st1 => .ok (.bl x) st1 := rfl
@[simp ↓] theorem v_and : (ev p (.and a b)).v env st = ((ev p (.and a b)).b env st).bind fun x st1 => .ok (.bl x) st1 := rfl
@[simp ↓] theorem v_or : (ev p (.or a b)).v env st = ((ev p (.or a b)).b env st).bind fun x st1 => .ok (.bl x) st1 := rfl
@[simp ↓] theorem v_not : (ev p (.not a)).v env st = ((ev p (.not a)).b env st).bind fun x st1 => .ok (.bl x) st1 := rfl
@[simp ↓] theorem v_ite : (ev p (.ite t a b)).v env st = ((ev p t).t env st).bind fun k st1 => if k then (ev p a).v env st1 else (ev p b).v env st1 := rfl
@[simp ↓] theorem v_ix : (ev p (.ix a b)).v env st = ((ev p a).v env st).bind fun x st1 => ((ev p b).v env st1).bind fun y st2 => fin false (gIx st2 x y) st2 := rfl
@[simp ↓] theorem v_call {f : Nat} : (ev p (.call f as)).v env st = (evs p as env st).bind fun ds st1 => p.C f ds st1 := rfl
@[simp ↓] theorem v_blt {mu : Bool} {g : Bi} : (ev p (.blt mu g as)).v env st = (evs p as env st).bind fun ds st1 => fin mu (g.g st1 ds) st1 := rfl
@[simp ↓] theorem v_app {o : E} : (ev p (.met .append o as)).v env st = ((ev p o).v env st).bind fun x st1 => if hasT "list" st1 x then (evs p as env st1).bind fun ds st2 => (mAppend st2 x ds).nox else .bad := rfl
@[simp ↓] theorem v_comp {mu : Bool} {it : I} {own : List (Str × Nat)} {tt : T} {e : E} : (ev p (.comp mu it own tt e)).v env st = (evI p it env st).bind fun it st1 => (compL st1.length it.2 (wipeE env (own.map (·.2))) (tg tt) bYes (ev p e).v it.1 (st1 ++ [.lst []])).bind fun _ s => give mu st1 s := rfl
@[simp ↓] theorem v_compIf {mu : Bool} {it : I} {own : List (Str × Nat)} {tt : T} {e : E} : (ev p (.compIf mu it own tt c e)).v env st = (evI p it env st).bind fun it st1 => (compL st1.length it.2 (wipeE env (own.map (·.2))) (tg tt) (ev p c).t (ev p e).v it.1 (st1 ++ [.lst []])).bind fun _ s => give mu st1 s := rfl
/-- lists of values -/
@[simp ↓] theorem s_nil : evs p .nil env st = .ok [] st := rfl
@[simp ↓] theorem s_cons : evs p (.cons a as) env st = ((ev p a).v env st).bind fun x st1 => (evs p as env st1).bind fun xs st2 => .ok (x :: xs) st2 := rfl
/-- tests -/
def bv (x : D) (st : Store) : Out Bool := match x with
  | .bl b => .ok b st
  | _ => .bad
@[simp] theorem bv_bl {x : Bool} : bv (.bl x) st = .ok x st := rfl
@[simp ↓] theorem t_cmp {o : CmpOp} : (ev p (.cmp o a b)).t env st = (ev p (.cmp o a b)).b env st := rfl
@[simp ↓] theorem t_cmp2 {o o' : CmpOp} : (ev p (.cmp2 o o' a b c)).t env st = (ev p (.cmp2 o o' a b c)).b env st := rfl
@[simp ↓] theorem t_and : (ev p (.and a b)).t env st = ((ev p a).t env st).bind fun k st1 => if k then (ev p b).t env st1 else .ok false st1 := rfl
@[simp ↓] theorem t_or : (ev p (.or a b)).t env st = ((ev p a).t env st).bind fun k st1 => if k then .ok true st1 else (ev p b).t env st1 := rfl
@[simp ↓] theorem t_not : (ev p (.not a)).t env st = ((ev p a).t env st).bind fun k st1 => .ok (!k) st1 := rfl
@[simp ↓] theorem t_con {d : D} : (ev p (.con d)).t env st = obool (truD st d) st := rfl
@[simp ↓] theorem t_var {i : Nat} : (ev p (.var i)).t env st = ((ev p (.var i)).v env st).bind fun d st1 => obool (truD st1 d) st1 := rfl
@[simp ↓] theorem t_glb {i : Nat} : (ev p (.glb i)).t env st = ((ev p (.glb i)).v env st).bind fun d st1 => obool (truD st1 d) st1 := rfl
@[simp ↓] theorem t_bin {mu : Bool} {o : Operator} : (ev p (.bin mu o a b)).t env st = ((ev p (.bin mu o a b)).v env st).bind fun d st1 => obool (truD st1 d) st1 := rfl
@[simp ↓] theorem t_ix : (ev p (.ix a b)).t env st = ((ev p (.ix a b)).v env st).bind fun d st1 => obool (truD st1 d) st1 := rfl
@[simp ↓] theorem t_call {f : Nat} : (ev p (.call f as)).t env st = ((ev p (.call f as)).v env st).bind fun d st1 => obool (truD st1 d) st1 := rfl
@[simp ↓] theorem t_blt {mu : Bool} {g : Bi} : (ev p (.blt mu g as)).t env st = ((ev p (.blt mu g as)).v env st).bind fun d st1 => obool (truD st1 d) st1 := rfl
@[simp ↓] theorem b_cmp {o : CmpOp} : (ev p (.cmp o a b)).b env st = ((ev p a).v env st).bind fun x st1 => ((ev p b).v env st1).bind fun y st2 => obool (cmpG' o st2 x y) st2 := rfl
@[simp ↓] theorem b_cmp2 {o o' : CmpOp} : (ev p (.cmp2 o o' a b c)).b env st = ((ev p a).v env st).bind fun x st1 => ((ev p b).v env st1).bind fun y st2 => (obool (cmpG' o st2 x y) st2).bind fun k st3 => if k then ((ev p c).v env st3).bind fun z st4 => obool (cmpG' o' st4 y z) st4 else .ok false st3 := rfl
@[simp ↓] theorem b_and : (ev p (.and a b)).b env st = ((ev p a).b env st).bind fun k st1 => if k then (ev p b).b env st1 else .ok false st1 := rfl
@[simp ↓] theorem b_or : (ev p (.or a b)).b env st = ((ev p a).b env st).bind fun k st1 => if k then .ok true st1 else (ev p b).b env st1 := rfl
@[simp ↓] theorem b_not : (ev p (.not a)).b env st = ((ev p a).b env st).bind fun k st1 => .ok (!k) st1 := rfl
@[simp ↓] theorem b_con {d : D} : (ev p (.con d)).b env st = bv d st := rfl
@[simp ↓] theorem b_var {i : Nat} : (ev p (.var i)).b env st = ((ev p (.var i)).v env st).bind fun d st1 => bv d st1 := rfl
@[simp ↓] theorem b_ix : (ev p (.ix a b)).b env st = ((ev p (.ix a b)).v env st).bind fun d st1 => bv d st1 := rfl
@[simp ↓] theorem b_call {f : Nat} : (ev p (.call f as)).b env st = ((ev p (.call f as)).v env st).bind fun d st1 => bv d st1 := rfl
@[simp ↓] theorem b_blt {mu : Bool} {g : Bi} : (ev p (.blt mu g as)).b env st = ((ev p (.blt mu g as)).v env st).bind fun d st1 => bv d st1 := rfl
@[simp ↓] theorem b_ite : (ev p (.ite t a b)).b env st = ((ev p (.ite t a b)).v env st).bind fun d st1 => bv d st1 := rfl
/-- what loops walk -/
@[simp ↓] theorem i_val : evI p (.val a) env st = ((ev p a).v env st).bind fun d st1 => oitems (seqD st1 d) st1 := rfl
@[simp ↓] theorem i_rng : evI p (.rng as) env st = (evs p as env st).bind fun ds st1 => oitems (rngD ds) st1 := rfl
@[simp ↓] theorem i_enu : evI p (.enu as) env st = (evs p as env st).bind fun ds st1 => oitems (enumD st1 ds) st1 := rfl
@[simp] theorem oitems_some {it : Items} : oitems (some it) st = .ok it st := rfl
/-- statements -/
def sqn (o : Fs) (f : DenS) : Fs := match o with
  | .nx e st1 => f e st1
  | o => o
@[simp ↓] theorem sqn_nx {f : DenS} : sqn (.nx env st) f = f env st := rfl
@[simp ↓] theorem sqn_ret {f : DenS} {d : D} : sqn (.ret d st) f = .ret d st := rfl
@[simp ↓] theorem sqn_brk {f : DenS} : sqn (.brk env st) f = .brk env st := rfl
@[simp ↓] theorem sqn_ct {f : DenS} : sqn (.ct env st) f = .ct env st := rfl
@[simp ↓] theorem sqn_exc {f : DenS} {x : Str} {fs : List (Str × D)} : sqn (.exc env x fs st) f = .exc env x fs st := rfl
@[simp ↓] theorem sqn_if {q : Prop} [Decidable q] {x y : Fs} {f : DenS} : sqn (if q then x else y) f = if q then sqn x f else sqn y f := by split <;> rfl
variable {u v : S} {e o i : E}
@[simp ↓] theorem x_skip : ex p .skip env st = .nx env st := rfl
@[simp ↓] theorem x_pass : ex p .pass env st = .nx env st := rfl
@[simp ↓] theorem x_brk : ex p .brk env st = .brk env st := rfl
@[simp ↓] theorem x_ct : ex p .ct env st = .ct env st := rfl
@[simp ↓] theorem x_seq : ex p (.seq u v) env st = sqn (ex p u env st) (ex p v) := rfl
@[simp ↓] theorem x_asg {tt : T} : ex p (.asg tt e) env st = ((ev p e).v env st).then env fun d st1 => ostep (tg tt d env) st1 := rfl
@[simp ↓] theorem x_asgC {k : Nat} : ex p (.asgC k e) env st = ((ev p e).v env st).then env fun d st1 => .nx (env.set k (some d)) st1 := rfl
@[simp ↓] theorem x_ret : ex p (.ret e) env st = ((ev p e).v env st).then env fun d st1 => .ret d st1 := rfl
@[simp ↓] theorem x_retN : ex p .retN env st = .ret .non st := rfl
@[simp ↓] theorem x_expr : ex p (.expr e) env st = ((ev p e).v env st).then env fun _ st1 => .nx env st1 := rfl
@[simp ↓] theorem x_ifs : ex p (.ifs e u v) env st = ((ev p e).t env st).then env fun b st1 => if b then ex p u env st1 else ex p v env st1 := rfl
def par2 (i j : Nat) (env : Env) (ds : List D) (st : Store) : Fs := match ds with
  | [v, w] => .nx ((env.set i (some v)).set j (some w)) st
  | _ => .bad
@[simp] theorem par2_of {i j : Nat} {x y : D} : par2 i j env [x, y] st = .nx ((env.set i (some x)).set j (some y)) st := rfl
@[simp ↓] theorem x_par {i j : Nat} : ex p (.par i j as) env st = (evs p as env st).then env fun ds st1 => par2 i j env ds st1 := rfl
def par3n (i j l : Nat) (env : Env) (ds : List D) (st : Store) : Fs := match ds with
  | [u, v, w] => .nx (((env.set i (some u)).set j (some v)).set l (some w)) st
  | _ => .bad
@[simp] theorem par3_of {i j l : Nat} {x y z : D} : par3n i j l env [x, y, z] st = .nx (((env.set i (some x)).set j (some y)).set l (some z)) st := rfl
@[simp ↓] theorem x_par3 {i j l : Nat} : ex p (.par3 i j l as) env st = (evs p as env st).then env fun ds st1 => par3n i j l env ds st1 := rfl
def onx (o : Option Store) (env : Env) : Fs := match o with
  | some st => .nx env st
  | none => .bad
@[simp] theorem onx_some : onx (some st) env = .nx env st := rfl
@[simp ↓] theorem x_setix : ex p (.setix o i e) env st = ((ev p e).v env st).then env fun v st1 => ((ev p o).v env st1).then env fun o st2 => ((ev p i).v env st2).then env fun i st3 => onx (gSetL st3 o i v) env := rfl
@[simp ↓] theorem x_fors {tt : T} {it : I} : ex p (.fors tt it u) env st = (evI p it env st).then env fun it st1 => forL it.2 (tg tt) (ex p u) it.1 env st1 := rfl
@[simp ↓] theorem x_whl : ex p (.whl e u) env st = sWhile (ev p e).t (ex p u) env st := rfl
@[simp] theorem tg_nm {k : Nat} {d : D} : tg (.nm k) d env = some (env.set k (some d)) := rfl
@[simp] theorem ostep_some {e1 : Env} : ostep (some e1) st = .nx e1 st := rfl
theorem tg_tup2 {k l : Nat} {d d' : D} : tg (.tup [k, l]) (.tup [d, d']) env = some ((env.set k (some d)).set l (some d')) := rfl
theorem tg_tup3 {k l m : Nat} {d d' d'' : D} : tg (.tup [k, l, m]) (.tup [d, d', d'']) env = some (((env.set k (some d)).set l (some d')).set m (some d'')) := rfl
theorem tg_tup4 {k l m n : Nat} {d d' d'' d3 : D} : tg (.tup [k, l, m, n]) (.tup [d, d', d'', d3]) env = some ((((env.set k (some d)).set l (some d')).set m (some d'')).set n (some d3)) := rfl
theorem x_augI {k : Nat} {sub : Bool} {x y : Int} {st1 : Store} (h : env[k]? = some (some (.int x))) (h1 : (ev p e).v env st = .ok (.int y) st1) : ex p (.aug k sub e) env st = .nx (env.set k (some (.int (if sub then x - y else x + y)))) st1 := by
  show sAug k (gI yes fun a b => if sub then a - b else a + b) (ev p e).v env st = _
  unfold sAug
  rw [h, h1]
  rfl
def agv (env : Env) (k : Nat) (o : Option Rv) (st : Store) : Fs := match o with
  | some (.val d) => .nx (env.set k (some d)) st
  | _ => .bad
@[simp] theorem agv_some {k : Nat} {d : D} : agv env k (some (.val d)) st = .nx (env.set k (some d)) st := rfl
@[simp] theorem gI_yes {f : Int → Int → Int} {x y : Int} : gI yes f st (.int x) (.int y) = some (.val (.int (f x y))) := rfl
@[simp ↓] theorem x_aug {k : Nat} {sub : Bool} : ex p (.aug k sub e) env st = match env[k]? with
    | some (some x) => ((ev p e).v env st).then env fun y st1 => agv env k (gI yes (fun a b => if sub then a - b else a + b) st1 x y) st1
    | _ => .bad := rfl
/-- operators on ints -/
theorem small_def {ds : List D} : (small ds = true) = (ds.length ≤ sizeLine) := dec_iff
theorem small_of {ds : List D} (h : ds.length ≤ 1000) : small ds = true := dec_eq (Nat.le_trans h (by decide))
@[simp] theorem small0 : small [] = true := small_of (by show 0 ≤ 1000; decide)
@[simp] theorem small1 {d0 : D} : small [d0] = true := small_of (by show 1 ≤ 1000; decide)
@[simp] theorem small2 {d0 d1 : D} : small [d0, d1] = true := small_of (by show 2 ≤ 1000; decide)
@[simp] theorem small3 {d0 d1 d2 : D} : small [d0, d1, d2] = true := small_of (by show 3 ≤ 1000; decide)
@[simp] theorem small4 {d0 d1 d2 d3 : D} : small [d0, d1, d2, d3] = true := small_of (by show 4 ≤ 1000; decide)
@[simp] theorem small5 {d0 d1 d2 d3 d4 : D} : small [d0, d1, d2, d3, d4] = true := small_of (by show 5 ≤ 1000; decide)
@[simp] theorem small6 {d0 d1 d2 d3 d4 d5 : D} : small [d0, d1, d2, d3, d4, d5] = true := small_of (by show 6 ≤ 1000; decide)
@[simp] theorem small7 {d0 d1 d2 d3 d4 d5 d6 : D} : small [d0, d1, d2, d3, d4, d5, d6] = true := small_of (by show 7 ≤ 1000; decide)
@[simp] theorem small8 {d0 d1 d2 d3 d4 d5 d6 d7 : D} : small [d0, d1, d2, d3, d4, d5, d6, d7] = true := small_of (by show 8 ≤ 1000; decide)
@[simp] theorem o_add {x y : Int} : binG' .Add st (.int x) (.int y) = some (.val (.int (x + y))) := rfl
@[simp] theorem o_sub {x y : Int} : binG' .Sub st (.int x) (.int y) = some (.val (.int (x - y))) := rfl
theorem o_mul {x y : Int} (h : mulOk x y) : binG' .Mult st (.int x) (.int y) = some (.val (.int (x * y))) := if_pos h
theorem o_div {x y : Int} (h : divOk x y) : binG' .FloorDiv st (.int x) (.int y) = some (.val (.int (x.fdiv y))) := if_pos h
theorem o_mod {x y : Int} (h : y ≠ 0) : binG' .Mod st (.int x) (.int y) = some (.val (.int (x.fmod y))) := if_pos h
theorem o_pow {x y : Int} (h : powOk x y) : binG' .Pow st (.int x) (.int y) = some (.val (.int (x ^ y.toNat))) := if_pos h
@[simp] theorem o_neg {x : Int} : gNeg st (.int x) = some (.val (.int (-x))) := rfl
@[simp] theorem c_lt {x y : Int} : cmpG' .Lt st (.int x) (.int y) = some (decide (x < y)) := rfl
@[simp] theorem c_le {x y : Int} : cmpG' .LtE st (.int x) (.int y) = some (decide (x ≤ y)) := rfl
@[simp] theorem c_gt {x y : Int} : cmpG' .Gt st (.int x) (.int y) = some (decide (y < x)) := rfl
@[simp] theorem c_ge {x y : Int} : cmpG' .GtE st (.int x) (.int y) = some (decide (y ≤ x)) := rfl
@[simp] theorem c_is {x : D} : cmpG' .Is st x .non = some (isNonD x) := rfl
@[simp] theorem c_isnot {x : D} : cmpG' .IsNot st x .non = some (!isNonD x) := rfl
@[simp] theorem nonD_non : isNonD .non = true := rfl
@[simp] theorem nonD_int {x : Int} : isNonD (.int x) = false := rfl
@[simp] theorem nonD_bl {x : Bool} : isNonD (.bl x) = false := rfl
@[simp] theorem nonD_tup {x : List D} : isNonD (.tup x) = false := rfl
@[simp] theorem nonD_lst {x : List D} : isNonD (.lst x) = false := rfl
theorem eqv_int (x y : Int) : PyData.eqv (.int x) (.int y) = decide (x = y) := by
  simp [PyData.eqv]
  rfl
theorem eqv_bool (x y : Bool) : PyData.eqv (.bool x) (.bool y) = (x == y) := by
  cases x <;> cases y <;> decide
@[simp] theorem c_eqI {x y : Int} : cmpG' .Eq st (.int x) (.int y) = some (decide (x = y)) := congrArg some (eqv_int x y)
@[simp] theorem c_neI {x y : Int} : cmpG' .NotEq st (.int x) (.int y) = some (!decide (x = y)) := congrArg (fun b => some (!b)) (eqv_int x y)
@[simp] theorem c_eqB {x y : Bool} : cmpG' .Eq st (.bl x) (.bl y) = some (x == y) := congrArg some (eqv_bool x y)
@[simp] theorem c_neB {x y : Bool} : cmpG' .NotEq st (.bl x) (.bl y) = some (!(x == y)) := congrArg (fun b => some (!b)) (eqv_bool x y)
@[simp] theorem tru_bl {x : Bool} : truD st (.bl x) = some x := rfl
@[simp] theorem tru_int {x : Int} : truD st (.int x) = some (x != 0) := rfl
@[simp] theorem tru_non : truD st .non = some false := rfl
@[simp] theorem tru_tup {ds : List D} : truD st (.tup ds) = some (!ds.isEmpty) := rfl
@[simp] theorem tru_lst {ds : List D} : truD st (.lst ds) = some (!ds.isEmpty) := rfl
@[simp] theorem len_tup {ds : List D} : Bi.g .len st [.tup ds] = some (.val (.int ds.length)) := rfl
@[simp] theorem len_lst {ds : List D} : Bi.g .len st [.lst ds] = some (.val (.int ds.length)) := rfl
@[simp] theorem len_frl {ds : List D} : Bi.g .len st [.frl ds] = some (.val (.int ds.length)) := rfl
theorem len_cell {ds : List D} {n : Nat} (h : st[n]? = some (.lst ds)) : Bi.g .len st [.cell n] = some (.val (.int ds.length)) := by
  show gLen st (.cell n) = _
  unfold gLen
  simp only [h]
@[simp] theorem int_int {x : Int} : Bi.g .int st [.int x] = some (.val (.int x)) := rfl
@[simp] theorem max_int {x y : Int} : Bi.g .max2 st [.int x, .int y] = some (.val (.int (if y > x then y else x))) := rfl
@[simp] theorem min_int {x y : Int} : Bi.g .min2 st [.int x, .int y] = some (.val (.int (if y < x then y else x))) := rfl
@[simp] theorem gcd_int {x y : Int} : Bi.g .gcd st [.int x, .int y] = some (.val (.int (gcdI x y))) := rfl
theorem comb_int {x y : Int} (h : combOk x y) : Bi.g .comb st [.int x, .int y] = some (.val (.int (PySem.W.mcComb x y))) := if_pos h
@[simp] theorem tup_tup {ds : List D} : Bi.g .tuple st [.tup ds] = some (.val (.tup ds)) := rfl
@[simp] theorem tup_lst {ds : List D} : Bi.g .tuple st [.lst ds] = some (.val (.tup ds)) := rfl
@[simp] theorem tup_frl {ds : List D} : Bi.g .tuple st [.frl ds] = some (.val (.tup ds)) := rfl
theorem isi_one {x : D} {n t : String} {r : Bool} (h : tyD st x = some t) (h2 : kitB t n = some r) : Bi.g .isi st [x, .ty n] = some (.val (.bl r)) := by
  show gIsi st x (.ty n) = _
  unfold gIsi
  rw [h]
  simp only [h2]
@[simp] theorem isi_int_int {x : Int} : Bi.g .isi st [.int x, .ty "int"] = some (.val (.bl true)) := isi_one rfl (by decide +kernel)
@[simp] theorem isi_int_bool {x : Int} : Bi.g .isi st [.int x, .ty "bool"] = some (.val (.bl false)) := isi_one rfl (by decide +kernel)
@[simp] theorem isi_int_str {x : Int} : Bi.g .isi st [.int x, .ty "str"] = some (.val (.bl false)) := isi_one rfl (by decide +kernel)
@[simp] theorem isi_int_list {x : Int} : Bi.g .isi st [.int x, .ty "list"] = some (.val (.bl false)) := isi_one rfl (by decide +kernel)
@[simp] theorem isi_int_tuple {x : Int} : Bi.g .isi st [.int x, .ty "tuple"] = some (.val (.bl false)) := isi_one rfl (by decide +kernel)
@[simp] theorem isi_bl_int {x : Bool} : Bi.g .isi st [.bl x, .ty "int"] = some (.val (.bl true)) := isi_one rfl (by decide +kernel)
@[simp] theorem isi_bl_bool {x : Bool} : Bi.g .isi st [.bl x, .ty "bool"] = some (.val (.bl true)) := isi_one rfl (by decide +kernel)
@[simp] theorem isi_bl_str {x : Bool} : Bi.g .isi st [.bl x, .ty "str"] = some (.val (.bl false)) := isi_one rfl (by decide +kernel)
@[simp] theorem isi_tup_tup {x : List D} : Bi.g .isi st [.tup x, .ty "tuple"] = some (.val (.bl true)) := isi_one rfl (by decide +kernel)
@[simp] theorem isi_tup_lst {x : List D} : Bi.g .isi st [.tup x, .ty "list"] = some (.val (.bl false)) := isi_one rfl (by decide +kernel)
@[simp] theorem isi_lst_lst {x : List D} : Bi.g .isi st [.lst x, .ty "list"] = some (.val (.bl true)) := isi_one rfl (by decide +kernel)
@[simp] theorem isi_lst_tup {x : List D} : Bi.g .isi st [.lst x, .ty "tuple"] = some (.val (.bl false)) := isi_one rfl (by decide +kernel)
theorem isi_two {x : D} {n m t : String} {r r' : Bool} (h : tyD st x = some t) (h2 : kitB t n = some r) (h3 : kitB t m = some r') : Bi.g .isi st [x, .tup [.ty n, .ty m]] = some (.val (.bl (r || r'))) := by
  show gIsi st x (.tup [.ty n, .ty m]) = _
  unfold gIsi
  rw [h]
  have e : kitL t [n, m] = some (r || r') := by
    unfold kitL
    rw [h2]
    cases r
    · unfold kitL
      rw [h3]
      cases r' <;> rfl
    · rfl
  simp only [tysOf, e]
@[simp] theorem isi_int_seq {x : Int} : Bi.g .isi st [.int x, .tup [.ty "tuple", .ty "list"]] = some (.val (.bl false)) := isi_two (r := false) (r' := false) rfl (by decide +kernel) (by decide +kernel)
@[simp] theorem isi_bl_seq {x : Bool} : Bi.g .isi st [.bl x, .tup [.ty "tuple", .ty "list"]] = some (.val (.bl false)) := isi_two (r := false) (r' := false) rfl (by decide +kernel) (by decide +kernel)
@[simp] theorem isi_tup_seq {x : List D} : Bi.g .isi st [.tup x, .tup [.ty "tuple", .ty "list"]] = some (.val (.bl true)) := isi_two (r := true) (r' := false) rfl (by decide +kernel) (by decide +kernel)
@[simp] theorem isi_lst_seq {x : List D} : Bi.g .isi st [.lst x, .tup [.ty "tuple", .ty "list"]] = some (.val (.bl true)) := isi_two (r := false) (r' := true) rfl (by decide +kernel) (by decide +kernel)
end
end
end L2.PyD
/-! PyD, part 15: loops by invariants, leaving a def, the law's row. -/
namespace L2.PyD
open PySem PySem.Spec PyProof.Rows
noncomputable section

theorem forL_nx {src : Option (Nat × Cell)} {g : DenT} {b : DenS} {xs : List D} (I : Nat → Env → Store → Prop) (hs : ∀ i x env st, xs[i]? = some x → I i env st → ∃ e1, g x env = some e1 ∧ ∃ e2 st2, (b e1 st = .nx e2 st2 ∨ b e1 st = .ct e2 st2) ∧ Gd src st2 ∧ I (i + 1) e2 st2) :
    ∀ (env : Env) (st : Store), I 0 env st → ∃ e' st', forL src g b xs env st = .nx e' st' ∧ I xs.length e' st' := by
  induction xs generalizing I with
  | nil => exact fun env st h => ⟨env, st, rfl, h⟩
  | cons x xs ih =>
    intro env st h
    obtain ⟨e1, h1, e2, st2, h2, h3, h4⟩ := hs 0 x env st rfl h
    obtain ⟨e', st', h5, h6⟩ := ih (fun i => I (i + 1)) (fun i y env st hy hi => hs (i + 1) y env st hy hi) e2 st2 h4
    refine ⟨e', st', ?_, h6⟩
    unfold forL
    rw [h1]
    rcases h2 with h2 | h2
    · simp only [h2, if_pos h3]; exact h5
    · simp only [h2, if_pos h3]; exact h5
theorem while_nx {t : DenB} {b : DenS} (I : Nat → Env → Store → Prop) (Q : Env → Store → Prop) (hs : ∀ n env st, I n env st → (∃ st1, t env st = .ok false st1 ∧ Q env st1) ∨ ∃ st1 e2 st2 m, t env st = .ok true st1 ∧ (((b env st1 = .nx e2 st2 ∨ b env st1 = .ct e2 st2) ∧ m < n ∧ I m e2 st2) ∨ (b env st1 = .brk e2 st2 ∧ Q e2 st2))) :
    ∀ (n : Nat) (env : Env) (st : Store), I n env st → ∃ e' st', sWhile t b env st = .nx e' st' ∧ Q e' st' := by
  intro n
  induction n using Nat.strongRecOn with
  | ind n ih =>
    intro env st h
    rcases hs n env st h with ⟨st1, h1, h2⟩ | ⟨st1, e2, st2, m, h1, h2⟩
    · exact ⟨env, st1, by rw [sWhile_eq, h1]; rfl, h2⟩
    · rcases h2 with ⟨h2, h3, h4⟩ | ⟨h2, h3⟩
      · obtain ⟨e', st', h5, h6⟩ := ih m h3 e2 st2 h4
        refine ⟨e', st', ?_, h6⟩
        rw [sWhile_eq, h1]
        rcases h2 with h2 | h2
        · simp only [othen_ok, if_true, h2]; exact h5
        · simp only [othen_ok, if_true, h2]; exact h5
      · exact ⟨e2, st2, by rw [sWhile_eq, h1]; simp only [othen_ok, if_true, h2], h3⟩

/-! ### leaving -/
theorem closed_of {st0 s : Store} (h : st0.length ≤ s.length) (hc : ∀ (i : Nat) (c : Cell), s[i]? = some c → i < st0.length → st0[i]? = some c ∨ c.undr st0.length = true) : Closed st0 s := by
  refine ⟨h, fun c m => ?_⟩
  obtain ⟨i, e⟩ := List.mem_iff_getElem?.mp m
  have hi : i < st0.length := by
    have := (List.getElem?_eq_some_iff.mp e).1
    rw [List.length_take] at this
    omega
  rw [List.getElem?_take_of_lt hi] at e
  rcases hc i c e hi with h | h
  · exact .inl (List.mem_of_getElem? h)
  · exact .inr h
theorem closed_app (st0 t : Store) : Closed st0 (st0 ++ t) := closed_of (by simp) fun i c e hi => .inl (by rw [List.getElem?_append_left hi] at e; exact e)
theorem closed_self (st0 : Store) : Closed st0 st0 := closed_of (Nat.le_refl _) fun i c e hi => .inl e
theorem closed_set {st0 : Store} {j : Nat} {c : Cell} (h : c.undr st0.length = true) (t : Store) : Closed st0 (st0.set j c ++ t) := closed_of (by simp) fun i d e hi => by
  rw [List.getElem?_append_left (by simpa using hi), List.getElem?_set] at e
  split at e
  · split at e
    · cases e; exact .inr h
    · cases e
  · exact .inl e
theorem leave_top {st0 s : Store} {d : D} (hc : Closed st0 s) (hd : d.undr st0.length = true) : leave st0 s d = .ok d (s.take st0.length) := by
  have e : frz s st0.length frzDepth d = some d := by
    show frz s st0.length 6 d = some d
    unfold frz
    rw [if_pos hd]
  unfold leave
  rw [if_pos hc, e]
@[simp] theorem leave_int {st0 : Store} {i : Int} : leave st0 st0 (.int i) = .ok (.int i) st0 := by rw [leave_top (closed_self _) rfl, List.take_length]
@[simp] theorem leave_bl {st0 : Store} {i : Bool} : leave st0 st0 (.bl i) = .ok (.bl i) st0 := by rw [leave_top (closed_self _) rfl, List.take_length]
@[simp] theorem leave_non {st0 : Store} : leave st0 st0 .non = .ok .non st0 := by rw [leave_top (closed_self _) rfl, List.take_length]
theorem leave_self {st0 : Store} {d : D} (hd : d.undr st0.length = true) : leave st0 st0 d = .ok d st0 := by rw [leave_top (closed_self _) hd, List.take_length]
@[simp] theorem leave_intA {st0 t : Store} {i : Int} : leave st0 (st0 ++ t) (.int i) = .ok (.int i) st0 := by rw [leave_top (closed_app _ _) rfl, List.take_left]
@[simp] theorem leave_blA {st0 t : Store} {i : Bool} : leave st0 (st0 ++ t) (.bl i) = .ok (.bl i) st0 := by rw [leave_top (closed_app _ _) rfl, List.take_left]
@[simp] theorem leave_nonA {st0 t : Store} : leave st0 (st0 ++ t) .non = .ok .non st0 := by rw [leave_top (closed_app _ _) rfl, List.take_left]
theorem leave_A {st0 t : Store} {d : D} (hd : d.undr st0.length = true) : leave st0 (st0 ++ t) d = .ok d st0 := by rw [leave_top (closed_app _ _) hd, List.take_left]
theorem leave_set {st0 : Store} {j : Nat} {c : Cell} {d : D} (h : c.undr st0.length = true) (hd : d.undr st0.length = true) : leave st0 (st0.set j c) d = .ok d (st0.set j c) := by
  have := leave_top (closed_set (j := j) h []) hd
  rw [List.append_nil] at this
  rw [this, List.take_of_length_le (by simp)]
theorem undrL_ints (n : Nat) : ∀ ns : List Int, D.undrL n (ns.map D.int) = true
  | [] => rfl
  | _ :: r => by
    rw [List.map_cons]
    unfold D.undrL
    rw [undrL_ints n r]
    rfl
theorem undrL_all {n : Nat} : ∀ {ds : List D}, (∀ d ∈ ds, d.undr n = true) → D.undrL n ds = true
  | [], _ => rfl
  | d :: r, h => by
    unfold D.undrL
    rw [h d (List.mem_cons_self ..), undrL_all fun x m => h x (List.mem_cons_of_mem _ m)]
    rfl
theorem undrL_mem {n : Nat} : ∀ {ds : List D}, D.undrL n ds = true → ∀ d ∈ ds, d.undr n = true
  | e :: r, h, d, m => by
    unfold D.undrL at h
    rw [Bool.and_eq_true] at h
    rcases List.mem_cons.mp m with q | m
    · subst q; exact h.1
    · exact undrL_mem h.2 d m
theorem frz_flat {s : Store} {n k : Nat} {d : D} (h : d.undr n = true) : frz s n k d = some d := by
  cases k with
  | zero => unfold frz; rw [if_pos h]
  | succ k => unfold frz; rw [if_pos h]
theorem mapO_id {f : D → Option D} : ∀ {ds : List D}, (∀ d ∈ ds, f d = some d) → mapO f ds = some ds
  | [], _ => rfl
  | d :: r, h => by
    unfold mapO
    rw [h d (List.mem_cons_self ..), mapO_id fun x m => h x (List.mem_cons_of_mem _ m)]
/-- an own list is given back: it stands still -/
theorem leave_cell {st0 t : Store} {j : Nat} {ds : List D} (hj : st0.length ≤ j) (e : (st0 ++ t)[j]? = some (.lst ds)) (hd : D.undrL st0.length ds = true) : leave st0 (st0 ++ t) (.cell j) = .ok (.lst ds) st0 := by
  have e2 : frz (st0 ++ t) st0.length frzDepth (.cell j) = some (.lst ds) := by
    show frz (st0 ++ t) st0.length 6 (.cell j) = some (.lst ds)
    unfold frz
    have : ¬ (D.cell j).undr st0.length = true := by
      unfold D.undr
      simp only [decide_eq_true_eq]
      omega
    rw [if_neg this]
    simp only [e]
    rw [mapO_id fun d m => frz_flat (undrL_mem hd d m)]
    rfl
  unfold leave
  rw [if_pos (closed_app _ _), e2]
  simp only [List.take_left]
theorem give_new {st1 : Store} {ds : List D} (hd : D.undrL st1.length ds = true) : give false st1 (st1 ++ [.lst ds]) = .ok (.lst ds) st1 := by
  unfold give
  simp only [Bool.false_eq_true, if_false]
  exact leave_cell (Nat.le_refl _) (by simp) hd
@[simp] theorem give_mut {st1 s : Store} : give true st1 s = .ok (.cell st1.length) s := rfl

/-! ### comprehensions -/
theorem push_last {st1 : Store} {acc : List D} {y : D} (h : acc.length < sizeLine) : push st1.length y (st1 ++ [.lst acc]) = some (st1 ++ [.lst (acc ++ [y])]) := by
  unfold push
  have : (st1 ++ [Cell.lst acc])[st1.length]? = some (.lst acc) := by simp
  rw [this]
  simp only [if_pos (dec_eq h)]
  rw [List.set_append_right _ _ (Nat.le_refl _), Nat.sub_self]
  rfl
theorem compL_inv {src : Option (Nat × Cell)} {env0 : Env} {g : DenT} {c : DenB} {e : Den} {n : Nat} {xs : List D} (J : Nat → List D → Store → Prop)
    (hs : ∀ i x acc st, xs[i]? = some x → st.length = n → acc.length ≤ i → J i acc st → ∃ e1, g x env0 = some e1 ∧ ∃ b st2, c e1 (st ++ [.lst acc]) = .ok b (st2 ++ [.lst acc]) ∧ st2.length = n ∧ (b = false → Gd src (st2 ++ [.lst acc]) ∧ J (i + 1) acc st2) ∧
      (b = true → ∃ y st3, e e1 (st2 ++ [.lst acc]) = .ok y (st3 ++ [.lst acc]) ∧ st3.length = n ∧ Gd src (st3 ++ [.lst (acc ++ [y])]) ∧ J (i + 1) (acc ++ [y]) st3)) :
    ∀ st : Store, st.length = n → xs.length ≤ sizeLine → J 0 [] st → ∃ acc' st', compL n src env0 g c e xs (st ++ [.lst []]) = .ok () (st' ++ [.lst acc']) ∧ st'.length = n ∧ J xs.length acc' st' := by
  intro st hn hz hJ
  have go : ∀ (xs : List D) (j : Nat) (J : Nat → List D → Store → Prop), (∀ i x acc st, xs[i]? = some x → st.length = n → acc.length ≤ j + i → J i acc st → ∃ e1, g x env0 = some e1 ∧ ∃ b st2, c e1 (st ++ [.lst acc]) = .ok b (st2 ++ [.lst acc]) ∧ st2.length = n ∧ (b = false → Gd src (st2 ++ [.lst acc]) ∧ J (i + 1) acc st2) ∧
      (b = true → ∃ y st3, e e1 (st2 ++ [.lst acc]) = .ok y (st3 ++ [.lst acc]) ∧ st3.length = n ∧ Gd src (st3 ++ [.lst (acc ++ [y])]) ∧ J (i + 1) (acc ++ [y]) st3)) → ∀ (acc : List D) (st : Store), st.length = n → acc.length ≤ j → j + xs.length ≤ sizeLine → J 0 acc st → ∃ acc' st', compL n src env0 g c e xs (st ++ [.lst acc]) = .ok () (st' ++ [.lst acc']) ∧ st'.length = n ∧ J xs.length acc' st' := by
    intro xs
    induction xs with
    | nil => exact fun j J hs acc st hn hk hz hJ => ⟨acc, st, rfl, hn, hJ⟩
    | cons x xs ih =>
      intro j J hs acc st hn hk hz hJ
      rw [List.length_cons] at hz
      obtain ⟨e1, h1, b, st2, h2, h3, h4, h5⟩ := hs 0 x acc st rfl hn hk hJ
      have hs' : ∀ i y acc st, xs[i]? = some y → st.length = n → acc.length ≤ j + 1 + i → J (i + 1) acc st → ∃ e1, g y env0 = some e1 ∧ ∃ b st2, c e1 (st ++ [.lst acc]) = .ok b (st2 ++ [.lst acc]) ∧ st2.length = n ∧ (b = false → Gd src (st2 ++ [.lst acc]) ∧ J (i + 1 + 1) acc st2) ∧
      (b = true → ∃ y st3, e e1 (st2 ++ [.lst acc]) = .ok y (st3 ++ [.lst acc]) ∧ st3.length = n ∧ Gd src (st3 ++ [.lst (acc ++ [y])]) ∧ J (i + 1 + 1) (acc ++ [y]) st3) := fun i y acc st hy hn hl hj => hs (i + 1) y acc st hy hn (by omega) hj
      unfold compL
      rw [h1]
      simp only [h2, onox_ok, obind_ok]
      cases b with
      | false =>
        obtain ⟨g1, g2⟩ := h4 rfl
        obtain ⟨acc', st', q1, q2, q3⟩ := ih (j + 1) (fun i => J (i + 1)) hs' acc st2 h3 (by omega) (by omega) g2
        exact ⟨acc', st', by simp only [Bool.false_eq_true, if_false, if_pos g1]; exact q1, q2, q3⟩
      | true =>
        obtain ⟨y, st3, g0, g1, g2, g3⟩ := h5 rfl
        obtain ⟨acc', st', q1, q2, q3⟩ := ih (j + 1) (fun i => J (i + 1)) hs' (acc ++ [y]) st3 g1 (by rw [List.length_append]; exact Nat.add_le_add_right hk 1) (by omega) g3
        refine ⟨acc', st', ?_, q2, q3⟩
        have hp : push n y (st3 ++ [.lst acc]) = some (st3 ++ [.lst (acc ++ [y])]) := by
          rw [← g1]
          exact push_last (by omega)
        simp only [if_true, g0, onox_ok, obind_ok, hp, if_pos g2]
        exact q1
  exact go xs 0 J (fun i x acc st hx hn hl hj => hs i x acc st hx hn (by omega) hj) [] st hn (Nat.zero_le _) (by omega) hJ
theorem callN_eq {G : Nat → D} {tbl : List Fd} {k i : Nat} {f : Fd} (h : tbl[i]? = some f) (ds : List D) (st : Store) : callN G tbl (k + 1) i ds st = dBody f.N.length (ex ⟨callN G tbl k, G⟩ f.body) ds st := by
  show (match tbl[i]? with
    | some f => dBody f.N.length (ex ⟨callN G tbl k, G⟩ f.body)
    | none => fun _ _ => .bad) ds st = _
  rw [h]
/-- how a def ends -/
noncomputable def out (st : Store) : Fs → Out D
  | .ret d s => leave st s d
  | .nx _ s => leave st s .non
  | .exc _ x fs s => leaveX st s x fs
  | _ => .bad
@[simp ↓] theorem out_ret {st s : Store} {d : D} : out st (.ret d s) = leave st s d := rfl
@[simp ↓] theorem out_nx {st s : Store} {e : Env} : out st (.nx e s) = leave st s .non := rfl
@[simp ↓] theorem out_exc {st s : Store} {e : Env} {x : Str} {fs : List (Str × D)} : out st (.exc e x fs s) = leaveX st s x fs := rfl
@[simp ↓] theorem out_if {st : Store} {q : Prop} [Decidable q] {x y : Fs} : out st (if q then x else y) = if q then out st x else out st y := by split <;> rfl
theorem dBody_eq (n : Nat) (b : DenS) (ds : List D) (st : Store) : dBody n b ds st = out st (b (startE n ds) st) := by
  unfold dBody out
  cases b (startE n ds) st <;> rfl
theorem call_eq {G : Nat → D} {tbl : List Fd} {k i : Nat} {f : Fd} (h : tbl[i]? = some f) (ds : List D) (st : Store) : callN G tbl (k + 1) i ds st = out st (ex ⟨callN G tbl k, G⟩ f.body (startE f.N.length ds) st) := by
  rw [callN_eq h, dBody_eq]

/-! ### the law's row -/
def rowC (ns : List Int) (i s t : Int) : Cell := .lst [.frl (ns.map D.int), .int i, .int s, .int t]
structure Row (ns : List Int) (st : Store) (c : Nat) : Prop where
  ex : ∃ i s t : Int, st[c]? = some (rowC ns i s t) ∧ 0 ≤ i ∧ 0 ≤ s ∧ s < 2147483647
def B_taken : S :=
  .seq (.ifs (.cmp .Gt (.ix (.var 0) (.con (.int 3))) (.con (.int 0))) (.seq (.asg (.nm 3) (.bin false .Mod (.blt false .int (.cons (.ix (.var 0) (.con (.int 3))) .nil)) (.var 1)))
  (.seq (.setix (.var 0) (.con (.int 3)) (.bin false .FloorDiv (.ix (.var 0) (.con (.int 3))) (.var 1))) (.seq (.ret (.var 3)) .skip))) (.skip))
  (.seq (.setix (.var 0) (.con (.int 1)) (.bin false .Add (.ix (.var 0) (.con (.int 1))) (.con (.int 1))))
  (.seq (.ifs (.cmp .Gt (.ix (.var 0) (.con (.int 1))) (.blt false .len (.cons (.ix (.var 0) (.con (.int 0))) .nil))) (.seq (.setix (.var 0) (.con (.int 2)) (.bin false .Mod (.blt false .int (.cons (.bin false .Add (.bin false .Mult (.ix (.var 0) (.con (.int 2))) (.con (.int 48271))) (.con (.int 11))) .nil)) (.con (.int 2147483647))))
  (.seq (.ret (.bin false .Mod (.blt false .int (.cons (.bin false .FloorDiv (.ix (.var 0) (.con (.int 2))) (.con (.int 7))) .nil)) (.var 1))) .skip)) (.skip))
  (.seq (.asg (.nm 2) (.ix (.ix (.var 0) (.con (.int 0))) (.bin false .Sub (.ix (.var 0) (.con (.int 1))) (.con (.int 1)))))
  (.seq (.setix (.var 0) (.con (.int 2)) (.bin false .Mod (.blt false .int (.cons (.bin false .Add (.bin false .Add (.bin false .Mult (.ix (.var 0) (.con (.int 2))) (.con (.int 48271))) (.var 2)) (.con (.int 11))) .nil)) (.con (.int 2147483647))))
  (.seq (.ifs (.cmp .GtE (.var 2) (.bin false .Pow (.con (.int 10)) (.con (.int 18)))) (.seq (.setix (.var 0) (.con (.int 3)) (.bin false .FloorDiv (.var 2) (.var 1))) .skip) (.skip))
  (.seq (.ret (.bin false .Mod (.blt false .int (.cons (.var 2) .nil)) (.var 1))) .skip))))))
section
variable {st : Store} {c : Nat} {ns : List Int} {i s t : Int}
theorem ix_row0 (h : st[c]? = some (rowC ns i s t)) : gIx st (.cell c) (.int 0) = some (.val (.frl (ns.map D.int))) := by
  unfold gIx seqD
  simp only [h, rowC]
  rfl
theorem ix_row1 (h : st[c]? = some (rowC ns i s t)) : gIx st (.cell c) (.int 1) = some (.val (.int i)) := by
  unfold gIx seqD
  simp only [h, rowC]
  rfl
theorem ix_row2 (h : st[c]? = some (rowC ns i s t)) : gIx st (.cell c) (.int 2) = some (.val (.int s)) := by
  unfold gIx seqD
  simp only [h, rowC]
  rfl
theorem ix_row3 (h : st[c]? = some (rowC ns i s t)) : gIx st (.cell c) (.int 3) = some (.val (.int t)) := by
  unfold gIx seqD
  simp only [h, rowC]
  rfl
theorem set_row1 {x : Int} (h : st[c]? = some (rowC ns i s t)) : gSetL st (.cell c) (.int 1) (.int x) = some (st.set c (rowC ns x s t)) := by
  unfold gSetL
  simp only [h, rowC]
  rfl
theorem set_row2 {x : Int} (h : st[c]? = some (rowC ns i s t)) : gSetL st (.cell c) (.int 2) (.int x) = some (st.set c (rowC ns i x t)) := by
  unfold gSetL
  simp only [h, rowC]
  rfl
theorem set_row3 {x : Int} (h : st[c]? = some (rowC ns i s t)) : gSetL st (.cell c) (.int 3) (.int x) = some (st.set c (rowC ns i s x)) := by
  unfold gSetL
  simp only [h, rowC]
  rfl
theorem get_set {x : Cell} (h : st[c]? = some x) (y : Cell) : (st.set c y)[c]? = some y := by
  rw [List.getElem?_set_self (List.getElem?_eq_some_iff.mp h).1]
theorem row_undr (n : Nat) : (rowC ns i s t).undr n = true := by
  show (D.undrL n (ns.map D.int) && (true && (true && (true && true)))) = true
  rw [undrL_ints]
  rfl
end
end
end L2.PyD
/-! PyD, part 16: the law's own helpers. -/
namespace L2.PyD
open PySem PySem.Spec PyProof.Rows
noncomputable section
theorem divOk_small {x m : Int} (h0 : 0 < m) (h1 : m < 2 ^ 64) : divOk x m := by
  refine ⟨by omega, ?_⟩
  have h2 : m.natAbs < 2 ^ 64 := by omega
  have h3 : m.natAbs ≠ 0 := by omega
  have := (Nat.log2_lt h3).mpr h2
  omega
theorem pow18 : powOk 10 18 := ⟨by decide, by decide⟩
theorem ten18 : (10 : Int) ^ (18 : Int).toNat = 1000000000000000000 := by decide
theorem ix_frl {st : Store} {ns : List Int} {i : Int} (h0 : 0 ≤ i) (h1 : i < ns.length) : gIx st (.frl (ns.map D.int)) (.int i) = some (.val (.int (ns[i.toNat]'(by omega)))) := by
  unfold gIx seqD
  have e : atI (ns.map D.int) i = some (.int (ns[i.toNat]'(by omega))) := by
    unfold atI ixN
    rw [if_pos h0, if_pos (by simpa using h1)]
    show (ns.map D.int)[i.toNat]? = _
    rw [List.getElem?_map, List.getElem?_eq_getElem (by omega)]
    rfl
  simp only [e]
theorem leave_row {st : Store} {c : Nat} {ns : List Int} {i s t x : Int} : leave st (st.set c (rowC ns i s t)) (.int x) = .ok (.int x) (st.set c (rowC ns i s t)) := leave_set (row_undr _) rfl
theorem taken_ok {G : Nat → D} {tbl : List Fd} {k j : Nat} {f : Fd} (hf : tbl[j]? = some f) (hb : f.body = B_taken) (hN : f.N.length = 4) {ns : List Int} {st : Store} {c : Nat} {m : Int} (R : Row ns st c) (h0 : 0 < m) (h1 : m < 2 ^ 64) :
    ∃ (v : Int) (r' : Cell), callN G tbl (k + 1) j [.cell c, .int m] st = .ok (.int v) (st.set c r') ∧ Row ns (st.set c r') c ∧ 0 ≤ v ∧ v < m := by
  obtain ⟨i, s, t, e, hi, hs, hs2⟩ := R.ex
  have hm : m ≠ 0 := by omega
  have hd : ∀ x, divOk x m := fun x => divOk_small h0 h1
  rw [call_eq hf, hb, hN]
  have e0 : startE 4 [.cell c, .int m] = [some (.cell c), some (.int m), none, none] := rfl
  rw [e0]
  unfold B_taken
  have hp : (0 : Int) < 2147483647 := by decide
  have hml : ∀ x y : Int, 0 ≤ x → x < 2147483647 → mulOk x y := fun x y h1 h2 => .inl (.inl (by omega))
  by_cases ht : 0 < t
  · refine ⟨t.fmod m, rowC ns i s (t.fdiv m), ?_, ⟨i, s, t.fdiv m, get_set e _, hi, hs, hs2⟩, Int.fmod_nonneg_of_pos _ h0, Int.fmod_lt_of_pos _ h0⟩
    simp [ix_row3 e, ht, o_mod hm, o_div (hd t), set_row3 e, leave_row]
  · have e1 := get_set e (rowC ns (i + 1) s t)
    by_cases hl : (ns.length : Int) < i + 1
    · refine ⟨(((s * 48271 + 11).fmod 2147483647).fdiv 7).fmod m, rowC ns (i + 1) ((s * 48271 + 11).fmod 2147483647) t, ?_, ⟨_, _, _, get_set e _, by omega, Int.fmod_nonneg_of_pos _ hp, Int.fmod_lt_of_pos _ hp⟩, Int.fmod_nonneg_of_pos _ h0, Int.fmod_lt_of_pos _ h0⟩
      have e2 := get_set e1 (rowC ns (i + 1) ((s * 48271 + 11).fmod 2147483647) t)
      rw [List.set_set] at e2
      simp [ix_row3 e, ht, ix_row1 e, set_row1 e, ix_row1 e1, ix_row0 e1, hl, ix_row2 e1, o_mul (hml s 48271 hs hs2), o_mod (x := s * 48271 + 11) (y := 2147483647) (by decide), set_row2 e1, ix_row2 e2, o_div (divOk_small (x := (s * 48271 + 11).fmod 2147483647) (m := 7) (by decide) (by decide)), o_mod hm, List.set_set, leave_row]
    · obtain ⟨u, hu⟩ : ∃ u, u = ns[i.toNat]'(by omega) := ⟨_, rfl⟩
      have hx := ix_frl (st := st.set c (rowC ns (i + 1) s t)) (ns := ns) (i := i) hi (by omega)
      rw [← hu] at hx
      have e2 := get_set e1 (rowC ns (i + 1) ((s * 48271 + u + 11).fmod 2147483647) t)
      rw [List.set_set] at e2
      by_cases hc : 1000000000000000000 ≤ u
      · refine ⟨u.fmod m, rowC ns (i + 1) ((s * 48271 + u + 11).fmod 2147483647) (u.fdiv m), ?_, ⟨_, _, _, get_set e _, by omega, Int.fmod_nonneg_of_pos _ hp, Int.fmod_lt_of_pos _ hp⟩, Int.fmod_nonneg_of_pos _ h0, Int.fmod_lt_of_pos _ h0⟩
        simp [ix_row3 e, ht, ix_row1 e, set_row1 e, ix_row1 e1, ix_row0 e1, hl, ix_row2 e1, hx, Int.add_sub_cancel, o_mul (hml s 48271 hs hs2), o_mod (x := s * 48271 + u + 11) (y := 2147483647) (by decide), set_row2 e1, ix_row2 e2, o_pow pow18, ten18, hc, o_div (hd u), set_row3 e2, o_mod hm, List.set_set, leave_row]
      · refine ⟨u.fmod m, rowC ns (i + 1) ((s * 48271 + u + 11).fmod 2147483647) t, ?_, ⟨_, _, _, get_set e _, by omega, Int.fmod_nonneg_of_pos _ hp, Int.fmod_lt_of_pos _ hp⟩, Int.fmod_nonneg_of_pos _ h0, Int.fmod_lt_of_pos _ h0⟩
        simp [ix_row3 e, ht, ix_row1 e, set_row1 e, ix_row1 e1, ix_row0 e1, hl, ix_row2 e1, hx, Int.add_sub_cancel, o_mul (hml s 48271 hs hs2), o_mod (x := s * 48271 + u + 11) (y := 2147483647) (by decide), set_row2 e1, ix_row2 e2, o_pow pow18, ten18, hc, o_mod hm, List.set_set, leave_row]
end
end L2.PyD
/-! Binomials, and the growth of a number by its expansion. -/
namespace L2.PyD
open PySem
def ch : Nat → Nat → Nat
  | _, 0 => 1
  | 0, _ + 1 => 0
  | n + 1, k + 1 => ch n k + ch n (k + 1)
@[simp] theorem ch_zero (n : Nat) : ch n 0 = 1 := by cases n <;> rfl
theorem ch_succ (n k : Nat) : ch (n + 1) (k + 1) = ch n k + ch n (k + 1) := rfl
theorem ch_lt : ∀ (n k : Nat), n < k → ch n k = 0
  | 0, k + 1, _ => rfl
  | n + 1, k + 1, h => by rw [ch_succ, ch_lt n k (by omega), ch_lt n (k + 1) (by omega)]
theorem ch_self : ∀ n : Nat, ch n n = 1
  | 0 => rfl
  | n + 1 => by rw [ch_succ, ch_self n, ch_lt n (n + 1) (by omega)]
@[simp] theorem ch_one : ∀ n : Nat, ch n 1 = n
  | 0 => rfl
  | n + 1 => by rw [ch_succ, ch_one n, ch_zero, Nat.add_comm]
theorem ch_pos : ∀ (n k : Nat), k ≤ n → 1 ≤ ch n k
  | _, 0, _ => by simp
  | n + 1, k + 1, h => by rw [ch_succ]; have := ch_pos n k (by omega); omega
theorem ch_up (n k : Nat) : ch n k ≤ ch (n + 1) k := by
  cases k with
  | zero => simp
  | succ k => rw [ch_succ]; omega
theorem ch_mono {n m : Nat} (h : n ≤ m) (k : Nat) : ch n k ≤ ch m k := by
  induction m with
  | zero => cases h; exact Nat.le_refl _
  | succ m ih =>
    by_cases e : n = m + 1
    · subst e; exact Nat.le_refl _
    · exact Nat.le_trans (ih (by omega)) (ch_up m k)
/-- C(n, k) is at least n - k + 1 -/
theorem ch_big : ∀ (j k : Nat), 1 ≤ k → j + 1 ≤ ch (k + j) k
  | 0, k, _ => by show 0 + 1 ≤ ch k k; rw [ch_self]; exact Nat.le_refl _
  | j + 1, k + 1, h => by
    have h1 := ch_big j (k + 1) h
    have e : k + 1 + (j + 1) = (k + 1 + j) + 1 := by omega
    have h2 := ch_pos (k + 1 + j) k (by omega)
    rw [e, ch_succ]
    omega
theorem ch_step (n : Nat) : ∀ k : Nat, k ≤ n → ch n (k + 1) * (k + 1) = ch n k * (n - k) := by
  induction n with
  | zero =>
    intro k h
    have : k = 0 := by omega
    subst this
    rfl
  | succ n ih =>
    intro k h
    cases k with
    | zero => simp
    | succ k =>
      by_cases e : k = n
      · subst e
        rw [ch_lt (k + 1) (k + 1 + 1) (by omega)]
        simp
      · have h1 := ih (k + 1) (by omega)
        have h2 := ih k (by omega)
        have e1 : n + 1 - (k + 1) = (n - (k + 1)) + 1 := by omega
        have e2 : n - k = (n - (k + 1)) + 1 := by omega
        rw [ch_succ n (k + 1), ch_succ n k, e1]
        rw [e2] at h2
        have h3 : ch n (k + 1) * (k + 1 + 1) = ch n k * (n - (k + 1) + 1) + ch n (k + 1) := by
          rw [Nat.mul_succ, h2]
        rw [Nat.add_mul, Nat.add_mul, h1, h3]
        rw [Nat.mul_succ (ch n (k + 1))]
        omega
def fact : Nat → Nat
  | 0 => 1
  | n + 1 => fact n * (n + 1)
theorem fact_pos : ∀ n : Nat, 1 ≤ fact n
  | 0 => Nat.le_refl _
  | n + 1 => Nat.mul_pos (fact_pos n) (Nat.succ_pos n)
theorem fp_ch (n : Nat) : ∀ k : Nat, k ≤ n → Builtin.Math.fallingProduct (n : Int) k = ((ch n k * fact k : Nat) : Int)
  | 0, _ => by simp [fact]; rfl
  | k + 1, h => by
    rw [PySem.W.mc_fp_succ, fp_ch n k (by omega)]
    have h1 := ch_step n k (by omega)
    have e : ((n : Int) - (k : Int)) = ((n - k : Nat) : Int) := by omega
    rw [e, ← Int.natCast_mul]
    congr 1
    show ch n k * fact k * (n - k) = ch n (k + 1) * (fact k * (k + 1))
    have : ch n (k + 1) * (fact k * (k + 1)) = ch n (k + 1) * (k + 1) * fact k := by
      rw [Nat.mul_comm (fact k), Nat.mul_assoc]
    rw [this, h1, Nat.mul_right_comm]
theorem ch_sym : ∀ a b : Nat, ch (a + b) a = ch (a + b) b
  | 0, b => by rw [Nat.zero_add, ch_zero, ch_self]
  | a + 1, 0 => by rw [Nat.add_zero, ch_zero, ch_self]
  | a + 1, b + 1 => by
    have h1 := ch_sym a (b + 1)
    have h2 := ch_sym (a + 1) b
    have e : a + 1 + (b + 1) = (a + (b + 1)) + 1 := by omega
    have e2 : a + 1 + b = a + (b + 1) := by omega
    rw [e2] at h2
    rw [e, ch_succ, ch_succ, h1, h2, Nat.add_comm]
termination_by a b => a + b
theorem comb_ch (n k : Nat) : PySem.W.mcComb (n : Int) (k : Int) = (ch n k : Int) := by
  by_cases h : k ≤ n
  · have key : ∀ m : Nat, m ≤ n → ch n m = ch n k → min (k : Int) ((n : Int) - (k : Int)) = (m : Int) → PySem.W.mcComb (n : Int) (k : Int) = (ch n k : Int) := by
      intro m hm hc e
      rw [PySem.W.mcComb_at (by omega) (by omega) e]
      have e2 : ((m : Int)).toNat = m := by omega
      rw [e2, fp_ch n m hm, fp_ch m m (Nat.le_refl _), ch_self, Nat.one_mul, hc]
      have : ((ch n k * fact m : Nat) : Int) = (ch n k : Int) * (fact m : Int) := by rw [Int.natCast_mul]
      rw [this]
      exact Int.mul_ediv_cancel _ (by have := fact_pos m; omega)
    by_cases hk : k ≤ n - k
    · exact key k h rfl (by omega)
    · refine key (n - k) (by omega) ?_ (by omega)
      have := ch_sym (n - k) k
      have e : n - k + k = n := by omega
      rw [e] at this
      exact this
  · rw [PySem.W.mcComb_above (by omega), ch_lt n k (by omega)]
    rfl

/-! ### expansions -/
def topGo (d n : Nat) : Nat → Nat → Nat
  | 0, t => t
  | f + 1, t => if ch (t + 1) d ≤ n then topGo d n f (t + 1) else t
theorem topGo_ok {d n : Nat} (hd : 1 ≤ d) : ∀ (f t : Nat), d ≤ t → ch t d ≤ n → n ≤ f + (t - d) → ch (topGo d n f t) d ≤ n ∧ n < ch (topGo d n f t + 1) d ∧ d ≤ topGo d n f t
  | 0, t, h1, h2, h3 => by
    have := ch_big (t + 1 - d) d hd
    have e : d + (t + 1 - d) = t + 1 := by omega
    rw [e] at this
    exact ⟨h2, by show n < ch (t + 1) d; omega, h1⟩
  | f + 1, t, h1, h2, h3 => by
    unfold topGo
    by_cases c : ch (t + 1) d ≤ n
    · rw [if_pos c]; exact topGo_ok hd f (t + 1) (by omega) c (by omega)
    · rw [if_neg c]; exact ⟨h2, by omega, h1⟩
def topOf (d n : Nat) : Nat := topGo d n n d
theorem topOf_ok {d n : Nat} (hd : 1 ≤ d) (hn : 1 ≤ n) : ch (topOf d n) d ≤ n ∧ n < ch (topOf d n + 1) d ∧ d ≤ topOf d n :=
  topGo_ok hd n d (Nat.le_refl _) (by rw [ch_self]; exact hn) (by omega)
theorem top_uniq {d n t t' : Nat} (h1 : ch t d ≤ n) (h2 : n < ch (t + 1) d) (h1' : ch t' d ≤ n) (h2' : n < ch (t' + 1) d) : t = t' := by
  by_cases a : t < t'
  · have := ch_mono (show t + 1 ≤ t' by omega) d; omega
  · by_cases b : t' < t
    · have := ch_mono (show t' + 1 ≤ t by omega) d; omega
    · omega
def exps : Nat → Nat → List Nat
  | 0, _ => []
  | _ + 1, 0 => []
  | d + 1, n + 1 => topOf (d + 1) (n + 1) :: exps d (n + 1 - ch (topOf (d + 1) (n + 1)) (d + 1))
theorem exps_zero (d : Nat) : exps d 0 = [] := by cases d <;> rfl
theorem exps_step {d n t : Nat} (hd : 1 ≤ d) (h0 : 1 ≤ n) (h1 : ch t d ≤ n) (h2 : n < ch (t + 1) d) : exps d n = t :: exps (d - 1) (n - ch t d) := by
  obtain ⟨a, b, _⟩ := topOf_ok hd h0
  have e := top_uniq a b h1 h2
  cases d with
  | zero => omega
  | succ d =>
    cases n with
    | zero => omega
    | succ n =>
      show topOf (d + 1) (n + 1) :: exps d (n + 1 - ch (topOf (d + 1) (n + 1)) (d + 1)) = _
      rw [e]
      rfl
def wsum : Nat → List Nat → Nat
  | _, [] => 0
  | d, t :: r => ch t d + wsum (d - 1) r
def gsum : Nat → List Nat → Nat
  | _, [] => 0
  | d, t :: r => ch (t + 1) (d + 1) + gsum (d - 1) r
/-- a proper expansion: below b, its tops not below the degree -/
def Dec : Nat → Nat → List Nat → Prop
  | _, _, [] => True
  | b, d, t :: r => t < b ∧ 1 ≤ d ∧ d ≤ t ∧ Dec t (d - 1) r
theorem rest_lt {d n t : Nat} (h2 : n < ch (t + 1) (d + 1)) (h1 : ch t (d + 1) ≤ n) : n - ch t (d + 1) < ch t d := by
  rw [ch_succ] at h2
  omega
theorem exps_dec : ∀ (d n b : Nat), n < ch b d → (1 ≤ d ∨ n = 0) → Dec b d (exps d n) ∧ wsum d (exps d n) = n ∧ (exps d n).length ≤ d
  | d, 0, b, _, _ => by rw [exps_zero]; exact ⟨trivial, rfl, Nat.zero_le _⟩
  | 0, n + 1, b, h, hd => by omega
  | d + 1, n + 1, b, h, hd => by
    obtain ⟨h1, h2, h3⟩ := topOf_ok (d := d + 1) (n := n + 1) (by omega) (by omega)
    have hl := rest_lt h2 h1
    rw [exps_step (by omega) (by omega) h1 h2]
    have hb : topOf (d + 1) (n + 1) < b := by
      by_cases c : topOf (d + 1) (n + 1) < b
      · exact c
      · have := ch_mono (show b ≤ topOf (d + 1) (n + 1) by omega) (d + 1)
        omega
    have hz : 1 ≤ d ∨ n + 1 - ch (topOf (d + 1) (n + 1)) (d + 1) = 0 := by
      by_cases c : 1 ≤ d
      · exact .inl c
      · have : d = 0 := by omega
        subst this
        rw [ch_zero] at hl
        right
        omega
    obtain ⟨i1, i2, i3⟩ := exps_dec d (n + 1 - ch (topOf (d + 1) (n + 1)) (d + 1)) (topOf (d + 1) (n + 1)) hl hz
    refine ⟨⟨hb, by omega, h3, i1⟩, ?_, ?_⟩
    · show ch (topOf (d + 1) (n + 1)) (d + 1) + wsum (d + 1 - 1) (exps (d + 1 - 1) _) = n + 1
      rw [Nat.add_sub_cancel, i2]
      omega
    · show (exps (d + 1 - 1) _).length + 1 ≤ d + 1
      rw [Nat.add_sub_cancel]
      omega
def gro (d n : Nat) : Nat := gsum d (exps d n)
theorem gro_zero (d : Nat) : gro d 0 = 0 := by unfold gro; rw [exps_zero]; rfl
theorem gro_step {d n t : Nat} (hd : 1 ≤ d) (h0 : 1 ≤ n) (h1 : ch t d ≤ n) (h2 : n < ch (t + 1) d) : gro d n = ch (t + 1) (d + 1) + gro (d - 1) (n - ch t d) := by
  unfold gro
  rw [exps_step hd h0 h1 h2]
  rfl
theorem gro_lt : ∀ (d n t : Nat), n < ch (t + 1) d → (1 ≤ d ∨ n = 0) → gro d n < ch (t + 2) (d + 1)
  | d, 0, t, h, _ => by
    rw [gro_zero]
    by_cases c : d + 1 ≤ t + 2
    · exact ch_pos _ _ c
    · have := ch_lt (t + 1) d (by omega)
      omega
  | 0, n + 1, t, h, hd => by omega
  | d + 1, n + 1, t, h, hd => by
    obtain ⟨h1, h2, h3⟩ := topOf_ok (d := d + 1) (n := n + 1) (by omega) (by omega)
    obtain ⟨u, hu⟩ : ∃ u, u = topOf (d + 1) (n + 1) := ⟨_, rfl⟩
    rw [← hu] at h1 h2 h3
    have hl := rest_lt h2 h1
    have hb : u ≤ t := by
      by_cases c : u ≤ t
      · exact c
      · have := ch_mono (show t + 1 ≤ u by omega) (d + 1)
        omega
    have hz : 1 ≤ d ∨ n + 1 - ch u (d + 1) = 0 := by
      by_cases c : 1 ≤ d
      · exact .inl c
      · have : d = 0 := by omega
        subst this
        rw [ch_zero] at hl
        right
        omega
    rw [gro_step (by omega) (by omega) h1 h2, Nat.add_sub_cancel]
    obtain ⟨u', rfl⟩ : ∃ u', u = u' + 1 := ⟨u - 1, by omega⟩
    have ih := gro_lt d (n + 1 - ch (u' + 1) (d + 1)) u' hl hz
    have hm := ch_mono (show u' + 1 + 2 ≤ t + 2 by omega) (d + 1 + 1)
    have e := ch_succ (u' + 1 + 1) (d + 1)
    have e' : u' + 1 + 2 = u' + 1 + 1 + 1 := by omega
    rw [e'] at hm
    have e3 : u' + 2 = u' + 1 + 1 := by omega
    rw [e3] at ih
    omega
theorem gro_mono : ∀ (d n m : Nat), 1 ≤ d → n < m → gro d n < gro d m
  | 0, _, _, h, _ => by omega
  | d + 1, n, m, _, h => by
    obtain ⟨h1, h2, h3⟩ := topOf_ok (d := d + 1) (n := m) (by omega) (by omega)
    obtain ⟨u, hu⟩ : ∃ u, u = topOf (d + 1) m := ⟨_, rfl⟩
    rw [← hu] at h1 h2 h3
    have em := gro_step (d := d + 1) (n := m) (by omega) (by omega) h1 h2
    rw [Nat.add_sub_cancel] at em
    by_cases c : n < ch u (d + 1)
    · obtain ⟨u', rfl⟩ : ∃ u', u = u' + 1 := ⟨u - 1, by omega⟩
      have := gro_lt (d + 1) n u' c (by omega)
      have e3 : u' + 2 = u' + 1 + 1 := by omega
      rw [e3] at this
      omega
    · have hn : 1 ≤ n := by have := ch_pos u (d + 1) h3; omega
      have en := gro_step (d := d + 1) (n := n) (t := u) (by omega) hn (by omega) (by omega)
      rw [Nat.add_sub_cancel] at en
      by_cases hd : 1 ≤ d
      · have := gro_mono d (n - ch u (d + 1)) (m - ch u (d + 1)) hd (by omega)
        omega
      · have : d = 0 := by omega
        subst this
        have := rest_lt h2 h1
        rw [ch_zero] at this
        omega
theorem gro_ch (d s : Nat) (hd : 1 ≤ d) : gro d (ch (d + s) d) = ch (d + s + 1) (d + 1) := by
  have h1 := ch_pos (d + s) d (by omega)
  have h2 : ch (d + s) d < ch (d + s + 1) d := by
    obtain ⟨e, rfl⟩ : ∃ e, d = e + 1 := ⟨d - 1, by omega⟩
    rw [ch_succ]
    have := ch_pos (e + 1 + s) e (by omega)
    omega
  rw [gro_step hd h1 (Nat.le_refl _) h2, Nat.sub_self, gro_zero, Nat.add_zero]
end L2.PyD
namespace Lw_k56
open PySem PySem.Spec PyProof.Rows L2 L2.PyD
def topS (i : Nat) : Stmt := PySem.Challenge.pw_idealcore_k56_expansions_and_growth.main.body.getD i (.Pass ⟨0, 0, 0, 0⟩)
/-- is_int(value): 0:value -/
def b_is_int : S :=
  .seq (.ret (.and (.blt false .isi (.cons (.var 0) (.cons (.tyn "int") .nil))) (.not (.blt false .isi (.cons (.var 0) (.cons (.tyn "bool") .nil)))))) .skip
/-- is_in(value, least, most): 0:value 1:least 2:most -/
def b_is_in : S :=
  .seq (.ret (.and (.call 0 (.cons (.var 0) .nil)) (.cmp2 .LtE .LtE (.var 1) (.var 0) (.var 2)))) .skip
def t_expansion_of_0 : E := .cmp .Gt (.var 0) (.con (.int 0))
def t_expansion_of_1 : E := .cmp .LtE (.blt false .comb (.cons (.bin false .Add (.var 3) (.con (.int 1))) (.cons (.var 1) .nil))) (.var 0)
def w_expansion_of_2 : S := .seq (.aug 3 false (.con (.int 1))) .skip
def w_expansion_of_3 : S := .seq (.asg (.nm 3) (.ite (.cmp .Gt (.var 1) (.con (.int 1))) (.var 1) (.var 0)))
  (.seq (.whl t_expansion_of_1 w_expansion_of_2)
  (.seq (.expr (.met .append (.var 2) (.cons (.var 3) .nil)))
  (.seq (.par 0 1 (.cons (.bin false .Sub (.var 0) (.blt false .comb (.cons (.var 3) (.cons (.var 1) .nil)))) (.cons (.bin false .Sub (.var 1) (.con (.int 1))) .nil)))
  .skip)))
/-- expansion_of(number, degree): 0:number 1:degree 2:found 3:top -/
def b_expansion_of : S :=
  .seq (.asg (.nm 2) (.lst true (.nil))) (.seq (.whl t_expansion_of_0 w_expansion_of_3) (.seq (.ret (.var 2)) .skip))
def e_grown_of_0 : E := .blt false .comb (.cons (.bin false .Add (.var 3) (.con (.int 1))) (.cons (.bin false .Sub (.bin false .Add (.var 1) (.con (.int 1))) (.var 2)) .nil))
/-- grown_of(number, degree): 0:number 1:degree 2:at 3:top -/
def b_grown_of : S :=
  .seq (.ret (.blt false .sum (.cons (.comp false (.enu (.cons (.call 2 (.cons (.var 0) (.cons (.var 1) .nil))) .nil)) [("at", 2), ("top", 3)] (.tup [2, 3]) e_grown_of_0) .nil)))
  .skip
/-- need_number(number, degree): 0:number 1:degree -/
def b_need_number : S :=
  .seq (.ifs (.or (.not (.call 1 (.cons (.var 0) (.cons (.con (.int 0)) (.cons (.glb 0) .nil))))) (.not (.call 1 (.cons (.var 1) (.cons (.con (.int 1)) (.cons (.glb 1) .nil)))))) (.seq .dead .skip) (.skip))
  .skip
/-- expansion(number, degree): 0:number 1:degree -/
def b_expansion : S :=
  .seq (.expr (.call 4 (.cons (.var 0) (.cons (.var 1) .nil))))
  (.seq (.ret (.blt false .tuple (.cons (.call 2 (.cons (.var 0) (.cons (.var 1) .nil))) .nil))) .skip)
/-- grown(number, degree): 0:number 1:degree -/
def b_grown : S :=
  .seq (.expr (.call 4 (.cons (.var 0) (.cons (.var 1) .nil)))) (.seq (.ret (.call 3 (.cons (.var 0) (.cons (.var 1) .nil)))) .skip)
/-- _law_taken(row, many): 0:row 1:many 2:cell 3:found -/
def b_law_taken : S :=
  .seq (.ifs (.cmp .Gt (.ix (.var 0) (.con (.int 3))) (.con (.int 0))) (.seq (.asg (.nm 3) (.bin false .Mod (.blt false .int (.cons (.ix (.var 0) (.con (.int 3))) .nil)) (.var 1)))
  (.seq (.setix (.var 0) (.con (.int 3)) (.bin false .FloorDiv (.ix (.var 0) (.con (.int 3))) (.var 1))) (.seq (.ret (.var 3)) .skip))) (.skip))
  (.seq (.setix (.var 0) (.con (.int 1)) (.bin false .Add (.ix (.var 0) (.con (.int 1))) (.con (.int 1))))
  (.seq (.ifs (.cmp .Gt (.ix (.var 0) (.con (.int 1))) (.blt false .len (.cons (.ix (.var 0) (.con (.int 0))) .nil))) (.seq (.setix (.var 0) (.con (.int 2)) (.bin false .Mod (.blt false .int (.cons (.bin false .Add (.bin false .Mult (.ix (.var 0) (.con (.int 2))) (.con (.int 48271))) (.con (.int 11))) .nil)) (.con (.int 2147483647))))
  (.seq (.ret (.bin false .Mod (.blt false .int (.cons (.bin false .FloorDiv (.ix (.var 0) (.con (.int 2))) (.con (.int 7))) .nil)) (.var 1))) .skip)) (.skip))
  (.seq (.asg (.nm 2) (.ix (.ix (.var 0) (.con (.int 0))) (.bin false .Sub (.ix (.var 0) (.con (.int 1))) (.con (.int 1)))))
  (.seq (.setix (.var 0) (.con (.int 2)) (.bin false .Mod (.blt false .int (.cons (.bin false .Add (.bin false .Add (.bin false .Mult (.ix (.var 0) (.con (.int 2))) (.con (.int 48271))) (.var 2)) (.con (.int 11))) .nil)) (.con (.int 2147483647))))
  (.seq (.ifs (.cmp .GtE (.var 2) (.bin false .Pow (.con (.int 10)) (.con (.int 18)))) (.seq (.setix (.var 0) (.con (.int 3)) (.bin false .FloorDiv (.var 2) (.var 1))) .skip) (.skip))
  (.seq (.ret (.bin false .Mod (.blt false .int (.cons (.var 2) .nil)) (.var 1))) .skip))))))
def w_law_comb_0 : S := .seq (.asg (.nm 2) (.bin false .FloorDiv (.bin false .Mult (.var 2) (.bin false .Sub (.var 0) (.var 3))) (.bin false .Add (.var 3) (.con (.int 1))))) .skip
/-- _law_comb(top, size): 0:top 1:size 2:found 3:at -/
def b_law_comb : S :=
  .seq (.asg (.nm 2) (.con (.int 1)))
  (.seq (.fors (.nm 3) (.rng (.cons (.var 1) .nil)) w_law_comb_0) (.seq (.ret (.ite (.cmp .GtE (.var 0) (.var 1)) (.var 2) (.con (.int 0)))) .skip))
def c_law_alike_0 : E := .not (.call 9 (.cons (.ix (.var 0) (.var 2)) (.cons (.ix (.var 1) (.var 2)) .nil)))
def e_law_alike_1 : E := .var 2
/-- _law_alike(found, due): 0:found 1:due 2:k -/
def b_law_alike : S :=
  .seq (.ifs (.blt false .isi (.cons (.var 1) (.cons (.tup (.cons (.tyn "tuple") (.cons (.tyn "list") .nil))) .nil))) (.seq (.ifs (.or (.not (.blt false .isi (.cons (.var 0) (.cons (.tup (.cons (.tyn "tuple") (.cons (.tyn "list") .nil))) .nil)))) (.cmp .NotEq (.blt false .isi (.cons (.var 0) (.cons (.tyn "list") .nil))) (.blt false .isi (.cons (.var 1) (.cons (.tyn "list") .nil))))) (.seq (.ret (.con (.bl false))) .skip) (.skip))
  (.seq (.ifs (.cmp .NotEq (.blt false .len (.cons (.var 0) .nil)) (.blt false .len (.cons (.var 1) .nil))) (.seq (.ret (.con (.bl false))) .skip) (.skip))
  (.seq (.ret (.cmp .Eq (.compIf false (.rng (.cons (.blt false .len (.cons (.var 1) .nil)) .nil)) [("k", 2)] (.nm 2) c_law_alike_0 e_law_alike_1) (.lst false (.nil))))
  .skip))) (.skip))
  (.seq (.ifs (.or (.cmp .Is (.var 1) (.con .non)) (.blt false .isi (.cons (.var 1) (.cons (.tyn "str") .nil)))) (.seq (.ret (.and (.cmp .Eq (.var 0) (.var 1)) (.cmp .Eq (.blt false .isi (.cons (.var 0) (.cons (.tyn "str") .nil))) (.blt false .isi (.cons (.var 1) (.cons (.tyn "str") .nil))))))
  .skip) (.skip))
  (.seq (.ret (.and (.blt false .isi (.cons (.var 0) (.cons (.tyn "int") .nil))) (.and (.cmp .Eq (.blt false .isi (.cons (.var 0) (.cons (.tyn "bool") .nil))) (.blt false .isi (.cons (.var 1) (.cons (.tyn "bool") .nil)))) (.cmp .Eq (.var 0) (.var 1)))))
  .skip))
def w_law_0 : S := .seq (.ifs (.or (.not (.blt false .isi (.cons (.ix (.var 7) (.var 3)) (.cons (.tyn "int") .nil)))) (.or (.blt false .isi (.cons (.ix (.var 7) (.var 3)) (.cons (.tyn "bool") .nil))) (.cmp .Lt (.ix (.var 7) (.var 3)) (.bin false .Sub (.var 6) (.var 3))))) (.seq (.ret (.con (.bl false))) .skip) (.skip))
  (.seq (.ifs (.and (.cmp .IsNot (.var 8) (.con .non)) (.cmp .GtE (.ix (.var 7) (.var 3)) (.var 8))) (.seq (.ret (.con (.bl false))) .skip) (.skip))
  (.seq (.asg (.nm 8) (.ix (.var 7) (.var 3)))
  (.seq (.par 9 10 (.cons (.bin false .Add (.var 9) (.call 8 (.cons (.var 8) (.cons (.bin false .Sub (.var 6) (.var 3)) .nil)))) (.cons (.bin false .Add (.var 10) (.call 8 (.cons (.bin false .Add (.var 8) (.con (.int 1))) (.cons (.bin false .Add (.bin false .Sub (.var 6) (.var 3)) (.con (.int 1))) .nil)))) .nil)))
  .skip)))
def w_law_1 : S := .seq (.par 5 6 (.cons (.call 7 (.cons (.var 1) (.cons (.bin false .Add (.ix (.lst false (.cons (.con (.int 4)) (.cons (.con (.int 40)) (.cons (.con (.int 1000)) (.cons (.bin false .Pow (.con (.int 10)) (.con (.int 6))) .nil))))) (.call 7 (.cons (.var 1) (.cons (.con (.int 4)) .nil)))) (.con (.int 1))) .nil))) (.cons (.bin false .Add (.con (.int 1)) (.call 7 (.cons (.var 1) (.cons (.con (.int 12)) .nil)))) .nil)))
  (.seq (.asg (.tup [7, 8, 9, 10]) (.tup (.cons (.call 5 (.cons (.var 5) (.cons (.var 6) .nil))) (.cons (.con .non) (.cons (.con (.int 0)) (.cons (.con (.int 0)) .nil))))))
  (.seq (.ifs (.or (.not (.blt false .isi (.cons (.var 7) (.cons (.tyn "tuple") .nil)))) (.cmp .Gt (.blt false .len (.cons (.var 7) .nil)) (.var 6))) (.seq (.ret (.con (.bl false))) .skip) (.skip))
  (.seq (.fors (.nm 3) (.rng (.cons (.blt false .len (.cons (.var 7) .nil)) .nil)) w_law_0)
  (.seq (.ifs (.or (.cmp .NotEq (.var 9) (.var 5)) (.not (.call 9 (.cons (.call 6 (.cons (.var 5) (.cons (.var 6) .nil))) (.cons (.var 10) .nil))))) (.seq (.ret (.con (.bl false))) .skip) (.skip))
  (.seq (.ifs (.and (.cmp .Gt (.var 5) (.con (.int 0))) (.cmp .GtE (.call 6 (.cons (.bin false .Sub (.var 5) (.con (.int 1))) (.cons (.var 6) .nil))) (.var 10))) (.seq (.ret (.con (.bl false))) .skip) (.skip))
  (.seq (.asg (.nm 4) (.bin false .Add (.con (.int 1)) (.call 7 (.cons (.var 1) (.cons (.con (.int 5)) .nil)))))
  (.seq (.ifs (.cmp .NotEq (.call 6 (.cons (.call 8 (.cons (.bin false .Sub (.bin false .Add (.var 6) (.var 4)) (.con (.int 1))) (.cons (.bin false .Sub (.var 4) (.con (.int 1))) .nil))) (.cons (.var 6) .nil))) (.call 8 (.cons (.bin false .Add (.var 6) (.var 4)) (.cons (.bin false .Sub (.var 4) (.con (.int 1))) .nil)))) (.seq (.ret (.con (.bl false))) .skip) (.skip))
  .skip)))))))
/-- law(script): 0:script 1:row 2:turn 3:at 4:many 5:number 6:degree 7:found 8:top 9:whole 10:after -/
def b_law : S :=
  .seq (.asg (.nm 1) (.lst true (.cons (.var 0) (.cons (.con (.int 0)) (.cons (.con (.int 4156)) (.cons (.con (.int 0)) .nil))))))
  (.seq (.fors (.nm 2) (.rng (.cons (.con (.int 4)) .nil)) w_law_1)
  (.seq (.ret (.cmp .Eq (.call 6 (.cons (.con (.int 0)) (.cons (.bin false .Add (.con (.int 1)) (.call 7 (.cons (.var 1) (.cons (.con (.int 12)) .nil)))) .nil))) (.con (.int 0))))
  .skip))
def tbl : List Fd := [
  ⟨"is_int", ["value"], ["value"], b_is_int⟩,
  ⟨"is_in", ["value", "least", "most"], ["value", "least", "most"], b_is_in⟩,
  ⟨"expansion_of", ["number", "degree", "found", "top"], ["number", "degree"], b_expansion_of⟩,
  ⟨"grown_of", ["number", "degree", "at", "top"], ["number", "degree"], b_grown_of⟩,
  ⟨"need_number", ["number", "degree"], ["number", "degree"], b_need_number⟩,
  ⟨"expansion", ["number", "degree"], ["number", "degree"], b_expansion⟩,
  ⟨"grown", ["number", "degree"], ["number", "degree"], b_grown⟩,
  ⟨"_law_taken", ["row", "many", "cell", "found"], ["row", "many"], b_law_taken⟩,
  ⟨"_law_comb", ["top", "size", "found", "at"], ["top", "size"], b_law_comb⟩,
  ⟨"_law_alike", ["found", "due", "k"], ["found", "due"], b_law_alike⟩,
  ⟨"law", ["script", "row", "turn", "at", "many", "number", "degree", "found", "top", "whole", "after"], ["script"], b_law⟩]
def sts : List Stmt := [topS 5, topS 6, topS 10, topS 11, topS 12, topS 13, topS 14, topS 16, topS 17, topS 18, topS 19]
def gn : Gn := ⟨[("MOST_NUMBER", (.int 1000000)), ("MOST_DEGREE", (.int 12))], ["isinstance", "int", "bool", "sum", "enumerate", "tuple", "len", "range", "str", "list"], [("comb", "math.comb")]⟩
abbrev i_is_int : Nat := 0
abbrev i_is_in : Nat := 1
abbrev i_expansion_of : Nat := 2
abbrev i_grown_of : Nat := 3
abbrev i_need_number : Nat := 4
abbrev i_expansion : Nat := 5
abbrev i_grown : Nat := 6
abbrev i_law_taken : Nat := 7
abbrev i_law_comb : Nat := 8
abbrev i_law_alike : Nat := 9
abbrev i_law : Nat := 10
theorem tbl_ok : ((tbl.zip sts).all fun p => defB gn tbl p.1 p.2) = true := by decide +kernel
end Lw_k56
namespace Lw_k56
open PySem PySem.Spec PyProof.Rows L2 L2.PyD
@[simp] theorem G0 : gn.G 0 = .int 1000000 := rfl
@[simp] theorem G1 : gn.G 1 = .int 12 := rfl
noncomputable abbrev cal (k i : Nat) (ds : List D) (st : Store) : Out D := callN gn.G tbl k i ds st
theorem is_int_ok (k : Nat) (x : Int) (st : Store) : cal (k + 1) 0 [.int x] st = .ok (.bl true) st := by
  rw [cal, call_eq (f := ⟨"is_int", ["value"], ["value"], b_is_int⟩) rfl]
  simp [b_is_int, startE]
theorem is_in_ok (k : Nat) (x a b : Int) (st : Store) (h1 : a ≤ x) (h2 : x ≤ b) : cal (k + 2) 1 [.int x, .int a, .int b] st = .ok (.bl true) st := by
  rw [cal, call_eq (f := ⟨"is_in", ["value", "least", "most"], ["value", "least", "most"], b_is_in⟩) rfl]
  have := is_int_ok k x st
  unfold cal at this
  simp [b_is_in, startE, this, h1, h2]
theorem need_ok (k : Nat) (n d : Int) (st : Store) (h1 : 0 ≤ n) (h2 : n ≤ 1000000) (h3 : 1 ≤ d) (h4 : d ≤ 12) : cal (k + 3) 4 [.int n, .int d] st = .ok .non st := by
  rw [cal, call_eq (f := ⟨"need_number", ["number", "degree"], ["number", "degree"], b_need_number⟩) rfl]
  have a := is_in_ok k n 0 1000000 st h1 h2
  have b := is_in_ok k d 1 12 st h3 h4
  unfold cal at a b
  simp [b_need_number, startE, a, b]
theorem comb_small {a b : Nat} (h : a < 10000000000000000) (h2 : b ≤ 9000) (st : Store) : Bi.g .comb st [.int (a : Int), .int (b : Int)] = some (.val (.int ((ch a b : Nat) : Int))) := by
  rw [comb_int ⟨by omega, by omega, by omega, by omega⟩, comb_ch]
def di (l : List Nat) : List D := l.map fun x => D.int ((x : Nat) : Int)
theorem ints_len (l : List Nat) : (di l).length = l.length := List.length_map ..
theorem undr_di (n : Nat) (l : List Nat) : D.undrL n (di l) = true := undrL_all fun d m => by
  obtain ⟨x, _, rfl⟩ := List.mem_map.mp m
  rfl
/-- the inner walk: the top -/
theorem top_ok {p : Pr} {n d : Nat} (hn : 1 ≤ n) (hd : 1 ≤ d) (hn2 : n < 1000000000000000) (hd2 : d ≤ 20) {y : Option D} (st : Store) (t0 : Nat) (h1 : d ≤ t0) (h2 : ch t0 d ≤ n) :
    ∃ t, ch t d ≤ n ∧ n < ch (t + 1) d ∧ d ≤ t ∧ t ≤ n + d ∧ sWhile (ev p t_expansion_of_1).t (ex p w_expansion_of_2) [some (.int n), some (.int d), y, some (.int t0)] st = .nx [some (.int n), some (.int d), y, some (.int t)] st := by
  obtain ⟨e', st', h, t, q1, q2, q3, q4, q5⟩ := while_nx (t := (ev p t_expansion_of_1).t) (b := ex p w_expansion_of_2)
    (fun m env s => s = st ∧ ∃ t : Nat, env = [some (.int n), some (.int d), y, some (.int t)] ∧ d ≤ t ∧ ch t d ≤ n ∧ m = n + d - t)
    (fun env s => ∃ t : Nat, env = [some (.int n), some (.int d), y, some (.int t)] ∧ s = st ∧ ch t d ≤ n ∧ n < ch (t + 1) d ∧ d ≤ t ∧ t ≤ n + d)
    (fun m env s ⟨es, t, ee, g1, g2, g3⟩ => by
      subst es ee
      have hb := ch_big (t - d) d hd
      have et : d + (t - d) = t := by omega
      rw [et] at hb
      have hc := comb_small (a := t + 1) (b := d) (by omega) (by omega) s
      rw [Int.natCast_add] at hc
      simp only [Int.cast_ofNat_Int] at hc
      by_cases c : ch (t + 1) d ≤ n
      · right
        refine ⟨s, [some (.int n), some (.int d), y, some (.int ((t + 1 : Nat) : Int))], s, n + d - (t + 1), ?_, .inl ⟨.inl ?_, ?_, rfl, t + 1, rfl, by omega, c, rfl⟩⟩
        · simp [t_expansion_of_1, hc, c]
        · simp [w_expansion_of_2]
        · omega
      · left
        refine ⟨s, ?_, t, rfl, rfl, g2, by omega, g1, by omega⟩
        simp [t_expansion_of_1, hc]
        omega) _ _ st ⟨rfl, t0, rfl, h1, h2, rfl⟩
  exact ⟨t, q3, q4, q5.1, q5.2, by rw [h, q1, q2]⟩
theorem sz {n : Nat} (h : n < 1000) : n < sizeLine := Nat.lt_of_lt_of_le h (by decide)
theorem szle {n : Nat} (h : n ≤ 1000) : n ≤ sizeLine := Nat.le_trans h (by decide)
theorem app_ok {st : Store} {done : List Nat} {t : Nat} (h : done.length < 1000) : (mAppend (st ++ [.lst (di done)]) (.cell st.length) [.int (t : Nat)]) = .ok .non (st ++ [.lst (di (done ++ [t]))]) := by
  unfold mAppend
  have := push_last (st1 := st) (acc := di done) (y := .int (t : Nat)) (by rw [ints_len]; exact sz h)
  simp only [this]
  have e : di done ++ [D.int (t : Nat)] = di (done ++ [t]) := by simp [di]
  rw [← e]
theorem has_ok {st : Store} {ds : List D} : hasT "list" (st ++ [.lst ds]) (.cell st.length) = true := by
  unfold hasT
  simp
theorem step_ok (k : Nat) {n d : Nat} (hn : 1 ≤ n) (hd : 1 ≤ d) (hn2 : n < 1000000000000000) (hd2 : d ≤ 20) {y : Option D} {st : Store} {done : List Nat} (hl : done.length < 1000) :
    ∃ t, ch t d ≤ n ∧ n < ch (t + 1) d ∧ d ≤ t ∧ t ≤ n + d ∧ ex ⟨callN gn.G tbl k, gn.G⟩ w_expansion_of_3 [some (.int n), some (.int d), some (.cell st.length), y] (st ++ [.lst (di done)]) =
      .nx [some (.int ((n - ch t d : Nat) : Int)), some (.int ((d - 1 : Nat) : Int)), some (.cell st.length), some (.int t)] (st ++ [.lst (di (done ++ [t]))]) := by
  obtain ⟨t0, h3⟩ : ∃ t0, t0 = if 1 < d then d else n := ⟨_, rfl⟩
  have h1 : d ≤ t0 := by rw [h3]; split <;> omega
  have h2 : ch t0 d ≤ n := by
    rw [h3]
    split
    · rw [ch_self]; exact hn
    · have : d = 1 := by omega
      subst this
      rw [ch_one]; exact Nat.le_refl _
  obtain ⟨t, t1, t2, t3, t4, tw⟩ := top_ok (p := ⟨callN gn.G tbl k, gn.G⟩) hn hd hn2 hd2 (y := some (.cell st.length)) (st ++ [.lst (di done)]) t0 h1 h2
  refine ⟨t, t1, t2, t3, t4, ?_⟩
  have hc := fun st => comb_small (a := t) (b := d) (by omega) (by omega) st
  have e1 : ((n - ch t d : Nat) : Int) = (n : Int) - (ch t d : Nat) := by omega
  have e2 : ((d - 1 : Nat) : Int) = (d : Int) - 1 := by omega
  rw [e1, e2]
  by_cases c : 1 < d
  · rw [if_pos c] at h3
    subst h3
    have c' : (1 : Int) < (t0 : Nat) := by omega
    simp [w_expansion_of_3, c', tw, app_ok hl, has_ok, hc]
  · rw [if_neg c] at h3
    subst h3
    have c' : ¬ (1 : Int) < (d : Nat) := by omega
    simp [w_expansion_of_3, c', tw, app_ok hl, has_ok, hc]
theorem dec_all : ∀ {l : List Nat} {b d : Nat}, Dec b d l → ∀ t ∈ l, t < b
  | t :: r, b, d, h, u, m => by
    rcases List.mem_cons.mp m with e | m
    · subst e; exact h.1
    · have := dec_all h.2.2.2 u m
      have := h.1
      omega
theorem exps_all (d n : Nat) (hd : 1 ≤ d) : Dec (n + d) d (exps d n) ∧ wsum d (exps d n) = n ∧ (exps d n).length ≤ d := exps_dec d n (n + d) (by
    have := ch_big n d hd
    rw [Nat.add_comm] at this
    rw [Nat.add_comm n d]
    omega) (.inl hd)
theorem expansion_of_ok (k : Nat) (n d : Nat) (st : Store) (hd : 1 ≤ d) (hn2 : n < 1000000000000000) (hd2 : d ≤ 20) : cal (k + 1) 2 [.int n, .int d] st = .ok (.lst (di (exps d n))) st := by
  rw [cal, call_eq (f := ⟨"expansion_of", ["number", "degree", "found", "top"], ["number", "degree"], b_expansion_of⟩) rfl]
  have hl := (exps_all d n hd).2.2
  obtain ⟨e', st', h, y, q1, q2⟩ := while_nx (t := (ev ⟨callN gn.G tbl k, gn.G⟩ t_expansion_of_0).t) (b := ex ⟨callN gn.G tbl k, gn.G⟩ w_expansion_of_3)
    (fun m env s => ∃ (n' d' : Nat) (done : List Nat) (y : Option D), env = [some (.int n'), some (.int d'), some (.cell st.length), y] ∧ s = st ++ [.lst (di done)] ∧ exps d n = done ++ exps d' n' ∧ (1 ≤ d' ∨ n' = 0) ∧ d' ≤ 20 ∧ n' < 1000000000000000 ∧ n' = m)
    (fun env s => ∃ y : L2.PyD.Env, env = y ∧ y[2]? = some (some (.cell st.length)) ∧ s = st ++ [.lst (di (exps d n))])
    (fun m env s ⟨n', d', done, y, ee, es, g1, g2, g3, g4, g5⟩ => by
      subst ee es g5
      by_cases c : n' = 0
      · subst c
        left
        rw [exps_zero, List.append_nil] at g1
        exact ⟨st ++ [.lst (di done)], by simp [t_expansion_of_0], _, rfl, rfl, by rw [g1]⟩
      · right
        have hd' : 1 ≤ d' := by omega
        have hlen : done.length < 1000 := by
          have : (exps d n).length = done.length + (exps d' n').length := by rw [g1, List.length_append]
          omega
        obtain ⟨t, t1, t2, t3, t4, tw⟩ := step_ok k (n := n') (d := d') (by omega) hd' g4 g3 (y := y) (st := st) hlen
        have hst := exps_step hd' (by omega) t1 t2
        have hpos := ch_pos t d' t3
        have hr : n' - ch t d' < ch t (d' - 1) := by
          obtain ⟨e, rfl⟩ : ∃ e, d' = e + 1 := ⟨d' - 1, by omega⟩
          exact rest_lt t2 t1
        refine ⟨_, _, _, n' - ch t d', ?_, .inl ⟨.inl tw, by omega, n' - ch t d', d' - 1, done ++ [t], some (.int t), rfl, rfl, ?_, ?_, by omega, by omega, rfl⟩⟩
        · have c' : (0 : Int) < (n' : Nat) := by omega
          simp [t_expansion_of_0]
          omega
        · rw [g1, hst, List.append_assoc]; rfl
        · by_cases q : d' = 1
          · subst q
            right
            rw [ch_zero] at hr
            omega
          · left; omega) n [some (.int n), some (.int d), some (.cell st.length), none] (st ++ [.lst []]) ⟨n, d, [], none, rfl, rfl, rfl, .inl hd, hd2, hn2, rfl⟩
  have h0 : startE 4 [.int n, .int d] = [some (.int n), some (.int d), none, none] := rfl
  subst q1
  simp [b_expansion_of, h0, h, q2.1, q2.2]
  exact leave_cell (Nat.le_refl _) (by simp) (undr_di _ _)
theorem expansion_ok (k : Nat) (n d : Nat) (st : Store) (hd : 1 ≤ d) (hn2 : n ≤ 1000000) (hd2 : d ≤ 12) : cal (k + 4) 5 [.int n, .int d] st = .ok (.tup (di (exps d n))) st := by
  rw [cal, call_eq (f := ⟨"expansion", ["number", "degree"], ["number", "degree"], b_expansion⟩) rfl]
  have a := need_ok k n d st (by omega) (by omega) (by omega) (by omega)
  have b := expansion_of_ok (k + 2) n d st hd (by omega) (by omega)
  unfold cal at a b
  have h0 : startE 2 [.int n, .int d] = [some (.int n), some (.int d)] := rfl
  simp [b_expansion, h0, a, b]
  exact leave_self (undr_di _ _)
/-! the grown number -/
def vals : Nat → List Nat → List Int
  | _, [] => []
  | d, t :: r => ((ch (t + 1) (d + 1) : Nat) : Int) :: vals (d - 1) r
theorem vals_sum : ∀ (d : Nat) (l : List Nat), (vals d l).sum = ((gsum d l : Nat) : Int)
  | _, [] => rfl
  | d, t :: r => by
    unfold vals gsum
    rw [List.sum_cons, vals_sum (d - 1) r, Int.natCast_add]
theorem vals_len : ∀ (d : Nat) (l : List Nat), (vals d l).length = l.length
  | _, [] => rfl
  | d, t :: r => congrArg (· + 1) (vals_len (d - 1) r)
theorem vals_get : ∀ (i d : Nat) (l : List Nat) (t : Nat), l[i]? = some t → (vals d l)[i]? = some ((ch (t + 1) (d - i + 1) : Nat) : Int)
  | 0, d, x :: r, t, h => by cases h; rfl
  | i + 1, d, x :: r, t, h => by
    unfold vals
    rw [List.getElem?_cons_succ, vals_get i (d - 1) r t (by simpa using h)]
    have : d - 1 - i = d - (i + 1) := by omega
    rw [this]
theorem intsOf_map : ∀ l : List Int, intsOf (l.map D.int) = some l
  | [] => rfl
  | x :: r => by
    rw [List.map_cons]
    unfold intsOf
    rw [intsOf_map r]
theorem sum_ints (l : List Int) (st : Store) : Bi.g .sum st [.lst (l.map D.int)] = some (.val (.int l.sum)) := by
  show gSum st (.lst (l.map D.int)) = _
  unfold gSum
  show (match intsOf (l.map D.int) with
    | some is => some (Rv.val (.int is.sum))
    | none => none) = _
  rw [intsOf_map]
theorem enumD_lst {st : Store} {ds : List D} : enumD st [.lst ds] = some (enumG 0 ds, none) := rfl
theorem take_snoc {α : Type} {l : List α} {i : Nat} {x : α} (h : l[i]? = some x) : l.take (i + 1) = l.take i ++ [x] := by
  rw [List.take_add_one, h]
  rfl
theorem grown_of_ok (k : Nat) (n d : Nat) (st : Store) (hd : 1 ≤ d) (hn2 : n < 100000000000000) (hd2 : d ≤ 20) : cal (k + 2) 3 [.int n, .int d] st = .ok (.int ((gro d n : Nat) : Int)) st := by
  rw [cal, call_eq (f := ⟨"grown_of", ["number", "degree", "at", "top"], ["number", "degree"], b_grown_of⟩) rfl]
  have b := expansion_of_ok k n d st hd (by omega) (by omega)
  unfold cal at b
  have h0 : startE 4 [.int n, .int d] = [some (.int n), some (.int d), none, none] := rfl
  obtain ⟨hD, _, hl⟩ := exps_all d n hd
  have key := compL_inv (src := none) (env0 := [some (.int n), some (.int d), none, none]) (g := tg (.tup [2, 3])) (c := bYes) (e := (ev ⟨callN gn.G tbl (k + 1), gn.G⟩ e_grown_of_0).v) (n := st.length) (xs := enumG 0 (di (exps d n)))
    (fun i acc s => s = st ∧ acc = ((vals d (exps d n)).take i).map D.int) (fun i x acc s hx hn hal ⟨es, ea⟩ => by
      subst es ea
      rw [enumG_get, di, List.getElem?_map] at hx
      cases et : (exps d n)[i]? with
      | none => rw [et] at hx; cases hx
      | some t =>
        rw [et, Nat.zero_add] at hx
        cases hx
        have hi : i < (exps d n).length := (List.getElem?_eq_some_iff.mp et).1
        have ht := dec_all hD t (List.mem_of_getElem? et)
        have hc := fun st => comb_small (a := t + 1) (b := d - i + 1) (by omega) (by omega) st
        have e1 : ((d - i + 1 : Nat) : Int) = (d : Int) + 1 - (i : Nat) := by omega
        rw [e1, Int.natCast_add] at hc
        refine ⟨_, rfl, true, s, rfl, rfl, (fun h => nomatch h), fun _ => ⟨.int ((ch (t + 1) (d - i + 1) : Nat) : Int), s, ?_, rfl, trivial, rfl, ?_⟩⟩
        · simp only [Int.cast_ofNat_Int] at hc
          simp [e_grown_of_0, hc]
        · rw [take_snoc (vals_get i d _ t et), List.map_append]
          rfl) st rfl (by rw [enumG_len, ints_len]; exact szle (by omega)) ⟨rfl, rfl⟩
  obtain ⟨acc, s', hc, hs, es, ea⟩ := key
  subst es
  have el : (enumG 0 (di (exps d n))).length = (vals d (exps d n)).length := by rw [enumG_len, ints_len, vals_len]
  rw [el, List.take_length] at ea
  subst ea
  simp [b_grown_of, h0, b, enumD_lst, wipeE, hc, give_new (undrL_ints _ _), sum_ints, vals_sum]
  rfl
theorem grown_ok (k : Nat) (n d : Nat) (st : Store) (hd : 1 ≤ d) (hn2 : n ≤ 1000000) (hd2 : d ≤ 12) : cal (k + 4) 6 [.int n, .int d] st = .ok (.int ((gro d n : Nat) : Int)) st := by
  rw [cal, call_eq (f := ⟨"grown", ["number", "degree"], ["number", "degree"], b_grown⟩) rfl]
  have a := need_ok k n d st (by omega) (by omega) (by omega) (by omega)
  have b := grown_of_ok (k + 1) n d st hd (by omega) (by omega)
  unfold cal at a b
  have h0 : startE 2 [.int n, .int d] = [some (.int n), some (.int d)] := rfl
  simp [b_grown, h0, a, b]
/-! the law's own binomials -/
theorem rng_get {lo : Int} {n i : Nat} {x : D} (h : (rng lo n)[i]? = some x) : i < n ∧ x = .int (lo + i) := by
  unfold rng at h
  rw [List.getElem?_map] at h
  cases e : (List.range n)[i]? with
  | none => rw [e] at h; cases h
  | some j =>
    rw [e] at h
    cases h
    have hi : i < n := by simpa using (List.getElem?_eq_some_iff.mp e).1
    have := (List.getElem?_eq_some_iff.mp e).2
    rw [List.getElem_range] at this
    subst this
    exact ⟨hi, rfl⟩
theorem rngD_nat {n : Nat} (h : n ≤ 1000) : rngD [.int (n : Int)] = some (rng 0 n, none) := by
  rw [rngD1, if_pos]
  · rfl
  · rw [Bool.and_eq_true]
    refine ⟨?_, dec_eq (szle h)⟩
    unfold L2.PyD.inR
    rw [Bool.and_eq_true]
    exact ⟨dec_eq (by omega), dec_eq (by omega)⟩
theorem comb_ok (k : Nat) (t s : Nat) (st : Store) (h : s ≤ t) (hs : s ≤ 100) (ht : t < 1000000000000000) : cal (k + 1) 8 [.int t, .int s] st = .ok (.int ((ch t s : Nat) : Int)) st := by
  rw [cal, call_eq (f := ⟨"_law_comb", ["top", "size", "found", "at"], ["top", "size"], b_law_comb⟩) rfl]
  have h0 : startE 4 [.int t, .int s] = [some (.int t), some (.int s), none, none] := rfl
  obtain ⟨e', st', hf, y, q1, q2⟩ := forL_nx (src := none) (g := tg (.nm 3)) (b := ex ⟨callN gn.G tbl k, gn.G⟩ w_law_comb_0) (xs := rng 0 s)
    (fun i env s' => ∃ y, env = [some (.int t), some (.int s), some (.int ((ch t i : Nat) : Int)), y] ∧ s' = st) (fun i x env s' hx ⟨y, e1, e2⟩ => by
      subst e1 e2
      obtain ⟨hi, ex⟩ := rng_get hx
      subst ex
      have e3 : ((0 : Int) + (i : Nat)) = ((i : Nat) : Int) := by omega
      rw [e3]
      have hm : mulOk ((ch t i : Nat) : Int) ((t : Int) - (i : Nat)) := .inl (.inr (by omega))
      have hd : divOk (((ch t i : Nat) : Int) * ((t : Int) - (i : Nat))) ((i : Int) + 1) := divOk_small (by omega) (by omega)
      have hq : (((ch t i : Nat) : Int) * ((t : Int) - (i : Nat))).fdiv ((i : Int) + 1) = ((ch t (i + 1) : Nat) : Int) := by
        have h1 := ch_step t i (by omega)
        have h2 : ((ch t i : Nat) : Int) * ((t : Int) - (i : Nat)) = ((ch t (i + 1) : Nat) : Int) * ((i : Int) + 1) := by
          have e4 : ((t : Int) - (i : Nat)) = ((t - i : Nat) : Int) := by omega
          have e5 : ((i : Int) + 1) = ((i + 1 : Nat) : Int) := by omega
          rw [e4, e5, ← Int.natCast_mul, ← Int.natCast_mul, h1]
        rw [h2, Int.fdiv_eq_ediv_of_nonneg _ (by omega)]
        exact Int.mul_ediv_cancel _ (by omega)
      refine ⟨_, rfl, [some (.int t), some (.int s), some (.int ((ch t (i + 1) : Nat) : Int)), some (.int (i : Nat))], s', .inl ?_, trivial, _, rfl, rfl⟩
      simp [w_law_comb_0, o_mul hm, o_div hd, hq]) [some (.int t), some (.int s), some (.int 1), none] st ⟨none, by simp, rfl⟩
  have el : (rng 0 s).length = s := by simp [rng]
  rw [el] at q1
  subst q1 q2
  have hts : ((s : Nat) : Int) ≤ (t : Nat) := by omega
  simp [b_law_comb, h0, rngD_nat (show s ≤ 1000 by omega), hf, hts, h]
theorem alike_int (k : Nat) (x y : Int) (st : Store) : cal (k + 1) 9 [.int x, .int y] st = .ok (.bl (decide (x = y))) st := by
  rw [cal, call_eq (f := ⟨"_law_alike", ["found", "due", "k"], ["found", "due"], b_law_alike⟩) rfl]
  have h0 : startE 3 [.int x, .int y] = [some (.int x), some (.int y), none] := rfl
  simp [b_law_alike, h0]
end Lw_k56
namespace Lw_k56
open PySem PySem.Spec PyProof.Rows L2 L2.PyD
theorem row_step {ns : List Int} {r : Cell} {m : Int} (R : Row ns [r] 0) (h0 : 0 < m) (h1 : m < 2 ^ 64) :
    ∃ (v : Int) (r' : Cell), callN gn.G tbl 11 7 [.cell 0, .int m] [r] = .ok (.int v) [r'] ∧ Row ns [r'] 0 ∧ 0 ≤ v ∧ v < m :=
  taken_ok (f := ⟨"_law_taken", ["row", "many", "cell", "found"], ["row", "many"], b_law_taken⟩) rfl rfl rfl R h0 h1
theorem pow6 : powOk 10 6 := ⟨by decide, by decide⟩
theorem pick (st : Store) {a : Int} (h0 : 0 ≤ a) (h1 : a < 4) : ∃ z : Int, gIx st (.lst [.int 4, .int 40, .int 1000, .int 1000000]) (.int a) = some (.val (.int z)) ∧ 4 ≤ z ∧ z ≤ 1000000 := by
  have : a = 0 ∨ a = 1 ∨ a = 2 ∨ a = 3 := by omega
  rcases this with rfl | rfl | rfl | rfl
  · exact ⟨4, rfl, by decide, by decide⟩
  · exact ⟨40, rfl, by decide, by decide⟩
  · exact ⟨1000, rfl, by decide, by decide⟩
  · exact ⟨1000000, rfl, by decide, by decide⟩
theorem ix_tup (st : Store) {l : List Nat} {i t : Nat} (h : l[i]? = some t) : gIx st (.tup (di l)) (.int (i : Nat)) = some (.val (.int (t : Nat))) := by
  have hi : i < l.length := (List.getElem?_eq_some_iff.mp h).1
  unfold gIx seqD
  have e : atI (di l) ((i : Nat) : Int) = some (.int (t : Nat)) := by
    unfold atI ixN
    rw [if_pos (by omega), if_pos (by rw [ints_len]; omega)]
    show (di l)[((i : Nat) : Int).toNat]? = _
    rw [di, List.getElem?_map, Int.toNat_natCast, h]
    rfl
  simp only [e]
/-- the walk over the expansion -/
theorem walk_ok {x0 x1 x2 x3 x4 : Option D} (n d : Nat) (st : Store) (hd : 1 ≤ d) (hn2 : n ≤ 1000000) (hd2 : d ≤ 12) :
    ∃ y3 y8 : Option D, forL none (tg (.nm 3)) (ex ⟨callN gn.G tbl 11, gn.G⟩ w_law_0) (rng 0 (exps d n).length) [x0, x1, x2, x3, x4, some (.int n), some (.int d), some (.tup (di (exps d n))), some .non, some (.int 0), some (.int 0)] st =
      .nx [x0, x1, x2, y3, x4, some (.int n), some (.int d), some (.tup (di (exps d n))), y8, some (.int n), some (.int ((gro d n : Nat) : Int))] st := by
  obtain ⟨hD, hw, hl⟩ := exps_all d n hd
  obtain ⟨l, el⟩ : ∃ l, l = exps d n := ⟨_, rfl⟩
  have hg : gsum d l = gro d n := by rw [el]; rfl
  rw [← el] at hD hw hl ⊢
  have hA := dec_all hD
  obtain ⟨e', st', hf, y3, y8, wh, af, q1, q2, q3, q4, _⟩ := forL_nx (src := none) (g := tg (.nm 3)) (b := ex ⟨callN gn.G tbl 11, gn.G⟩ w_law_0) (xs := rng 0 l.length)
    (fun i env s => ∃ (y3 : Option D) (y8 : D) (wh af : Nat), env = [x0, x1, x2, y3, x4, some (.int n), some (.int d), some (.tup (di l)), some y8, some (.int wh), some (.int af)] ∧ s = st ∧
      wh + wsum (d - i) (l.drop i) = n ∧ af + gsum (d - i) (l.drop i) = gro d n ∧ ∃ b : Nat, Dec b (d - i) (l.drop i) ∧ (y8 = .non ∨ y8 = .int b))
    (fun i x env s hx ⟨y3, y8, wh, af, e1, e2, g1, g2, b, g3, g4⟩ => by
      subst e1 e2
      obtain ⟨hi, ex⟩ := rng_get hx
      subst ex
      have e3 : ((0 : Int) + (i : Nat)) = ((i : Nat) : Int) := by omega
      rw [e3]
      have hdrop : l.drop i = l[i] :: l.drop (i + 1) := List.drop_eq_getElem_cons hi
      have het : l[i]? = some l[i] := List.getElem?_eq_getElem hi
      obtain ⟨t, et⟩ : ∃ t, t = l[i] := ⟨_, rfl⟩
      rw [← et] at hdrop het
      have hm := hA t (List.mem_of_getElem? het)
      rw [hdrop] at g1 g2 g3
      obtain ⟨f1, f2, f3, f4⟩ := g3
      have e4 : ((d - i : Nat) : Int) = (d : Int) - (i : Nat) := by omega
      have c1 : callN gn.G tbl 11 8 [.int (t : Nat), .int ((d : Int) - (i : Nat))] s = .ok (.int ((ch t (d - i) : Nat) : Int)) s := by
        have := comb_ok 10 t (d - i) s f3 (by omega) (by omega)
        rw [e4] at this
        exact this
      have c2 : callN gn.G tbl 11 8 [.int ((t : Int) + 1), .int ((d : Int) - (i : Nat) + 1)] s = .ok (.int ((ch (t + 1) (d - i + 1) : Nat) : Int)) s := by
        have := comb_ok 10 (t + 1) (d - i + 1) s (by omega) (by omega) (by omega)
        rw [Int.natCast_add, Int.natCast_add, e4] at this
        exact this
      have hx1 := fun st => ix_tup st het
      have c3 : ¬ ((t : Int) < (d : Int) - (i : Nat)) := by omega
      have hstep : d - i - 1 = d - (i + 1) := by omega
      unfold wsum at g1
      unfold gsum at g2
      rw [hstep] at g1 g2 f4
      refine ⟨_, rfl, [x0, x1, x2, some (.int (i : Nat)), x4, some (.int n), some (.int d), some (.tup (di l)), some (.int t), some (.int ((wh + ch t (d - i) : Nat) : Int)), some (.int ((af + ch (t + 1) (d - i + 1) : Nat) : Int))], s, .inl ?_, trivial, _, _, _, _, rfl, rfl, by omega, by omega, t, f4, .inr rfl⟩
      rcases g4 with g4 | g4
      · subst g4
        simp [w_law_0, hx1, c3, c1, c2]
      · subst g4
        have c4 : ¬ ((b : Int) ≤ (t : Nat)) := by omega
        simp [w_law_0, hx1, c3, c1, c2, c4]) [x0, x1, x2, x3, x4, some (.int n), some (.int d), some (.tup (di l)), some .non, some (.int 0), some (.int 0)] st ⟨x3, .non, 0, 0, rfl, rfl, by simpa using hw, by simpa using hg, n + d, hD, .inl rfl⟩
  have er : (rng 0 l.length).length = l.length := by simp [rng]
  rw [er, List.drop_length] at q3 q4
  have e1 : wh = n := q3
  have e2 : af = gro d n := q4
  subst q1 q2
  rw [e1, e2] at hf
  exact ⟨y3, some y8, hf⟩
theorem sixteen : ∀ s : Nat, s ≤ 4 → ch 16 s ≤ 1820 := by decide
theorem ch_small {d s : Nat} (hd : d ≤ 12) (hs : s ≤ 4) : ch (d + s) s ≤ 1000000 := by
  have h1 := ch_mono (show d + s ≤ 16 by omega) s
  have h2 := sixteen s hs
  omega
theorem turn_ok (ns : List Int) {x0 x2 x3 x4 x5 x6 x7 x8 x9 x10 : Option D} {r : Cell} (R : Row ns [r] 0) :
    ∃ (y3 y4 y5 y6 y7 y8 y9 y10 : Option D) (r' : Cell), ex ⟨callN gn.G tbl 11, gn.G⟩ w_law_1 [x0, some (.cell 0), x2, x3, x4, x5, x6, x7, x8, x9, x10] [r] = .nx [x0, some (.cell 0), x2, y3, y4, y5, y6, y7, y8, y9, y10] [r'] ∧ Row ns [r'] 0 := by
  obtain ⟨a, r1, ha, R1, a0, a1⟩ := row_step (m := 4) R (by decide) (by decide)
  obtain ⟨z, hz, z0, z1⟩ := pick [r1] a0 a1
  obtain ⟨nI, r2, hn, R2, n0, n1⟩ := row_step (m := z + 1) R1 (by omega) (by omega)
  obtain ⟨g, r3, hg, R3, g0, g1⟩ := row_step (m := 12) R2 (by decide) (by decide)
  obtain ⟨n, rfl⟩ := Int.eq_ofNat_of_zero_le n0
  obtain ⟨d, hd⟩ := Int.eq_ofNat_of_zero_le (show 0 ≤ 1 + g by omega)
  have hd1 : 1 ≤ d := by omega
  have hd2 : d ≤ 12 := by omega
  have hn2 : n ≤ 1000000 := by omega
  have hE : ∀ st, callN gn.G tbl 11 5 [.int (n : Nat), .int (d : Nat)] st = .ok (.tup (di (exps d n))) st := fun st => expansion_ok 7 n d st hd1 hn2 hd2
  have hG : ∀ st, callN gn.G tbl 11 6 [.int (n : Nat), .int (d : Nat)] st = .ok (.int ((gro d n : Nat) : Int)) st := fun st => grown_ok 7 n d st hd1 hn2 hd2
  have hA : ∀ x y st, callN gn.G tbl 11 9 [.int x, .int y] st = .ok (.bl (decide (x = y))) st := fun x y st => alike_int 10 x y st
  have hl := (exps_all d n hd1).2.2
  have hl2 : ¬ ((d : Int) < ((exps d n).length : Nat)) := by omega
  have hr := rngD_nat (n := (exps d n).length) (by omega)
  obtain ⟨y3, y8, hW⟩ := walk_ok (x0 := x0) (x1 := some (.cell 0)) (x2 := x2) (x3 := x3) (x4 := x4) n d [r3] hd1 hn2 hd2
  obtain ⟨m, r4, hm, R4, m0, m1⟩ := row_step (m := 5) R3 (by decide) (by decide)
  obtain ⟨s, rfl⟩ := Int.eq_ofNat_of_zero_le m0
  have e1 : (d : Int) + (1 + (s : Nat)) - 1 = ((d + s : Nat) : Int) := by omega
  have e2 : (1 : Int) + (s : Nat) - 1 = ((s : Nat) : Int) := by omega
  have e3 : (d : Int) + (1 + (s : Nat)) = ((d + s + 1 : Nat) : Int) := by omega
  have hc1 : ∀ st, callN gn.G tbl 11 8 [.int ((d : Int) + (1 + (s : Nat)) - 1), .int ((1 : Int) + (s : Nat) - 1)] st = .ok (.int ((ch (d + s) s : Nat) : Int)) st := fun st => by
    rw [e1, e2]; exact comb_ok 10 (d + s) s st (by omega) (by omega) (by omega)
  have hc2 : ∀ st, callN gn.G tbl 11 8 [.int ((d : Int) + (1 + (s : Nat))), .int ((1 : Int) + (s : Nat) - 1)] st = .ok (.int ((ch (d + s + 1) s : Nat) : Int)) st := fun st => by
    rw [e3, e2]; exact comb_ok 10 (d + s + 1) s st (by omega) (by omega) (by omega)
  have hG2 : ∀ st, callN gn.G tbl 11 6 [.int ((ch (d + s) s : Nat) : Int), .int (d : Nat)] st = .ok (.int ((ch (d + s + 1) s : Nat) : Int)) st := fun st => by
    have h1 := grown_ok 7 (ch (d + s) s) d st hd1 (ch_small hd2 (by omega)) hd2
    have h2 := gro_ch d s hd1
    rw [ch_sym d s] at h2
    have h3 := ch_sym (d + 1) s
    have e : d + 1 + s = d + s + 1 := by omega
    rw [e] at h3
    rw [h2, h3] at h1
    exact h1
  have hfin : ∀ P : Prop, P ∨ ¬ P := fun P => Classical.em P
  by_cases c : n = 0
  · have c1 : ¬ (0 : Int) < (n : Nat) := by omega
    refine ⟨y3, some (.int (1 + (s : Nat))), some (.int (n : Nat)), some (.int (d : Nat)), some (.tup (di (exps d n))), y8, some (.int (n : Nat)), some (.int ((gro d n : Nat) : Int)), r4, ?_, R4⟩
    simp [w_law_1, ha, hz, hn, hg, hd, o_pow pow6, hE, tg_tup4, ints_len, hl2, hr, hW, hG, hA, hm, hc1, hc2, hG2, c1]
    exact fun q => absurd q (by omega)
  · have hmo := gro_mono d (n - 1) n hd1 (by omega)
    have hG3 : ∀ st, callN gn.G tbl 11 6 [.int ((n : Int) - 1), .int (d : Nat)] st = .ok (.int ((gro d (n - 1) : Nat) : Int)) st := fun st => by
      have := grown_ok 7 (n - 1) d st hd1 (by omega) hd2
      have e : ((n - 1 : Nat) : Int) = (n : Int) - 1 := by omega
      rw [e] at this
      exact this
    have c1 : (0 : Int) < (n : Nat) := by omega
    have c2 : ¬ ((gro d n : Nat) : Int) ≤ ((gro d (n - 1) : Nat) : Int) := by omega
    refine ⟨y3, some (.int (1 + (s : Nat))), some (.int (n : Nat)), some (.int (d : Nat)), some (.tup (di (exps d n))), y8, some (.int (n : Nat)), some (.int ((gro d n : Nat) : Int)), r4, ?_, R4⟩
    simp [w_law_1, ha, hz, hn, hg, hd, o_pow pow6, hE, tg_tup4, ints_len, hl2, hr, hW, hG, hA, hm, hc1, hc2, hG2, hG3, c1, c2]
theorem law_holds (ns : List Int) (h : ns.length ≤ 63) : callN gn.G tbl 12 i_law [.frl (ns.map D.int)] [] = .ok (.bl true) [] := by
  rw [call_eq (f := ⟨"law", ["script", "row", "turn", "at", "many", "number", "degree", "found", "top", "whole", "after"], ["script"], b_law⟩) rfl]
  have h0 : startE 11 [.frl (ns.map D.int)] = [some (.frl (ns.map D.int)), none, none, none, none, none, none, none, none, none, none] := rfl
  have R0 : Row ns [rowC ns 0 4156 0] 0 := ⟨0, 4156, 0, rfl, by decide, by decide, by decide⟩
  obtain ⟨e', st', hf, y2, y3, y4, y5, y6, y7, y8, y9, y10, r, q1, q2, R⟩ := forL_nx (src := none) (g := tg (.nm 2)) (b := ex ⟨callN gn.G tbl 11, gn.G⟩ w_law_1) (xs := rng 0 4)
    (fun i env s => ∃ (y2 y3 y4 y5 y6 y7 y8 y9 y10 : Option D) (r : Cell), env = [some (.frl (ns.map D.int)), some (.cell 0), y2, y3, y4, y5, y6, y7, y8, y9, y10] ∧ s = [r] ∧ Row ns [r] 0)
    (fun i x env s hx ⟨y2, y3, y4, y5, y6, y7, y8, y9, y10, r, e1, e2, R⟩ => by
      subst e1 e2
      obtain ⟨z3, z4, z5, z6, z7, z8, z9, z10, r', ht, R'⟩ := turn_ok ns (x0 := some (.frl (ns.map D.int))) (x2 := some x) (x3 := y3) (x4 := y4) (x5 := y5) (x6 := y6) (x7 := y7) (x8 := y8) (x9 := y9) (x10 := y10) R
      exact ⟨_, rfl, _, _, .inl ht, trivial, _, _, _, _, _, _, _, _, _, _, rfl, rfl, R'⟩)
    [some (.frl (ns.map D.int)), some (.cell 0), none, none, none, none, none, none, none, none, none] [rowC ns 0 4156 0] ⟨_, _, _, _, _, _, _, _, _, _, rfl, rfl, R0⟩
  subst q1 q2
  obtain ⟨g, r3, hg, R3, g0, g1⟩ := row_step (m := 12) R (by decide) (by decide)
  obtain ⟨d, hd⟩ := Int.eq_ofNat_of_zero_le (show 0 ≤ 1 + g by omega)
  have hG : ∀ st, callN gn.G tbl 11 6 [.int 0, .int (d : Nat)] st = .ok (.int 0) st := fun st => by
    have := grown_ok 7 0 d st (by omega) (by omega) (by omega)
    rw [gro_zero] at this
    exact this
  have hr : rngD [.int 4] = some (rng 0 4, none) := rngD_nat (n := 4) (by decide)
  have hf' : forL none (tg (.nm 2)) (ex ⟨callN gn.G tbl 11, gn.G⟩ w_law_1) (rng 0 4) [some (.frl (ns.map D.int)), some (.cell 0), none, none, none, none, none, none, none, none, none] [.lst [.frl (ns.map D.int), .int 0, .int 4156, .int 0]] = _ := hf
  simp [b_law, h0, hr, hf', hg, hd, hG]
  exact leave_blA (st0 := []) (t := [r3])
end Lw_k56
open PySem PySem.W PyProof.Rows L2 L2.PyD
set_option maxHeartbeats 0 in
theorem PySem.Challenge.cw_idealcore_k56_expansions_and_growth_holds : PySem.Challenge.rw_idealcore_k56_expansions_and_growth.Holds := by
  w_on; o_law; k_head; (case hw => w_witness2)
  k_fill
  refine L2.walk_of (l := PySem.Challenge.rw_idealcore_k56_expansions_and_growth) (n := 63) (k := 12) (x := "script") (CX := fun w => L2.CX PySem.Challenge.pw_idealcore_k56_expansions_and_growth w) (sp := fun w => spLaw _) rfl (by decide) rfl ⟨rfl, by decide, by decide⟩ (fun w h Y => PySem.W.kIn_of Y) ?F (fun _ _ a ns hl hO hS => ⟨a, ns, rfl, fix_of hO hS, hl, fun _ => rfl⟩) (fun w H s e s' h => ?X)
  case X => exact cx_no h
  case F =>
    intro w mg fa h KX G hmg
    refine' law_F (g := Lw_k56.gn) (tbl := Lw_k56.tbl) (sts := Lw_k56.sts) (i := Lw_k56.i_law) KX G ⟨⟨?d0, ?d1, ?d2, ?d3, ?d4, ?d5, ?d6, ?d7, ?d8, ?d9, ?d10, trivial⟩, rfl, ⟨?g0, ?g1, trivial⟩, ⟨?b0, ?b1, ?b2, ?b3, ?b4, ?b5, ?b6, ?b7, ?b8, ?b9, trivial⟩, ⟨?i0, trivial⟩⟩ Lw_k56.tbl_ok rfl rfl hmg Lw_k56.law_holds
    (case d0 => refine' defIn_mk ?a ?l ?c ?k ?b; (case a => k_is); (case l => k_is); (case c => k_is); (case k => k_is); (case b => exact fun _ _ _ _ _ _ us hl => match us, hl with | [_], _ => rfl))
    (case d1 => refine' defIn_mk ?a ?l ?c ?k ?b; (case a => k_is); (case l => k_is); (case c => k_is); (case k => k_is); (case b => exact fun _ _ _ _ _ _ us hl => match us, hl with | [_, _, _], _ => rfl))
    (case d2 => refine' defIn_mk ?a ?l ?c ?k ?b; (case a => k_is); (case l => k_is); (case c => k_is); (case k => k_is); (case b => exact fun _ _ _ _ _ _ us hl => match us, hl with | [_, _], _ => rfl))
    (case d3 => refine' defIn_mk ?a ?l ?c ?k ?b; (case a => k_is); (case l => k_is); (case c => k_is); (case k => k_is); (case b => exact fun _ _ _ _ _ _ us hl => match us, hl with | [_, _], _ => rfl))
    (case d4 => refine' defIn_mk ?a ?l ?c ?k ?b; (case a => k_is); (case l => k_is); (case c => k_is); (case k => k_is); (case b => exact fun _ _ _ _ _ _ us hl => match us, hl with | [_, _], _ => rfl))
    (case d5 => refine' defIn_mk ?a ?l ?c ?k ?b; (case a => k_is); (case l => k_is); (case c => k_is); (case k => k_is); (case b => exact fun _ _ _ _ _ _ us hl => match us, hl with | [_, _], _ => rfl))
    (case d6 => refine' defIn_mk ?a ?l ?c ?k ?b; (case a => k_is); (case l => k_is); (case c => k_is); (case k => k_is); (case b => exact fun _ _ _ _ _ _ us hl => match us, hl with | [_, _], _ => rfl))
    (case d7 => refine' defIn_mk ?a ?l ?c ?k ?b; (case a => k_is); (case l => k_is); (case c => k_is); (case k => k_is); (case b => exact fun _ _ _ _ _ _ us hl => match us, hl with | [_, _], _ => rfl))
    (case d8 => refine' defIn_mk ?a ?l ?c ?k ?b; (case a => k_is); (case l => k_is); (case c => k_is); (case k => k_is); (case b => exact fun _ _ _ _ _ _ us hl => match us, hl with | [_, _], _ => rfl))
    (case d9 => refine' defIn_mk ?a ?l ?c ?k ?b; (case a => k_is); (case l => k_is); (case c => k_is); (case k => k_is); (case b => exact fun _ _ _ _ _ _ us hl => match us, hl with | [_, _], _ => rfl))
    (case d10 => refine' defIn_mk ?a ?l ?c ?k ?b; (case a => k_is); (case l => k_is); (case c => k_is); (case k => k_is); (case b => exact fun _ _ _ _ _ _ us hl => match us, hl with | [_], _ => rfl))
    (case g0 => refine' glIn_int ?a; (case a => k_is))
    (case g1 => refine' glIn_int ?a; (case a => k_is))
    (case b0 => refine' BltIn.mk ?a; (case a => k_is))
    (case b1 => refine' BltIn.mk ?a; (case a => k_is))
    (case b2 => refine' BltIn.mk ?a; (case a => k_is))
    (case b3 => refine' BltIn.mk ?a; (case a => k_is))
    (case b4 => refine' BltIn.mk ?a; (case a => k_is))
    (case b5 => refine' BltIn.mk ?a; (case a => k_is))
    (case b6 => refine' BltIn.mk ?a; (case a => k_is))
    (case b7 => refine' BltIn.mk ?a; (case a => k_is))
    (case b8 => refine' BltIn.mk ?a; (case a => k_is))
    (case b9 => refine' BltIn.mk ?a; (case a => k_is))
    (case i0 => refine' ImpIn.mk ?a; (case a => k_is))
