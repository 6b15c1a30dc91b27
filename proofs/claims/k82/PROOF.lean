import PyProof.Rows.All
import HandS.ForMost
import HandS.Exc
import HandS.TryOnly
import HandS.TryMany
import HandS.WordsExc
import HandS.CallSlots
import HandS.IsInst
import HandS.TupLe
import HandS.TupAny
import HandS.TupMul
import HandS.Style
import HandS.Flow
import HandS.SortInts
import HandS.Conv
import HandS.Walk
import HandS.Deep
import HandS.Zip
import HandS.Wide
import KE.DataMinMax
import KE.KTupSum
import PyProof.ReprRoads
import HandS.RaiseMore
import KE.GoesEnum
import PyProof.LongRange
import HandS.HeadEnd
import HandS.Head0
import HandS.Head1
import HandS.Head2
import HandS.HeadHook1
import HandS.HeadHook2
import HandS.Defaults
import KE.KStateDown
import PySem.Challenge.RW_faxhouse_k82_whole_tariffs_of_any_length
set_option Elab.async false
set_option linter.all false
set_option maxRecDepth 100000
/-! DD: deep data over the hand layer: values as trees, a small own heap for what may change, one rule a construct. -/
namespace DD
open PySem PySem.Spec PyProof.Rows L2

inductive D where
  | non | bl (b : Bool) | int (i : Int) | str (x : Str) | tup (ds : List D) | fl (ds : List D) | ref (n : Nat) | op (v : V)
inductive IO where
  | lst (ds : List D) | dic (kvs : List (Key × D))
abbrev IH := List IO
abbrev En := List (Option D)
/-- an exception: its class by name, its fields -/
structure XD where
  cls : Str
  fs : List (Str × D)
inductive Res (α : Type) where
  | val (a : α) (h : IH) | exc (x : XD) (h : IH) | stk
inductive Out where
  | nx (e : En) (h : IH) | rt (d : D) (h : IH) | bk (e : En) (h : IH) | ct (e : En) (h : IH) | exc (x : XD) (e : En) (h : IH) | stk

/-- a list that never changes: the script, a list of the module's -/
def FrzL (K : PySem.W.Frag) (H : Hp) (a : Addr) (vs : List V) : Prop :=
  (∃ o, H a = some (.frz o (.lst vs))) ∨ ∃ (o : Obj) (us : Array Value) (n : Nat), K.lookup a = some o ∧ o.cls = .type "list" ∧ o.dict = none ∧ o.data = .seq us n ∧ us.size ≤ sizeLine ∧ Vals vs us.toList
theorem FrzL.sq {K : PySem.W.Frag} {H : Hp} {a : Addr} {vs : List V} (h : FrzL K H a vs) : SqL K H a vs := by
  rcases h with h | h
  · exact .inl (.inr h)
  · exact .inr h
section
variable (K : PySem.W.Frag) (H : Hp) (μ : List Addr)
mutual
inductive Rp : V → D → Prop
  | non : Rp .non .non
  | bl (b : Bool) : Rp (.bl b) (.bl b)
  | int (i : Int) : Rp (.int i) (.int i)
  | str (x : Str) : Rp (.str x) (.str x)
  | tup {a : Addr} {vs : List V} {ds : List D} : SqT K H a vs → Rps vs ds → Rp (.ref a) (.tup ds)
  | fl {a : Addr} {vs : List V} {ds : List D} : FrzL K H a vs → Rps vs ds → Rp (.ref a) (.fl ds)
  | ref {a : Addr} {n : Nat} : μ[n]? = some a → Rp (.ref a) (.ref n)
  | op (v : V) : Rp v (.op v)
inductive Rps : List V → List D → Prop
  | nil : Rps [] []
  | cons {v : V} {d : D} {vs : List V} {ds : List D} : Rp v d → Rps vs ds → Rps (v :: vs) (d :: ds)
end
end
structure Mn (K : PySem.W.Frag) (H : Hp) (μ : List Addr) (H' : Hp) (μ' : List Addr) : Prop where
  tup : ∀ a xs, SqT K H a xs → SqT K H' a xs
  frz : ∀ a xs, FrzL K H a xs → FrzL K H' a xs
  pre : ∀ (n : Nat) a, μ[n]? = some a → μ'[n]? = some a
structure Ext (K : PySem.W.Frag) (H : Hp) (μ : List Addr) (H' : Hp) (μ' : List Addr) : Prop extends Mn K H μ H' μ' where
  keep : ∀ a o, H a = some o → a ∉ μ → H' a = some o
  fresh : ∀ a, a ∈ μ' → a ∉ μ → H a = none
section
variable {K : PySem.W.Frag} {H H' H2 : Hp} {μ μ' μ2 : List Addr}
mutual
theorem Rp.mn (x : Mn K H μ H' μ') : ∀ {v : V} {d : D}, Rp K H μ v d → Rp K H' μ' v d
  | _, _, .non => .non
  | _, _, .bl b => .bl b
  | _, _, .int i => .int i
  | _, _, .str z => .str z
  | _, _, .tup s r => .tup (x.tup _ _ s) (Rps.mn x r)
  | _, _, .fl s r => .fl (x.frz _ _ s) (Rps.mn x r)
  | _, _, .ref e => .ref (x.pre _ _ e)
  | _, _, .op v => .op v
theorem Rps.mn (x : Mn K H μ H' μ') : ∀ {vs : List V} {ds : List D}, Rps K H μ vs ds → Rps K H' μ' vs ds
  | _, _, .nil => .nil
  | _, _, .cons a b => .cons (Rp.mn x a) (Rps.mn x b)
end
theorem Rp.mono (x : Ext K H μ H' μ') {v : V} {d : D} (r : Rp K H μ v d) : Rp K H' μ' v d := r.mn x.toMn
theorem Rps.mono (x : Ext K H μ H' μ') {v : List V} {d : List D} (r : Rps K H μ v d) : Rps K H' μ' v d := r.mn x.toMn
theorem Ext.refl : Ext K H μ H μ := ⟨⟨fun _ _ h => h, fun _ _ h => h, fun _ _ h => h⟩, fun _ _ h _ => h, fun _ h g => absurd h g⟩
theorem Ext.trans (a : Ext K H μ H' μ') (b : Ext K H' μ' H2 μ2) : Ext K H μ H2 μ2 := by
  refine ⟨⟨fun c xs h => b.tup c xs (a.tup c xs h), fun c xs h => b.frz c xs (a.frz c xs h), fun n c h => b.pre n c (a.pre n c h)⟩, fun c o h g => ?_, fun c h g => ?_⟩
  · refine b.keep c o (a.keep c o h g) fun z => ?_
    have := a.fresh c z g
    rw [h] at this
    cases this
  · by_cases z : c ∈ μ'
    · exact a.fresh c z g
    · cases q : H c with
      | none => rfl
      | some o =>
        have e1 := a.keep c o q g
        rw [b.fresh c h z] at e1
        cases e1
theorem sqT_upd {a p : Addr} {xs : List V} {o : HO} (h : SqT K H a xs) (hp : H p = none) : SqT K (upd H p o) a xs := by
  rcases h with (h | ⟨f, h⟩) | h
  · exact .inl (.inl (by rw [upd_ne (ne_of_none h hp)]; exact h))
  · exact .inl (.inr ⟨f, by rw [upd_ne (ne_of_none h hp)]; exact h⟩)
  · exact .inr h
theorem frzL_upd {a p : Addr} {xs : List V} {o : HO} (h : FrzL K H a xs) (hp : H p = none) : FrzL K (upd H p o) a xs := by
  rcases h with ⟨f, h⟩ | h
  · exact .inl ⟨f, by rw [upd_ne (ne_of_none h hp)]; exact h⟩
  · exact .inr h
theorem Ext.new {p : Addr} {o : HO} (hp : H p = none) : Ext K H μ (upd H p o) μ := ⟨⟨fun _ _ h => sqT_upd h hp, fun _ _ h => frzL_upd h hp, fun _ _ h => h⟩, fun a o h _ => by rw [upd_ne (ne_of_none h hp)]; exact h, fun _ h g => absurd h g⟩
theorem Ext.newM {p : Addr} {o : HO} (hp : H p = none) : Ext K H μ (upd H p o) (μ ++ [p]) := by
  refine ⟨⟨fun _ _ h => sqT_upd h hp, fun _ _ h => frzL_upd h hp, fun n a h => ?_⟩, fun a o h _ => by rw [upd_ne (ne_of_none h hp)]; exact h, fun a h g => ?_⟩
  · rw [List.getElem?_append_left]
    · exact h
    · exact (List.getElem?_eq_some_iff.mp h).1
  · rcases List.mem_append.mp h with h | h
    · exact absurd h g
    · rw [List.mem_singleton.mp h]
      exact hp
/-- a list, a dict is written -/
theorem sqT_upd_mut {a p : Addr} {xs : List V} {o u : HO} (h : SqT K H a xs) (hp : H p = some u) (h1 : ∀ xs, u ≠ .tup xs) (h2 : ∀ b x, u ≠ .frz b x) : SqT K (upd H p o) a xs := by
  rcases h with (h | ⟨f, h⟩) | h
  · refine .inl (.inl ?_)
    rw [upd_ne]
    · exact h
    · exact ne_of h hp fun e => h1 _ e.symm
  · refine .inl (.inr ⟨f, ?_⟩)
    rw [upd_ne]
    · exact h
    · exact ne_of h hp fun e => h2 _ _ e.symm
  · exact .inr h
theorem frzL_upd_mut {a p : Addr} {xs : List V} {o u : HO} (h : FrzL K H a xs) (hp : H p = some u) (h2 : ∀ b x, u ≠ .frz b x) : FrzL K (upd H p o) a xs := by
  rcases h with ⟨f, h⟩ | h
  · refine .inl ⟨f, ?_⟩
    rw [upd_ne]
    · exact h
    · exact ne_of h hp fun e => h2 _ _ e.symm
  · exact .inr h
theorem Ext.mut {p : Addr} {o u : HO} {n : Nat} (hn : μ[n]? = some p) (hp : H p = some u) (h1 : ∀ xs, u ≠ .tup xs) (h2 : ∀ b x, u ≠ .frz b x) : Ext K H μ (upd H p o) μ :=
  ⟨⟨fun _ _ h => sqT_upd_mut h hp h1 h2, fun _ _ h => frzL_upd_mut h hp h2, fun _ _ h => h⟩, fun a o h g => by
    rw [upd_ne]
    · exact h
    · exact fun z => g (by rw [z]; exact List.mem_of_getElem? hn), fun _ h g => absurd h g⟩
theorem Rps.length : ∀ {vs : List V} {ds : List D}, Rps K H μ vs ds → vs.length = ds.length
  | _, _, .nil => rfl
  | _, _, .cons _ b => by rw [List.length_cons, List.length_cons, b.length]
theorem Rps.append : ∀ {vs ws : List V} {ds es : List D}, Rps K H μ vs ds → Rps K H μ ws es → Rps K H μ (vs ++ ws) (ds ++ es)
  | _, _, _, _, .nil, s => s
  | _, _, _, _, .cons a b, s => .cons a (b.append s)
theorem Rps.get : ∀ {vs : List V} {ds : List D} {i : Nat} {d : D}, Rps K H μ vs ds → ds[i]? = some d → ∃ v, vs[i]? = some v ∧ Rp K H μ v d
  | _, _, _, _, .nil, e => by simp at e
  | _, _, 0, _, .cons a _, e => by
    simp at e
    subst e
    exact ⟨_, rfl, a⟩
  | _, _, i + 1, _, .cons _ b, e => by
    obtain ⟨v, h1, h2⟩ := b.get (i := i) (by simpa using e)
    exact ⟨v, by simpa using h1, h2⟩
theorem Rps.getV : ∀ {vs : List V} {ds : List D} {i : Nat} {v : V}, Rps K H μ vs ds → vs[i]? = some v → ∃ d, ds[i]? = some d ∧ Rp K H μ v d
  | _, _, _, _, .nil, e => by simp at e
  | _, _, 0, _, .cons a _, e => by
    simp at e
    subst e
    exact ⟨_, rfl, a⟩
  | _, _, i + 1, _, .cons _ b, e => by
    obtain ⟨v, h1, h2⟩ := b.getV (i := i) (by simpa using e)
    exact ⟨v, by simpa using h1, h2⟩
theorem Rps.take : ∀ {vs : List V} {ds : List D} (n : Nat), Rps K H μ vs ds → Rps K H μ (vs.take n) (ds.take n)
  | _, _, 0, _ => .nil
  | _, _, _ + 1, .nil => .nil
  | _, _, n + 1, .cons a b => .cons a (b.take n)
theorem Rps.drop : ∀ {vs : List V} {ds : List D} (n : Nat), Rps K H μ vs ds → Rps K H μ (vs.drop n) (ds.drop n)
  | _, _, 0, r => r
  | _, _, _ + 1, .nil => .nil
  | _, _, n + 1, .cons _ b => b.drop n
theorem Rps.set : ∀ {vs : List V} {ds : List D} (n : Nat) {v : V} {d : D}, Rps K H μ vs ds → Rp K H μ v d → Rps K H μ (vs.set n v) (ds.set n d)
  | _, _, _, _, _, .nil, _ => .nil
  | _, _, 0, _, _, .cons _ b, r => .cons r b
  | _, _, n + 1, _, _, .cons a b, r => .cons a (b.set n r)
theorem Rps.reverse : ∀ {vs : List V} {ds : List D}, Rps K H μ vs ds → Rps K H μ vs.reverse ds.reverse
  | _, _, .nil => .nil
  | _, _, .cons a b => by
    rw [List.reverse_cons, List.reverse_cons]
    exact b.reverse.append (.cons a .nil)

/-! ### the own heap -/
def OkO (K : PySem.W.Frag) (H : Hp) (μ : List Addr) (a : Addr) : IO → Prop
  | .lst ds => ∃ vs, H a = some (.lst vs) ∧ Rps K H μ vs ds
  | .dic kvs => ∃ kws : List (Key × V), H a = some (.dK kws) ∧ kws.map (·.1) = kvs.map (·.1) ∧ Rps K H μ (kws.map (·.2)) (kvs.map (·.2))
structure Rl (K : PySem.W.Frag) (H : Hp) (μ : List Addr) (h : IH) : Prop where
  nd : μ.Nodup
  len : μ.length = h.length
  ok : ∀ (n : Nat) a o, μ[n]? = some a → h[n]? = some o → OkO K H μ a o
def EnvR (K : PySem.W.Frag) (H : Hp) (μ : List Addr) (σ : L2.St) (env : En) : Prop := σ.length = env.length ∧ ∀ (i : Nat) d, env[i]? = some (some d) → ∃ v, σ[i]? = some (some v) ∧ Rp K H μ v d
theorem EnvR.mono {σ : L2.St} {env : En} (x : Ext K H μ H' μ') (r : EnvR K H μ σ env) : EnvR K H' μ' σ env := ⟨r.1, fun i d e => by
  obtain ⟨v, h1, h2⟩ := r.2 i d e
  exact ⟨v, h1, h2.mono x⟩⟩
theorem EnvR.set {σ : L2.St} {env : En} {i : Nat} {v : V} {d : D} (r : EnvR K H μ σ env) (q : Rp K H μ v d) : EnvR K H μ (σ.set i (some v)) (env.set i (some d)) := by
  refine ⟨by rw [List.length_set, List.length_set]; exact r.1, fun j d' e => ?_⟩
  rw [List.getElem?_set] at e ⊢
  by_cases hij : i = j
  · subst hij
    rw [if_pos rfl] at e ⊢
    by_cases hi : i < env.length
    · rw [if_pos hi] at e
      rw [if_pos (by rw [r.1]; exact hi)]
      cases e
      exact ⟨v, rfl, q⟩
    · rw [if_neg hi] at e
      cases e
  · rw [if_neg hij] at e ⊢
    exact r.2 j d' e
theorem OkO.mn {a : Addr} {o : IO} (x : Mn K H μ H' μ') (e : H' a = H a) : OkO K H μ a o → OkO K H' μ' a o := by
  intro q
  cases o with
  | lst ds =>
    obtain ⟨vs, h1, h2⟩ := q
    exact ⟨vs, e.trans h1, h2.mn x⟩
  | dic kvs =>
    obtain ⟨kws, h1, h2, h3⟩ := q
    exact ⟨kws, e.trans h1, h2, h3.mn x⟩
theorem OkO.mono {a : Addr} {o : IO} (x : Ext K H μ H' μ') (e : H' a = H a) (q : OkO K H μ a o) : OkO K H' μ' a o := q.mn x.toMn e
theorem OkO.some {a : Addr} {o : IO} (q : OkO K H μ a o) : ∃ u, H a = some u ∧ ∀ xs, u ≠ .tup xs := by
  cases o with
  | lst ds =>
    obtain ⟨vs, h1, h2⟩ := q
    exact ⟨_, h1, fun _ e => by cases e⟩
  | dic kvs =>
    obtain ⟨kws, h1, h2, h3⟩ := q
    exact ⟨_, h1, fun _ e => by cases e⟩
theorem Rl.at {h : IH} {n : Nat} {a : Addr} (r : Rl K H μ h) (e : μ[n]? = some a) : ∃ o, h[n]? = some o ∧ OkO K H μ a o := by
  have hn : n < h.length := by
    rw [← r.len]
    exact (List.getElem?_eq_some_iff.mp e).1
  exact ⟨h[n], List.getElem?_eq_getElem hn, r.ok n a _ e (List.getElem?_eq_getElem hn)⟩
theorem Rl.addr {h : IH} {n : Nat} {o : IO} (r : Rl K H μ h) (e : h[n]? = some o) : ∃ a, μ[n]? = some a ∧ OkO K H μ a o := by
  have hn : n < μ.length := by
    rw [r.len]
    exact (List.getElem?_eq_some_iff.mp e).1
  exact ⟨μ[n], List.getElem?_eq_getElem hn, r.ok n _ _ (List.getElem?_eq_getElem hn) e⟩
theorem Rl.old {h : IH} {n : Nat} {a p : Addr} (r : Rl K H μ h) (e : μ[n]? = some a) (hp : H p = none) : a ≠ p := by
  obtain ⟨o, _, q⟩ := r.at e
  obtain ⟨u, hu, _⟩ := q.some
  exact ne_of_none hu hp
/-- a new thing that the own heap does not hold -/
theorem Rl.new {h : IH} {p : Addr} {u : HO} (r : Rl K H μ h) (hp : H p = none) : Rl K (upd H p u) μ h :=
  ⟨r.nd, r.len, fun n a o e1 e2 => (r.ok n a o e1 e2).mono (Ext.new hp) (upd_ne (r.old e1 hp))⟩
/-- a new thing that it holds -/
theorem Rl.newM {h : IH} {p : Addr} {u : HO} {o : IO} (r : Rl K H μ h) (hp : H p = none) (q : OkO K (upd H p u) (μ ++ [p]) p o) : Rl K (upd H p u) (μ ++ [p]) (h ++ [o]) := by
  refine ⟨?_, by rw [List.length_append, List.length_append, r.len]; rfl, fun n a o' e1 e2 => ?_⟩
  · rw [List.nodup_append]
    refine ⟨r.nd, by simp, fun a ha b hb => ?_⟩
    rw [List.mem_singleton] at hb
    subst hb
    obtain ⟨n, hn, e⟩ := List.mem_iff_getElem.mp ha
    exact r.old (n := n) (by rw [List.getElem?_eq_getElem hn, e]) hp
  · by_cases hn : n < μ.length
    · rw [List.getElem?_append_left hn] at e1
      rw [List.getElem?_append_left (by rw [← r.len]; exact hn)] at e2
      exact (r.ok n a o' e1 e2).mono (Ext.newM hp) (upd_ne (r.old e1 hp))
    · rw [List.getElem?_append_right (by omega)] at e1
      rw [List.getElem?_append_right (by rw [← r.len]; omega), ← r.len] at e2
      have hz : n - μ.length = 0 := by
        have := (List.getElem?_eq_some_iff.mp e1).1
        rw [List.length_singleton] at this
        omega
      rw [hz] at e1 e2
      cases e1
      cases e2
      exact q
/-- a thing that it holds is changed -/
theorem Rl.set {h : IH} {n : Nat} {a : Addr} {u : HO} {o : IO} (r : Rl K H μ h) (e : μ[n]? = some a) (x : Ext K H μ (upd H a u) μ) (q : OkO K (upd H a u) μ a o) : Rl K (upd H a u) μ (h.set n o) := by
  refine ⟨r.nd, by rw [List.length_set]; exact r.len, fun j b o' e1 e2 => ?_⟩
  by_cases hj : n = j
  · subst hj
    rw [e] at e1
    cases e1
    rw [List.getElem?_set_self (by rw [← r.len]; exact (List.getElem?_eq_some_iff.mp e).1)] at e2
    cases e2
    exact q
  · rw [List.getElem?_set_ne hj] at e2
    have hb : b ≠ a := fun z => by
      subst z
      have h1 := (List.getElem?_eq_some_iff.mp e)
      have h2 := (List.getElem?_eq_some_iff.mp e1)
      obtain ⟨l1, g1⟩ := h1
      obtain ⟨l2, g2⟩ := h2
      exact hj ((List.getElem_inj r.nd).mp (g1.trans g2.symm))
    exact (r.ok j b o' e1 e2).mono x (upd_ne hb)
theorem Rl.inj {h : IH} {n m : Nat} {a : Addr} (r : Rl K H μ h) (e1 : μ[n]? = some a) (e2 : μ[m]? = some a) : n = m := by
  obtain ⟨l1, g1⟩ := List.getElem?_eq_some_iff.mp e1
  obtain ⟨l2, g2⟩ := List.getElem?_eq_some_iff.mp e2
  exact (List.getElem_inj r.nd).mp (g1.trans g2.symm)
end

/-! ### exceptions, ends -/
abbrev MG := Str → Option Value
def XR (mg : MG) (K : PySem.W.Frag) (H : Hp) (μ : List Addr) (x : XD) (cls : Value) (dd : Option Addr) : Prop :=
  mg x.cls = some cls ∧ ((x.fs = [] ∧ dd = none) ∨ ∃ d ws, dd = some d ∧ H d = some (.xd ws) ∧ ws.map (·.1) = x.fs.map (·.1) ∧ Rps K H μ (ws.map (·.2)) (x.fs.map (·.2)))

section
variable (mg : MG) (K : PySem.W.Frag) (W : WX)
def Po {α β : Type} (R : Hp → List Addr → β → α → Prop) (σ : L2.St) (H : Hp) (μ : List Addr) : Res α → (β → Hp → Prop) → Prop
  | .val d h', Q => ∀ v μ' H', Ext K H μ H' μ' → Rl K H' μ' h' → R H' μ' v d → Q v H'
  | .exc x h', _ => ∀ cls dd μ' H', Ext K H μ H' μ' → Rl K H' μ' h' → XR mg K H' μ' x cls dd → W cls dd σ H'
  | .stk, _ => False
abbrev RpT : Hp → List Addr → Bool → Bool → Prop := fun _ _ b a => b = a
abbrev PoE := Po mg K W (Rp K)
abbrev PoA := Po mg K W (Rps K)
abbrev PoT := Po mg K W RpT
def PoS (H : Hp) (μ : List Addr) : Out → Ends → Prop
  | .nx e h', Z => ∀ σ' μ' H', Ext K H μ H' μ' → Rl K H' μ' h' → EnvR K H' μ' σ' e → Z.nx σ' H'
  | .rt d h', Z => ∀ v μ' H', Ext K H μ H' μ' → Rl K H' μ' h' → Rp K H' μ' v d → Z.rt v H'
  | .bk e h', Z => ∀ σ' μ' H', Ext K H μ H' μ' → Rl K H' μ' h' → EnvR K H' μ' σ' e → Z.bk σ' H'
  | .ct e h', Z => ∀ σ' μ' H', Ext K H μ H' μ' → Rl K H' μ' h' → EnvR K H' μ' σ' e → Z.ct σ' H'
  | .exc x e h', _ => ∀ cls dd σ' μ' H', Ext K H μ H' μ' → Rl K H' μ' h' → EnvR K H' μ' σ' e → XR mg K H' μ' x cls dd → W cls dd σ' H'
  | .stk, _ => False
abbrev ME := En → IH → Res D
abbrev MT := En → IH → Res Bool
abbrev MA := En → IH → Res (List D)
abbrev MS := En → IH → Out
def RE (m : ME) : TE := fun σ H Q => ∃ μ h env, Rl K H μ h ∧ EnvR K H μ σ env ∧ PoE mg K W σ H μ (m env h) Q
def RT (m : MT) : TT := fun σ H Q => ∃ μ h env, Rl K H μ h ∧ EnvR K H μ σ env ∧ PoT mg K W σ H μ (m env h) Q
def RA (m : MA) : TA := fun σ H Q => ∃ μ h env, Rl K H μ h ∧ EnvR K H μ σ env ∧ PoA mg K W σ H μ (m env h) Q
def RS (m : MS) : TS := fun Z σ H => ∃ μ h env, Rl K H μ h ∧ EnvR K H μ σ env ∧ PoS mg K W H μ (m env h) Z
end
def QE (X : Cx) (W : WX) (e : Expr) (m : ME) : Prop := PE X e (RE X.mg X.K W m)
def QT (X : Cx) (W : WX) (e : Expr) (m : MT) : Prop := PT X e (RT X.mg X.K W m)
def QA (X : Cx) (W : WX) (es : List Expr) (m : MA) : Prop := PA X es (RA X.mg X.K W m)
def QS (X : Cx) (W : WX) (s : Stmt) (m : MS) : Prop := PS X s (RS X.mg X.K W m)
def QSs (X : Cx) (W : WX) (s : List Stmt) (m : MS) : Prop := PSs X s (RS X.mg X.K W m)

section
variable {X : Cx}
theorem PE.imp {e : Expr} {t t' : TE} (h : PE X e t) (i : ∀ σ H Q, t' σ H Q → t σ H Q) : PE X e t' := ⟨fun pins s σ H Q I q => h.run pins s σ H Q I (i σ H Q q)⟩
theorem PT.imp {e : Expr} {t t' : TT} (h : PT X e t) (i : ∀ σ H Q, t' σ H Q → t σ H Q) : PT X e t' := ⟨fun pins s σ H Q I q => h.run pins s σ H Q I (i σ H Q q)⟩
theorem PW.imp {e : Expr} {t t' : TT} (h : PW X e t) (i : ∀ σ H Q, t' σ H Q → t σ H Q) : PW X e t' := ⟨fun wh pins s σ H Q I q => h.run wh pins s σ H Q I (i σ H Q q)⟩
theorem PA.imp {e : List Expr} {t t' : TA} (h : PA X e t) (i : ∀ σ H Q, t' σ H Q → t σ H Q) : PA X e t' := ⟨fun pos pins s σ H Q I q => h.run pos pins s σ H Q I (i σ H Q q)⟩
theorem PS.imp {e : Stmt} {t t' : TS} (h : PS X e t) (i : ∀ Z σ H, t' Z σ H → t Z σ H) : PS X e t' := ⟨fun pins s σ H Z I q => h.run pins s σ H Z I (i Z σ H q)⟩
theorem PSs.imp {e : List Stmt} {t t' : TS} (h : PSs X e t) (i : ∀ Z σ H, t' Z σ H → t Z σ H) : PSs X e t' := ⟨fun pins s σ H Z I q => h.run pins s σ H Z I (i Z σ H q)⟩
end

/-! ### the monad -/
def Res.bind {α β : Type} (r : Res α) (f : α → IH → Res β) : Res β := match r with
  | .val a h => f a h
  | .exc x h => .exc x h
  | .stk => .stk
def mVar (i : Nat) : ME := fun env h => match env[i]? with
  | some (some d) => .val d h
  | _ => .stk
def mC (d : D) : ME := fun _ h => .val d h
def mUn (f : D → IH → Res D) (a : ME) : ME := fun env h => (a env h).bind f
def mBin (f : D → D → IH → Res D) (a b : ME) : ME := fun env h => (a env h).bind fun x h1 => (b env h1).bind fun y h2 => f x y h2
def mNil : MA := fun _ h => .val [] h
def mCons (a : ME) (r : MA) : MA := fun env h => (a env h).bind fun x h1 => (r env h1).bind fun xs h2 => .val (x :: xs) h2
def mCall (f : List D → IH → Res D) (r : MA) : ME := fun env h => (r env h).bind f

section
variable {mg : MG} {K : PySem.W.Frag} {W : WX} {σ : L2.St} {H H' : Hp} {μ μ' : List Addr}
/-- an end behind an end -/
theorem Po.ext {α β : Type} {R : Hp → List Addr → β → α → Prop} {r : Res α} {Q : β → Hp → Prop} (x : Ext K H μ H' μ') (p : Po mg K W R σ H μ r Q) : Po mg K W R σ H' μ' r Q := by
  cases r with
  | val d h => exact fun v μ2 H2 y a b => p v μ2 H2 (x.trans y) a b
  | exc z h => exact fun c d μ2 H2 y a b => p c d μ2 H2 (x.trans y) a b
  | stk => exact p
theorem PoS.ext {r : Out} {Z : Ends} (x : Ext K H μ H' μ') (p : PoS mg K W H μ r Z) : PoS mg K W H' μ' r Z := by
  cases r with
  | nx e h => exact fun v μ2 H2 y a b => p v μ2 H2 (x.trans y) a b
  | rt d h => exact fun v μ2 H2 y a b => p v μ2 H2 (x.trans y) a b
  | bk e h => exact fun v μ2 H2 y a b => p v μ2 H2 (x.trans y) a b
  | ct e h => exact fun v μ2 H2 y a b => p v μ2 H2 (x.trans y) a b
  | exc z e h => exact fun c d s μ2 H2 y a b => p c d s μ2 H2 (x.trans y) a b
  | stk => exact p
/-- one thing behind another -/
theorem Po.then {α β α' β' : Type} {R : Hp → List Addr → β → α → Prop} {R' : Hp → List Addr → β' → α' → Prop} {r : Res α} {Q : β' → Hp → Prop} {f : α → IH → Res α'} (p : Po mg K W R' σ H μ (r.bind f) Q) {Q' : β → Hp → Prop}
    (h : ∀ d h' v μ' H', Ext K H μ H' μ' → Rl K H' μ' h' → R H' μ' v d → Po mg K W R' σ H' μ' (f d h') Q → Q' v H') : Po mg K W R σ H μ r Q' := by
  cases r with
  | val d h' => exact fun v μ' H' x rl rp => h d h' v μ' H' x rl rp (Po.ext x p)
  | exc x h' => exact p
  | stk => exact p
def Res.bindS {α : Type} (r : Res α) (env : En) (f : α → IH → Out) : Out := match r with
  | .val a h => f a h
  | .exc x h => .exc x env h
  | .stk => .stk
theorem Po.thenS {α β : Type} {R : Hp → List Addr → β → α → Prop} {r : Res α} {Z : Ends} {env : En} {f : α → IH → Out} (er : EnvR K H μ σ env) (p : PoS mg K W H μ (r.bindS env f) Z) {Q' : β → Hp → Prop}
    (h : ∀ d h' v μ' H', Ext K H μ H' μ' → Rl K H' μ' h' → R H' μ' v d → PoS mg K W H' μ' (f d h') Z → Q' v H') : Po mg K W R σ H μ r Q' := by
  cases r with
  | val d h' => exact fun v μ' H' x rl rp => h d h' v μ' H' x rl rp (PoS.ext x p)
  | exc x h' => exact fun cls dd μ' H' y rl xr => p cls dd σ μ' H' y rl (er.mono y) xr
  | stk => exact p
end
end DD
set_option Elab.async false
set_option linter.all false
set_option maxRecDepth 100000
namespace DD
open PySem PySem.Spec L2 PyProof.Rows

/-! ### where one stands -/
structure Ctx (X : Cx) (W : WX) (k : Nat) : Prop where
  tk : Takes X W
  po : PassesOwn (model X.prog X.w) X.A X.env X.xe
  room : Room k X.A
  gd : X.A.guards = some []
  calm : X.calm = true
  nd : X.N.Nodup
abbrev W0 : WX := fun _ _ _ _ => False
theorem Ctx.blk {X : Cx} {W : WX} {k : Nat} (C : Ctx X W k) {s : Shared} {H : Hp} {sc : Scope} {ce : Env} {fp : List Addr} : Ctx (X.blk s H sc ce fp) W0 k :=
  ⟨takes0, PassesOwn.never, C.room, C.gd, C.calm, C.nd⟩
theorem Ctx.mono {X : Cx} {W : WX} {j k : Nat} (C : Ctx X W k) (h : j ≤ k) : Ctx X W j := ⟨C.tk, C.po, C.room.mono h, C.gd, C.calm, C.nd⟩

/-! ### a def's promise where nothing is being shown (repr) -/
structure FnG (P : Program) (w : World) (K : PySem.W.Frag) (mg : MG) (base : Heap) (k : Nat) (f : Addr) (fd : FuncData) (ps : List Str) (sp : Sp) : Prop where
  len : ∀ vs H Q E, sp vs H Q E → vs.length = ps.length
  run : ∀ (A : Around) (out : List Env) (s : Shared) (H : Hp) (ar : Args) (us : List Value) (vs : List V) (Q : VK) (E : XK), A.guards = some [] → Room k A →
    Env0 P w K mg base A out s H → BindsTo s fd ar (ps.zip us) → Vals vs us → sp vs H Q E → codeAny (model P w) A (.call (.ref f) ar) (CR (CX P w) out P w H s Q E) s
theorem fnG_of {P : Program} {w : World} {K : PySem.W.Frag} {mg : MG} {base : Heap} {k : Nat} {f : Addr} {nm qu : Str} {pa : Arguments} {bo : List Stmt} {sc : Scope} {dV kV do' pm cv ct oc : Value} {an od : Option Addr}
    {sl : Array (Option Value)} {N ps : List Str} {sp : Sp} (lk : K.lookup f = some ⟨oc, od, .func (PySem.W.fnOf nm qu pa bo sc dV kV do' pm an cv ct), sl⟩) (hc : PySem.W.codeIn K cv qu = true) (S : FnScope N ps sc)
    (ln : ∀ vs H Q E, sp vs H Q E → vs.length = ps.length)
    (hb : ∀ (A : Around) (out : List Env) (s : Shared) (H : Hp) (vs : List V) (Q : VK) (E : XK), A.guards = some [] → Room k (A.deeper (envOfC qu sc s.heap.objs.size f cv)) → sp vs H Q E →
      ∃ t, PSs (cxOf (CX P w) P w K mg base N qu sc f cv A out s H E) bo t ∧ t { nx := fun _ H' => Q .non H', rt := Q } (start N vs) H) :
    FnG P w K mg base (k + 1) f (PySem.W.fnOf nm qu pa bo sc dV kV do' pm an cv ct) ps sp := by
  refine ⟨ln, fun A out s H ar us vs Q E gd ro e0 hbi rv hs => ?_⟩
  have le := ln _ _ _ _ hs
  have KI : K.In s.heap := e0.mod.kin.keeps fun b o z => (e0.bs b o z).1
  have nl : s.heap.NoLimit := e0.mod.nolimit.keeps fun b o z => (e0.bs b o z).1
  have kd : ∀ y ∈ ps.zip us, sc.names.lookup y.1 = some .local ∨ (sc.names.lookup y.1 = some .cell ∧ ((cellsFrom (s.heap.objs.size + 1) sc.names []).lookup y.1).isSome = true) := fun ⟨n, v⟩ hy => by
    rcases S.par n (List.of_mem_zip hy).1 with z | z
    · exact .inl z
    · exact .inr ⟨z, PySem.W.cellsFrom_some _ _ _ (.inl z)⟩
  refine codeAny_call_function ro.depth (KI _ _ lk) rfl S.co S.gen rfl (PySem.W.codeRec_of KI hc) (hbi _ _ _ _ ?_)
  refine wpAny_newFunctionEnv_cells S.kind kd fun env hen s1 ic => ?_
  subst hen
  refine ⟨nl.keeps ic.toInCall.keep, codeAny_func ?_⟩
  obtain ⟨t, ht, hq⟩ := hb A out s H vs Q E gd (ro.deeper _) hs
  have J : Inv (cxOf (CX P w) P w K mg base N qu sc f cv A out s H E) [] (start N vs) H s1 := inv_start S ro.hd e0 le rv ic
  refine wpAny_mono (ht.run [] s1 (start N vs) H _ J hq) (fun fl s2 hz => ?_) fun e s2 hz => hz
  cases fl with
  | ret u =>
    obtain ⟨v, σ2, H2, J2, rv2, q⟩ := hz
    exact ⟨v, H2, J2.os, J2.bare, J2.base, J2.hok, rv2, q⟩
  | next =>
    obtain ⟨σ2, H2, J2, q⟩ := hz
    exact ⟨.non, H2, J2.os, J2.bare, J2.base, J2.hok, rfl, q⟩
  | brk =>
    obtain ⟨_, _, _, q⟩ := hz
    exact q.elim
  | cont =>
    obtain ⟨_, _, _, q⟩ := hz
    exact q.elim
theorem run_fnG {X : Cx} {k : Nat} {f : Addr} {fd : FuncData} {ps : List Str} {sp : Sp} {pins : List (Addr × Obj)} {σ : L2.St} {H : Hp} {s : Shared} {Q : VK} {us : List Value} {vs : List V} {E : XK} (F : FnG X.prog X.w X.K X.mg X.base k f fd ps sp)
    (gd : X.A.guards = some []) (ro : Room k X.A) (hb : Binds X.K fd ps []) (hx : PassesAt (CX X.prog X.w) X σ E) (I : Inv X pins σ H s) (rv : Vals vs us) (hs : sp vs H Q E) : wpAny (model X.prog X.w) X.A (call (.ref f) us) (EP X pins σ Q) X.xe s := by
  have e1 : us.length = ps.length := by
    rw [← rv.length]
    exact F.len _ _ _ _ hs
  have e2 := hb s us I.kIn (by rw [List.append_nil]; exact e1)
  rw [List.append_nil] at e2
  refine wpAny_call (codeAny_mono (F.run X.A X.stack s H ⟨us, []⟩ us vs Q E gd ro I.env0 e2 rv hs) fun r s2 hq => ?_)
  cases r with
  | error e => exact hx pins H s e s2 I hq
  | ok fl =>
    cases fl with
    | ret u => exact I.after hq
    | next => exact hq.elim
    | brk => exact hq.elim
    | cont => exact hq.elim

/-! ### defs as functions on data -/
def spM (mg : MG) (K : PySem.W.Frag) (m : List D → IH → Res D) (n : Nat) : Sp := fun vs H Q E =>
  vs.length = n ∧ ∃ μ h ds, Rl K H μ h ∧ Rps K H μ vs ds ∧ Po mg K (fun c d _ H' => E c d H') (Rp K) [] H μ (m ds h) Q
def enOf (n : Nat) (ds : List D) : En := ds.map some ++ List.replicate (n - ds.length) none
def mBody (n : Nat) (m : MS) : List D → IH → Res D := fun ds h => match m (enOf n ds) h with
  | .nx _ h' => .val .non h'
  | .rt d h' => .val d h'
  | .exc x _ h' => .exc x h'
  | _ => .stk
theorem envR_start {K : PySem.W.Frag} {H : Hp} {μ : List Addr} {N : List Str} {vs : List V} {ds : List D} (r : Rps K H μ vs ds) (hl : ds.length ≤ N.length) : EnvR K H μ (start N vs) (enOf N.length ds) := by
  have e := r.length
  refine ⟨?_, fun i d q => ?_⟩
  · unfold L2.start enOf
    rw [List.length_append, List.length_append, List.length_map, List.length_map, List.length_replicate, List.length_replicate, e]
  · unfold enOf at q
    unfold L2.start
    by_cases hi : i < ds.length
    · rw [List.getElem?_append_left (by rw [List.length_map]; exact hi), List.getElem?_map] at q
      rw [List.getElem?_append_left (by rw [List.length_map, e]; exact hi), List.getElem?_map]
      cases z : ds[i]? with
      | none =>
        rw [z] at q
        cases q
      | some x =>
        rw [z] at q
        cases q
        obtain ⟨v, h1, h2⟩ := r.get z
        exact ⟨v, by rw [h1]; rfl, h2⟩
    · rw [List.getElem?_append_right (by rw [List.length_map]; omega), List.getElem?_replicate] at q
      split at q <;> cases q
/-- what is known of a def: where it stands, what it does -/
structure Fn (P : Program) (w : World) (K : PySem.W.Frag) (mg : MG) (base : Heap) (k : Nat) (x : Str) (m : List D → IH → Res D) (n : Nat) : Prop where
  ex : ∃ (f : Addr) (fd : FuncData) (ps : List Str), FnG P w K mg base k f fd ps (spM mg K m n) ∧ mg x = some (.ref f) ∧ PySem.W.keepIn K (.ref f) = true ∧ Binds K fd ps []
/-- THE RULE for a def -/
theorem fn_ok {P : Program} {w : World} {K : PySem.W.Frag} {mg : MG} {base : Heap} {k : Nat} {x qu : Str} {st : Stmt} {f : Addr} {fd : FuncData} {N ps : List Str} {m : MS} (F : Fun K x qu st f fd) (S : FnScope N ps (defScope st))
    (hb : ∀ (cv : Value) (A : Around) (out : List Env) (s : Shared) (H : Hp) (E : XK), Ctx (cxOf (CX P w) P w K mg base N qu (defScope st) f cv A out s H E) (fun c d _ H' => E c d H') k →
      QSs (cxOf (CX P w) P w K mg base N qu (defScope st) f cv A out s H E) (fun c d _ H' => E c d H') (defBody st) m) :
    FnG P w K mg base (k + 1) f fd ps (spM mg K (mBody N.length m) ps.length) := by
  obtain ⟨oc, od, kV, do', pm, an, cv, ct, sl, rfl, lk, hc⟩ := F.ex
  have hpl : ps.length ≤ N.length := by
    have := congrArg List.length S.pre
    rw [List.length_take] at this
    omega
  refine fnG_of lk hc S (fun vs H Q E h => h.1) fun A out s H vs Q E gd ro hs => ?_
  have C : Ctx (cxOf (CX P w) P w K mg base N qu (defScope st) f cv A out s H E) (fun c d _ H' => E c d H') k :=
    ⟨takes_of rfl rfl rfl rfl, passes_of rfl, ro, gd, rfl, S.nd⟩
  refine ⟨_, hb cv A out s H E C, ?_⟩
  obtain ⟨hl, μ, h, ds, rl, rp, po⟩ := hs
  refine ⟨μ, h, enOf N.length ds, rl, envR_start rp (by rw [← rp.length, hl]; exact hpl), ?_⟩
  unfold mBody at po
  revert po
  cases m (enOf N.length ds) h with
  | nx e h' => exact fun po σ' μ' H' x1 rl1 er1 => po .non μ' H' x1 rl1 .non
  | rt d h' => exact fun po v μ' H' x1 rl1 rp1 => po v μ' H' x1 rl1 rp1
  | bk e h' => exact fun po => po.elim
  | ct e h' => exact fun po => po.elim
  | exc z e h' => exact fun po c d σ' μ' H' x1 rl1 er1 xr => po c d μ' H' x1 rl1 xr
  | stk => exact fun po => po.elim

def ALen (m : MA) (n : Nat) : Prop := ∀ env h ds h', m env h = .val ds h' → ds.length = n
theorem alen_nil : ALen mNil 0 := fun env h ds h' e => by
  cases e
  rfl
theorem alen_cons {a : ME} {m : MA} {n : Nat} (q : ALen m n) : ALen (mCons a m) (n + 1) := fun env h ds h' e => by
  unfold mCons Res.bind at e
  split at e
  · dsimp only at e
    split at e
    · rename_i z
      cases e
      rw [List.length_cons, q _ _ _ _ z]
    · cases e
    · cases e
  · cases e
  · cases e
/-! ### expressions -/
section
variable {X : Cx} {W : WX} {a b c : Expr} {ma mb mc : ME} {pos : Pos}
theorem qe_var (i : Nat) {x : Str} (hN : X.N[i]? = some x := by rfl) (hv : Vis X.env.scope x := by first | exact Or.inl rfl | exact Or.inr (Or.inl rfl) | exact Or.inr (Or.inr rfl)) (hd : (x == ("__debug__" : Str)) = false := by decide)
    (hcd : (x == ("__classdict__" : Str)) = false := by decide) : QE X W (.Name x pos) (mVar i) := PE.imp (pe_var hN hv hd hcd) fun σ H Q ⟨μ, h, env, rl, er, p⟩ => by
  unfold mVar at p
  split at p
  · rename_i d e
    obtain ⟨v, h1, h2⟩ := er.2 i d e
    exact ⟨v, h1, p v μ H .refl rl h2⟩
  · exact p.elim
theorem qe_C {e : Expr} {v : V} {d : D} (h : PE X e (tC v)) (r : ∀ H μ, Rp X.K H μ v d) : QE X W e (mC d) := PE.imp h fun σ H Q ⟨μ, h, env, rl, er, p⟩ => p v μ H .refl rl (r H μ)
theorem qe_int {i j} : QE X W (.Constant (.int i) j pos) (mC (.int i)) := qe_C pe_int fun _ _ => .int i
theorem qe_bl {i j} : QE X W (.Constant (.bool i) j pos) (mC (.bl i)) := qe_C pe_bl fun _ _ => .bl i
theorem qe_non {j} : QE X W (.Constant .none j pos) (mC .non) := qe_C pe_non fun _ _ => .non
theorem qe_str {i j} : QE X W (.Constant (.str i) j pos) (mC (.str i)) := qe_C pe_str fun _ _ => .str i
theorem qe_glob {x : Str} {v : V} {u : Value} {d : D} (hm : X.mg x = some u) (r : RelV v u) (rd : ∀ H μ, Rp X.K H μ v d) (hg : Gl X x := by rfl) (hd : (x == ("__debug__" : Str)) = false := by decide) : QE X W (.Name x pos) (mC d) := qe_C (pe_glob hg hm r hd) rd
theorem qe_ty {x : Str} {T : String} (hm : X.mg x = none) (hv : bootBuiltins x = some (.type T)) (hg : Gl X x := by rfl) (hn : x ≠ "__name__" := by decide) (hd : (x == ("__debug__" : Str)) = false := by decide) : QE X W (.Name x pos) (mC (.op (.ty T))) :=
  qe_C (pe_bltn hg hm hv (show RelV (.ty T) _ from rfl) hn hd) fun _ _ => .op _
/-- an operation by values: r reads what f does -/
def Sd2 (X : Cx) (r : R2) (f : D → D → IH → Res D) : Prop := ∀ (W : WX) (σ : L2.St) (x y : V) (a b : D) (H : Hp) (μ : List Addr) (h : IH) (Q : VK), Rl X.K H μ h → Rp X.K H μ x a → Rp X.K H μ y b → Po X.mg X.K W (Rp X.K) σ H μ (f a b h) Q → r x y H Q
def Sd1 (X : Cx) (r : V → Hp → VK → Prop) (f : D → IH → Res D) : Prop := ∀ (W : WX) (σ : L2.St) (x : V) (a : D) (H : Hp) (μ : List Addr) (h : IH) (Q : VK), Rl X.K H μ h → Rp X.K H μ x a → Po X.mg X.K W (Rp X.K) σ H μ (f a h) Q → r x H Q
def SdC (X : Cx) (r : List V → Hp → VK → Prop) (f : List D → IH → Res D) : Prop := ∀ (W : WX) (σ : L2.St) (xs : List V) (as : List D) (H : Hp) (μ : List Addr) (h : IH) (Q : VK), Rl X.K H μ h → Rps X.K H μ xs as → Po X.mg X.K W (Rp X.K) σ H μ (f as h) Q → r xs H Q
theorem op2 {r : R2} {f : D → D → IH → Res D} (sd : Sd2 X r f) : ∀ σ H Q, RE X.mg X.K W (mBin f ma mb) σ H Q → tOp r (RE X.mg X.K W ma) (RE X.mg X.K W mb) σ H Q := fun σ H Q ⟨μ, h, env, rl, er, p⟩ =>
  ⟨μ, h, env, rl, er, Po.then (R := Rp X.K) p fun x h1 v μ1 H1 x1 rl1 rp1 p1 => ⟨μ1, h1, env, rl1, er.mono x1, Po.then (R := Rp X.K) p1 fun y h2 v2 μ2 H2 x2 rl2 rp2 p2 => sd W σ v v2 x y H2 μ2 h2 Q rl2 (rp1.mono x2) rp2 p2⟩⟩
theorem qe_bin {op : Operator} {r : R2} {f : D → D → IH → Res D} (ho : OpR X (binaryOp op) r) (sd : Sd2 X r f) (ha : QE X W a ma) (hb : QE X W b mb) : QE X W (.BinOp a op b pos) (mBin f ma mb) := PE.imp (pe_op ho ha hb) (op2 sd)
theorem qe_cmp {op : CmpOp} {r : R2} {f : D → D → IH → Res D} (ho : OpR X (compareOp op) r) (sd : Sd2 X r f) (ha : QE X W a ma) (hb : QE X W b mb) (hm : behindInMarks op b = false) : QE X W (.Compare a [op] [b] pos) (mBin f ma mb) := PE.imp (pe_cmpR ho ha hb hm) (op2 sd)
theorem qe_ix {r : R2} {f : D → D → IH → Res D} (ho : IxR X r) (sd : Sd2 X r f) (ha : QE X W a ma) (hb : QE X W b mb) (hs : PlainIx b) : QE X W (.Subscript a b pos) (mBin f ma mb) := PE.imp (pe_ix ho ha hb hs) (op2 sd)
theorem qe_un {op : UnaryOp} {r : V → Hp → VK → Prop} {f : D → IH → Res D} (ho : UnR X (unaryOp op) r) (sd : Sd1 X r f) (ha : QE X W a ma) : QE X W (.UnaryOp op a pos) (mUn f ma) := PE.imp (pe_un ho ha) fun σ H Q ⟨μ, h, env, rl, er, p⟩ =>
  ⟨μ, h, env, rl, er, Po.then (R := Rp X.K) p fun x h1 v μ1 H1 x1 rl1 rp1 p1 => sd W σ v x H1 μ1 h1 Q rl1 rp1 p1⟩
theorem qa_nil : QA X W [] mNil := PA.imp pa_nil fun σ H Q ⟨μ, h, env, rl, er, p⟩ => p [] μ H .refl rl .nil
theorem qa_cons {e : Expr} {es : List Expr} {me : ME} {mr : MA} (he : QE X W e me) (hr : QA X W es mr) (hs : starEach (e :: es) X.env = (false, eval e X.env) :: starEach es X.env := by rfl) : QA X W (e :: es) (mCons me mr) :=
  PA.imp (pa_cons he hr hs) fun σ H Q ⟨μ, h, env, rl, er, p⟩ =>
    ⟨μ, h, env, rl, er, Po.then (R := Rp X.K) p fun x h1 v μ1 H1 x1 rl1 rp1 p1 => ⟨μ1, h1, env, rl1, er.mono x1, Po.then (R := Rps X.K) p1 fun xs h2 vs μ2 H2 x2 rl2 rp2 p2 => p2 (v :: vs) μ2 H2 .refl rl2 (.cons (rp1.mono x2) rp2)⟩⟩
/-- a built-in by its name -/
theorem qe_callB {x : Str} {id : String} {r : List V → Hp → VK → Prop} {f : List D → IH → Res D} {p : Pos} {e : Expr} {es : List Expr} {mr : MA} (hc : CallR X (.builtin id) r) (sd : SdC X r f) (hm : X.mg x = none) (hv : bootBuiltins x = some (.builtin id)) (ha : QA X W (e :: es) mr)
    (hg : Gl X x := by rfl) (hn : x ≠ "__name__" := by decide) (hdb : (x == ("__debug__" : Str)) = false := by decide) (he : starEach (e :: es) X.env = (false, eval e X.env) :: starEach es X.env := by rfl) (hpl : (backTo pos (starEach es X.env)).any (·.1) = false := by rfl) :
    QE X W (.Call (.Name x p) (e :: es) [] pos) (mCall f mr) := PE.imp (pe_callB hc hg hm hv ha hn hdb he hpl) fun σ H Q ⟨μ, h, env, rl, er, p⟩ =>
  ⟨μ, h, env, rl, er, Po.then (R := Rps X.K) p fun xs h1 vs μ1 H1 x1 rl1 rp1 p1 => sd W σ vs xs H1 μ1 h1 Q rl1 rp1 p1⟩
theorem qe_callT {x : Str} {T : String} {r : List V → Hp → VK → Prop} {f : List D → IH → Res D} {p : Pos} {e : Expr} {es : List Expr} {mr : MA} (hc : CallR X (.type T) r) (sd : SdC X r f) (hm : X.mg x = none) (hv : bootBuiltins x = some (.type T)) (ha : QA X W (e :: es) mr)
    (hg : Gl X x := by rfl) (hn : x ≠ "__name__" := by decide) (hdb : (x == ("__debug__" : Str)) = false := by decide) (he : starEach (e :: es) X.env = (false, eval e X.env) :: starEach es X.env := by rfl) (hpl : (backTo pos (starEach es X.env)).any (·.1) = false := by rfl) :
    QE X W (.Call (.Name x p) (e :: es) [] pos) (mCall f mr) := PE.imp (pe_callTy hc hg hm hv ha hn hdb he hpl) fun σ H Q ⟨μ, h, env, rl, er, p⟩ =>
  ⟨μ, h, env, rl, er, Po.then (R := Rps X.K) p fun xs h1 vs μ1 H1 x1 rl1 rp1 p1 => sd W σ vs xs H1 μ1 h1 Q rl1 rp1 p1⟩
/-- a def of the program -/
theorem qe_call {k j n : Nat} {x : Str} {m : List D → IH → Res D} {p : Pos} {e : Expr} {es : List Expr} {mr : MA} (C : Ctx X W k) (F : Fn X.prog X.w X.K X.mg X.base j x m n) (ha : QA X W (e :: es) mr) (hj : j ≤ k := by decide) (hn : n = (e :: es).length := by rfl) (hg : Gl X x := by rfl)
    (hdb : (x == ("__debug__" : Str)) = false := by decide) (he : starEach (e :: es) X.env = (false, eval e X.env) :: starEach es X.env := by rfl) (hpl : (backTo pos (starEach es X.env)).any (·.1) = false := by rfl)
    (hlen : ALen mr n := by repeat (first | exact alen_nil | apply alen_cons)) :
    QE X W (.Call (.Name x p) (e :: es) [] pos) (mCall m mr) := by
  obtain ⟨f, fd, ps, G, hm, hk, hb⟩ := F.ex
  refine ⟨fun pins s σ H Q I ⟨μ, h, env, rl, er, po⟩ => ?_⟩
  refine wpAny_Call_Name_kw (ld_glob I hg hm ?_ hdb)
  have pa : RA X.mg X.K W mr σ H fun vs H1 => spM X.mg X.K m n vs H1 Q (WE W σ) := by
    refine ⟨μ, h, env, rl, er, ?_⟩
    unfold mCall at po
    cases z : mr env h with
    | val ds h1 =>
      rw [z] at po
      intro vs μ1 H1 x1 rl1 rp1
      refine ⟨by rw [rp1.length]; exact hlen _ _ _ _ z, μ1, h1, ds, rl1, rp1, ?_⟩
      have po2 := Po.ext x1 (show Po X.mg X.K W (Rp X.K) σ H μ (m ds h1) Q from po)
      revert po2
      cases m ds h1 with
      | val d h2 => exact fun q => q
      | exc y h2 => exact fun q => q
      | stk => exact fun q => q
    | exc y h1 =>
      rw [z] at po
      exact po
    | stk =>
      rw [z] at po
      exact po
  refine PySem.W.callWith_K (h₀ := X.base) I.ok.mod.kin hk (thn (ha.run pos pins s σ H _ I pa) fun us s1 ⟨vs, H1, I1, rv, q⟩ => ⟨I1.kIn, ?_⟩) he hpl
  exact run_fnG G C.gd (C.room.mono hj) hb (passAt C.tk σ) I1 rv q
end
end DD
set_option Elab.async false
set_option linter.all false
set_option maxRecDepth 100000
namespace DD
open PySem PySem.Spec L2 PyProof.Rows

/-! ### data by the own heap -/
def lstAt (h : IH) (n : Nat) : Option (List D) := match h[n]? with
  | some (.lst ds) => some ds
  | _ => none
def dicAt (h : IH) (n : Nat) : Option (List (Key × D)) := match h[n]? with
  | some (.dic ds) => some ds
  | _ => none
/-- a list to be read -/
def seqL (h : IH) : D → Option (List D)
  | .fl ds => some ds
  | .ref n => lstAt h n
  | _ => none
section
variable {K : PySem.W.Frag} {H : Hp} {μ : List Addr} {h : IH} {v : V} {d : D} {ds : List D}
theorem lstAt_ok {n : Nat} {a : Addr} (rl : Rl K H μ h) (e : μ[n]? = some a) (z : lstAt h n = some ds) : ∃ vs, H a = some (.lst vs) ∧ Rps K H μ vs ds := by
  obtain ⟨o, ho, q⟩ := rl.at e
  unfold lstAt at z
  rw [ho] at z
  cases o with
  | lst es =>
    cases z
    exact q
  | dic es => cases z
theorem dicAt_ok {n : Nat} {a : Addr} {kvs : List (Key × D)} (rl : Rl K H μ h) (e : μ[n]? = some a) (z : dicAt h n = some kvs) : ∃ kws : List (Key × V), H a = some (.dK kws) ∧ kws.map (·.1) = kvs.map (·.1) ∧ Rps K H μ (kws.map (·.2)) (kvs.map (·.2)) := by
  obtain ⟨o, ho, q⟩ := rl.at e
  unfold dicAt at z
  rw [ho] at z
  cases o with
  | dic es =>
    cases z
    exact q
  | lst es => cases z
theorem seqL_ok (rl : Rl K H μ h) (r : Rp K H μ v d) (z : seqL h d = some ds) : ∃ a vs, v = .ref a ∧ SqL K H a vs ∧ Rps K H μ vs ds := by
  cases r with
  | fl s q =>
    cases z
    exact ⟨_, _, rfl, s.sq, q⟩
  | ref e =>
    obtain ⟨vs, h1, h2⟩ := lstAt_ok rl e z
    exact ⟨_, vs, rfl, SqL.of h1, h2⟩
  | _ => cases z
end
/-- truth -/
def truD (h : IH) : D → Option Bool
  | .non => some false
  | .bl b => some b
  | .int i => some (i != 0)
  | .str x => if x.length ≤ sizeLine then some ((x.length : Int) != 0) else none
  | .tup ds => some !ds.isEmpty
  | .fl ds => some !ds.isEmpty
  | .ref n => match h[n]? with
    | some (.lst ds) => some !ds.isEmpty
    | some (.dic ds) => some !ds.isEmpty
    | _ => none
  | .op _ => none
theorem Rps.isEmpty {K : PySem.W.Frag} {H : Hp} {μ : List Addr} {vs : List V} {ds : List D} (r : Rps K H μ vs ds) : vs.isEmpty = ds.isEmpty := by
  cases r <;> rfl
theorem truD_ok {K : PySem.W.Frag} {H : Hp} {μ : List Addr} {h : IH} {v : V} {d : D} {k : Bool} (rl : Rl K H μ h) (r : Rp K H μ v d) (z : truD h d = some k) : TruV K v H k := by
  cases r with
  | non =>
    cases z
    rfl
  | bl b =>
    cases z
    rfl
  | int i =>
    cases z
    rfl
  | str x =>
    simp only [truD] at z
    split at z
    · cases z
      exact ⟨by assumption, rfl⟩
    · cases z
  | tup s q =>
    cases z
    exact .inr (.inl ⟨_, s, by rw [q.isEmpty]⟩)
  | fl s q =>
    cases z
    exact .inl ⟨_, s.sq, by rw [q.isEmpty]⟩
  | ref e =>
    obtain ⟨o, ho, q⟩ := rl.at e
    simp only [truD, ho] at z
    cases o with
    | lst es =>
      cases z
      obtain ⟨vs, h1, h2⟩ := q
      exact .inl ⟨vs, SqL.of h1, by rw [h2.isEmpty]⟩
    | dic es =>
      cases z
      obtain ⟨kws, h1, h2, h3⟩ := q
      refine .inr (.inr ⟨kws, h1, ?_⟩)
      have e1 := congrArg List.length h2
      rw [List.length_map, List.length_map] at e1
      cases kws <;> cases es <;> first | rfl | (simp at e1)
  | op v => cases z

/-! ### displays, tests, conditional values -/
def mTup (m : MA) : ME := fun env h => (m env h).bind fun ds h1 => if ds.length ≤ sizeLine then .val (.tup ds) h1 else .stk
def mLst (m : MA) : ME := fun env h => (m env h).bind fun ds h1 => if ds.length ≤ sizeLine then .val (.ref h1.length) (h1 ++ [.lst ds]) else .stk
def mTru (a : ME) : MT := fun env h => (a env h).bind fun d h1 => match truD h1 d with
  | some b => .val b h1
  | none => .stk
def mTst (a : ME) : MT := fun env h => (a env h).bind fun d h1 => match d with
  | .bl b => .val b h1
  | _ => .stk
def mAnd (a b : MT) : MT := fun env h => (a env h).bind fun k h1 => if k then b env h1 else .val false h1
def mOr (a b : MT) : MT := fun env h => (a env h).bind fun k h1 => if k then .val true h1 else b env h1
def mNot (a : MT) : MT := fun env h => (a env h).bind fun k h1 => .val (!k) h1
def mAndV (a b : ME) : ME := fun env h => (a env h).bind fun d h1 => match truD h1 d with
  | some true => b env h1
  | some false => .val d h1
  | none => .stk
def mOrV (a b : ME) : ME := fun env h => (a env h).bind fun d h1 => match truD h1 d with
  | some true => .val d h1
  | some false => b env h1
  | none => .stk
def mNotV (a : ME) : ME := fun env h => (a env h).bind fun d h1 => match truD h1 d with
  | some k => .val (.bl !k) h1
  | none => .stk
def mIf (c : MT) (a b : ME) : ME := fun env h => (c env h).bind fun k h1 => if k then a env h1 else b env h1
def mChain (f f' : D → D → IH → Res D) (a b c : ME) : ME := fun env h => (a env h).bind fun x h1 => (b env h1).bind fun y h2 => (f x y h2).bind fun z h3 => match z with
  | .bl true => (c env h3).bind fun w h4 => f' y w h4
  | .bl false => .val (.bl false) h3
  | _ => .stk
section
variable {K : PySem.W.Frag} {H H' : Hp} {μ μ' : List Addr} {h : IH}
theorem new_lst {vs : List V} {ds : List D} {p : Addr} (rl : Rl K H μ h) (r : Rps K H μ vs ds) (hp : H p = none) : Ext K H μ (upd H p (.lst vs)) (μ ++ [p]) ∧ Rl K (upd H p (.lst vs)) (μ ++ [p]) (h ++ [.lst ds]) ∧ Rp K (upd H p (.lst vs)) (μ ++ [p]) (.ref p) (.ref h.length) := by
  have x : Ext K H μ (upd H p (.lst vs)) (μ ++ [p]) := Ext.newM hp
  refine ⟨x, rl.newM hp ⟨vs, upd_same, r.mono x⟩, .ref ?_⟩
  rw [← rl.len, List.getElem?_append_right (Nat.le_refl _), Nat.sub_self]
  rfl
theorem new_tup {vs : List V} {ds : List D} {p : Addr} (rl : Rl K H μ h) (r : Rps K H μ vs ds) (hp : H p = none) : Ext K H μ (upd H p (.tup vs)) μ ∧ Rl K (upd H p (.tup vs)) μ h ∧ Rp K (upd H p (.tup vs)) μ (.ref p) (.tup ds) :=
  ⟨Ext.new hp, rl.new hp, .tup (SqT.of upd_same) (r.mono (Ext.new hp))⟩
end
section
variable {X : Cx} {W : WX} {a b c : Expr} {ma mb mc : ME} {pos : Pos} {es : List Expr} {mr : MA}
theorem Rp.bl_inv {K : PySem.W.Frag} {H : Hp} {μ : List Addr} {v : V} {b : Bool} (r : Rp K H μ v (.bl b)) : v = .bl b := by
  cases r
  rfl
theorem qe_tup {k : Nat} (ha : QA X W es mr) : QE X W (.Tuple es k pos) (mTup mr) := PE.imp (pe_tup ha) fun σ H Q ⟨μ, h, env, rl, er, p⟩ =>
  ⟨μ, h, env, rl, er, Po.then (R := Rps X.K) p fun ds h1 vs μ1 H1 x1 rl1 rp1 p1 => by
    split at p1
    · rename_i z
      refine ⟨by rw [rp1.length]; exact z, fun p hp => ?_⟩
      obtain ⟨x2, rl2, rp2⟩ := new_tup rl1 rp1 hp
      exact p1 _ _ _ x2 rl2 rp2
    · exact p1.elim⟩
theorem qe_lst (ha : QA X W es mr) : QE X W (.List es pos) (mLst mr) := PE.imp (pe_lst ha) fun σ H Q ⟨μ, h, env, rl, er, p⟩ =>
  ⟨μ, h, env, rl, er, Po.then (R := Rps X.K) p fun ds h1 vs μ1 H1 x1 rl1 rp1 p1 => by
    split at p1
    · rename_i z
      refine ⟨by rw [rp1.length]; exact z, fun p hp => ?_⟩
      obtain ⟨x2, rl2, rp2⟩ := new_lst rl1 rp1 hp
      exact p1 _ _ _ x2 rl2 rp2
    · exact p1.elim⟩
theorem qt_tru (ha : QE X W a ma) (he : ∀ whole, isTrue a X.env whole = (do let v ← whole; standAt a.pos; holding [v] (truthy v)) := by intro _; rfl) : QT X W a (mTru ma) := PT.imp (pt_truth ha he) fun σ H Q ⟨μ, h, env, rl, er, p⟩ =>
  ⟨μ, h, env, rl, er, Po.then (R := Rp X.K) p fun d h1 v μ1 H1 x1 rl1 rp1 p1 => by
    split at p1
    · rename_i k z
      exact ⟨k, truD_ok rl1 rp1 z, p1 _ _ _ .refl rl1 rfl⟩
    · exact p1.elim⟩
theorem tst_imp {t : TE} {m : ME} (i : ∀ σ H Q, RE X.mg X.K W m σ H Q → t σ H Q) : ∀ σ H Q, RT X.mg X.K W (mTst m) σ H Q → tTest t σ H Q := fun σ H Q ⟨μ, h, env, rl, er, p⟩ =>
  i σ H _ ⟨μ, h, env, rl, er, Po.then (R := Rp X.K) p fun d h1 v μ1 H1 x1 rl1 rp1 p1 => by
    split at p1
    · rename_i k
      exact ⟨k, rp1.bl_inv, p1 _ _ _ .refl rl1 rfl⟩
    · exact p1.elim⟩
theorem qt_cmp {op : CmpOp} {r : R2} {f : D → D → IH → Res D} (ho : OpR X (compareOp op) r) (sd : Sd2 X r f) (ha : QE X W a ma) (hb : QE X W b mb) (hm : behindInMarks op b = false) : QT X W (.Compare a [op] [b] pos) (mTst (mBin f ma mb)) :=
  PT.imp (pt_cmpR ho ha hb hm) (tst_imp (op2 sd))
theorem chain_imp {r r' : R2} {f f' : D → D → IH → Res D} (sd : Sd2 X r f) (sd' : Sd2 X r' f') : ∀ σ H Q, RE X.mg X.K W (mChain f f' ma mb mc) σ H Q → tChain r r' (RE X.mg X.K W ma) (RE X.mg X.K W mb) (RE X.mg X.K W mc) σ H Q := fun σ H Q ⟨μ, h, env, rl, er, p⟩ =>
  ⟨μ, h, env, rl, er, Po.then (R := Rp X.K) p fun x h1 v μ1 H1 x1 rl1 rp1 p1 => ⟨μ1, h1, env, rl1, er.mono x1, Po.then (R := Rp X.K) p1 fun y h2 v2 μ2 H2 x2 rl2 rp2 p2 =>
    sd W σ v v2 x y H2 μ2 h2 _ rl2 (rp1.mono x2) rp2 (Po.then (R := Rp X.K) p2 fun z h3 v3 μ3 H3 x3 rl3 rp3 p3 => by
      split at p3
      · refine ⟨true, rp3.bl_inv, ?_⟩
        rw [if_pos rfl]
        exact ⟨μ3, h3, env, rl3, (er.mono x1).mono (x2.trans x3), Po.then (R := Rp X.K) p3 fun w h4 v4 μ4 H4 x4 rl4 rp4 p4 => sd' W σ v2 v4 y w H4 μ4 h4 Q rl4 (rp2.mono (x3.trans x4)) rp4 p4⟩
      · refine ⟨false, rp3.bl_inv, ?_⟩
        rw [if_neg Bool.false_ne_true]
        exact p3 _ _ _ .refl rl3 (.bl false)
      · exact p3.elim)⟩⟩
theorem qe_chain {op op' : CmpOp} {r r' : R2} {f f' : D → D → IH → Res D} (ho : OpR X (compareOp op) r) (sd : Sd2 X r f) (ho' : OpR X (compareOp op') r') (sd' : Sd2 X r' f') (ha : QE X W a ma) (hb : QE X W b mb) (hc : QE X W c mc)
    (hm : lastMarks [op, op'] [b, c] = false := by with_unfolding_all rfl) : QE X W (.Compare a [op, op'] [b, c] pos) (mChain f f' ma mb mc) := PE.imp (pe_chain ho ho' ha hb hc hm) (chain_imp sd sd')
theorem qt_chain {op op' : CmpOp} {r r' : R2} {f f' : D → D → IH → Res D} (ho : OpR X (compareOp op) r) (sd : Sd2 X r f) (ho' : OpR X (compareOp op') r') (sd' : Sd2 X r' f') (ha : QE X W a ma) (hb : QE X W b mb) (hc : QE X W c mc)
    (hm : lastMarks [op, op'] [b, c] = false := by with_unfolding_all rfl) : QT X W (.Compare a [op, op'] [b, c] pos) (mTst (mChain f f' ma mb mc)) := PT.imp (pt_chain ho ho' ha hb hc hm) (tst_imp (chain_imp sd sd'))
def QW (X : Cx) (W : WX) (e : Expr) (m : MT) : Prop := PW X e (RT X.mg X.K W m)
variable {ta tb : MT} {rest : List Expr}
theorem QW.qt {e : Expr} {m : MT} (h : QW X W e m) : QT X W e m := PW.pt h
theorem qw_and1 (ha : QT X W a ta) : QW X W (.BoolOp .And [a] pos) ta := pw_and1 ha
theorem qw_or1 (ha : QT X W a ta) : QW X W (.BoolOp .Or [a] pos) ta := pw_or1 ha
theorem qw_and (ha : QT X W a ta) (hb : QW X W (.BoolOp .And (b :: rest) pos) tb) : QW X W (.BoolOp .And (a :: b :: rest) pos) (mAnd ta tb) := PW.imp (pw_and ha hb) fun σ H Q ⟨μ, h, env, rl, er, p⟩ =>
  ⟨μ, h, env, rl, er, Po.then (R := RpT) p fun k h1 v μ1 H1 x1 rl1 e p1 => by
    subst e
    cases v with
    | true =>
      rw [if_pos rfl] at p1 ⊢
      exact ⟨μ1, h1, env, rl1, er.mono x1, p1⟩
    | false =>
      rw [if_neg Bool.false_ne_true] at p1 ⊢
      exact p1 _ _ _ .refl rl1 rfl⟩
theorem qw_or (ha : QT X W a ta) (hb : QW X W (.BoolOp .Or (b :: rest) pos) tb) : QW X W (.BoolOp .Or (a :: b :: rest) pos) (mOr ta tb) := PW.imp (pw_or ha hb) fun σ H Q ⟨μ, h, env, rl, er, p⟩ =>
  ⟨μ, h, env, rl, er, Po.then (R := RpT) p fun k h1 v μ1 H1 x1 rl1 e p1 => by
    subst e
    cases v with
    | false =>
      rw [if_neg Bool.false_ne_true] at p1 ⊢
      exact ⟨μ1, h1, env, rl1, er.mono x1, p1⟩
    | true =>
      rw [if_pos rfl] at p1 ⊢
      exact p1 _ _ _ .refl rl1 rfl⟩
theorem qt_not (ha : QT X W a ta) : QT X W (.UnaryOp .Not a pos) (mNot ta) := PT.imp (pt_not ha) fun σ H Q ⟨μ, h, env, rl, er, p⟩ =>
  ⟨μ, h, env, rl, er, Po.then (R := RpT) p fun k h1 v μ1 H1 x1 rl1 e p1 => by
    subst e
    exact p1 _ _ _ .refl rl1 rfl⟩
theorem qe_one {op} (h : QE X W a ma) : QE X W (.BoolOp op [a] pos) ma := pe_one h
theorem qe_and (ha : QE X W a ma) (hb : QE X W (.BoolOp .And (b :: rest) pos) mb) : QE X W (.BoolOp .And (a :: b :: rest) pos) (mAndV ma mb) := PE.imp (pe_andT ha hb) fun σ H Q ⟨μ, h, env, rl, er, p⟩ =>
  ⟨μ, h, env, rl, er, Po.then (R := Rp X.K) p fun d h1 v μ1 H1 x1 rl1 rp1 p1 => by
    split at p1
    · rename_i z
      refine ⟨true, truD_ok rl1 rp1 z, ?_⟩
      rw [if_pos rfl]
      exact ⟨μ1, h1, env, rl1, er.mono x1, p1⟩
    · rename_i z
      refine ⟨false, truD_ok rl1 rp1 z, ?_⟩
      rw [if_neg Bool.false_ne_true]
      exact p1 _ _ _ .refl rl1 rp1
    · exact p1.elim⟩
theorem qe_or (ha : QE X W a ma) (hb : QE X W (.BoolOp .Or (b :: rest) pos) mb) : QE X W (.BoolOp .Or (a :: b :: rest) pos) (mOrV ma mb) := PE.imp (pe_orT ha hb) fun σ H Q ⟨μ, h, env, rl, er, p⟩ =>
  ⟨μ, h, env, rl, er, Po.then (R := Rp X.K) p fun d h1 v μ1 H1 x1 rl1 rp1 p1 => by
    split at p1
    · rename_i z
      refine ⟨true, truD_ok rl1 rp1 z, ?_⟩
      rw [if_pos rfl]
      exact p1 _ _ _ .refl rl1 rp1
    · rename_i z
      refine ⟨false, truD_ok rl1 rp1 z, ?_⟩
      rw [if_neg Bool.false_ne_true]
      exact ⟨μ1, h1, env, rl1, er.mono x1, p1⟩
    · exact p1.elim⟩
theorem qe_not (ha : QE X W a ma) : QE X W (.UnaryOp .Not a pos) (mNotV ma) := PE.imp (pe_notT ha) fun σ H Q ⟨μ, h, env, rl, er, p⟩ =>
  ⟨μ, h, env, rl, er, Po.then (R := Rp X.K) p fun d h1 v μ1 H1 x1 rl1 rp1 p1 => by
    split at p1
    · rename_i k z
      exact ⟨k, truD_ok rl1 rp1 z, p1 _ _ _ .refl rl1 (.bl _)⟩
    · exact p1.elim⟩
theorem qe_if (hc : QT X W c ta) (ha : QE X W a ma) (hb : QE X W b mb) : QE X W (.IfExp c a b pos) (mIf ta ma mb) := PE.imp (pe_ifExp hc ha hb) fun σ H Q ⟨μ, h, env, rl, er, p⟩ =>
  ⟨μ, h, env, rl, er, Po.then (R := RpT) p fun k h1 v μ1 H1 x1 rl1 e p1 => by
    subst e
    cases v with
    | true =>
      rw [if_pos rfl] at p1 ⊢
      exact ⟨μ1, h1, env, rl1, er.mono x1, p1⟩
    | false =>
      rw [if_neg Bool.false_ne_true] at p1 ⊢
      exact ⟨μ1, h1, env, rl1, er.mono x1, p1⟩⟩
end

/-! ### statements -/
abbrev MTg := D → En → IH → Option (En × IH)
abbrev MTs := List D → En → IH → Option (En × IH)
def Out.then (o : Out) (f : En → IH → Out) : Out := match o with
  | .nx e h => f e h
  | .rt d h => .rt d h
  | .bk e h => .bk e h
  | .ct e h => .ct e h
  | .exc x e h => .exc x e h
  | .stk => .stk
section
variable (K : PySem.W.Frag)
def PoG (H : Hp) (μ : List Addr) : Option (En × IH) → (L2.St → Hp → Prop) → Prop
  | some (e, h'), Q => ∀ σ' μ' H', Ext K H μ H' μ' → Rl K H' μ' h' → EnvR K H' μ' σ' e → Q σ' H'
  | none, _ => False
def RG (m : MTg) : TG := fun v σ H Q => ∃ μ h env d, Rl K H μ h ∧ EnvR K H μ σ env ∧ Rp K H μ v d ∧ PoG K H μ (m d env h) Q
def RGs (m : MTs) : TGs := fun v σ H Q => ∃ μ h env d, Rl K H μ h ∧ EnvR K H μ σ env ∧ Rps K H μ v d ∧ PoG K H μ (m d env h) Q
end
theorem PoG.ext {K : PySem.W.Frag} {H H' : Hp} {μ μ' : List Addr} {o : Option (En × IH)} {Q : L2.St → Hp → Prop} (x : Ext K H μ H' μ') (p : PoG K H μ o Q) : PoG K H' μ' o Q := by
  cases o with
  | some z => exact fun σ2 μ2 H2 y a b => p σ2 μ2 H2 (x.trans y) a b
  | none => exact p
def QG (X : Cx) (e : Expr) (m : MTg) : Prop := PG X e (RG X.K m)
def QGs (X : Cx) (e : List Expr) (m : MTs) : Prop := PGs X e (RGs X.K m)
def gN (i : Nat) : MTg := fun d env h => some (env.set i (some d), h)
def gsNil : MTs := fun ds env h => match ds with
  | [] => some (env, h)
  | _ => none
def gsCons (t : MTg) (r : MTs) : MTs := fun ds env h => match ds with
  | d :: ds => match t d env h with
    | some (e, h1) => r ds e h1
    | none => none
  | [] => none
def gT (n : Nat) (r : MTs) : MTg := fun d env h => match d with
  | .tup ds => if ds.length = n then r ds env h else none
  | _ => none
def toOut : Option (En × IH) → Out
  | some (e, h) => .nx e h
  | none => .stk
def sNil : MS := fun env h => .nx env h
def sSeq (a b : MS) : MS := fun env h => (a env h).then b
def sAsg (e : ME) (t : MTg) : MS := fun env h => (e env h).bindS env fun d h1 => toOut (t d env h1)
def sExpr (e : ME) : MS := fun env h => (e env h).bindS env fun _ h1 => .nx env h1
def sRet (e : ME) : MS := fun env h => (e env h).bindS env fun d h1 => .rt d h1
def sRetN : MS := fun _ h => .rt .non h
def sIf (c : MT) (a b : MS) : MS := fun env h => (c env h).bindS env fun k h1 => if k then a env h1 else b env h1
def sBrk : MS := fun env h => .bk env h
def sCnt : MS := fun env h => .ct env h
def sAug (i : Nat) (f : D → D → IH → Res D) (e : ME) : MS := fun env h => (mBin f (mVar i) e env h).bindS env fun d h1 => .nx (env.set i (some d)) h1
def sPar (i j : Nat) (m : MA) : MS := fun env h => (m env h).bindS env fun ds h1 => match ds with
  | [d, e] => .nx ((env.set i (some d)).set j (some e)) h1
  | _ => .stk
def sPar3 (i j k : Nat) (m : MA) : MS := fun env h => (m env h).bindS env fun ds h1 => match ds with
  | [d, e, f] => .nx (((env.set i (some d)).set j (some e)).set k (some f)) h1
  | _ => .stk
def whileM : Nat → MT → MS → MS
  | 0, _, _ => fun _ _ => .stk
  | n + 1, c, b => fun env h => (c env h).bindS env fun t h1 => if t then (match b env h1 with
    | .nx e h2 => whileM n c b e h2
    | .ct e h2 => whileM n c b e h2
    | .bk e h2 => .nx e h2
    | .rt d h2 => .rt d h2
    | .exc x e h2 => .exc x e h2
    | .stk => .stk) else .nx env h1

section
variable {X : Cx} {W : WX} {pos : Pos} {st : Stmt} {rest : List Stmt} {m m' : MS}
theorem PoS.then {mg : MG} {K : PySem.W.Frag} {W : WX} {H : Hp} {μ : List Addr} {o : Out} {f : En → IH → Out} {Z : Ends} {Q : L2.St → Hp → Prop} (p : PoS mg K W H μ (o.then f) Z)
    (q : ∀ e h σ' μ' H', Ext K H μ H' μ' → Rl K H' μ' h → EnvR K H' μ' σ' e → PoS mg K W H' μ' (f e h) Z → Q σ' H') : PoS mg K W H μ o { Z with nx := Q } := by
  cases o with
  | nx e h => exact fun σ' μ' H' x rl er => q e h σ' μ' H' x rl er (PoS.ext x p)
  | rt d h => exact p
  | bk e h => exact p
  | ct e h => exact p
  | exc z e h => exact p
  | stk => exact p
theorem qss_nil : QSs X W [] sNil := PSs.imp pss_nil fun Z σ H ⟨μ, h, env, rl, er, p⟩ => p σ μ H .refl rl er
theorem qss_one (h : QS X W st m) : QSs X W [st] m := pss_one h
theorem qss_cons (h1 : QS X W st m) (h2 : QSs X W rest m') : QSs X W (st :: rest) (sSeq m m') := PSs.imp (pss_cons h1 h2) fun Z σ H ⟨μ, h, env, rl, er, p⟩ =>
  ⟨μ, h, env, rl, er, PoS.then p fun e h' σ' μ' H' x rl' er' p' => ⟨μ', h', e, rl', er', p'⟩⟩
variable {e : Expr} {me : ME}
theorem qs_expr (he : QE X W e me) (hs : swapsWith e none pos.line X.env = pure false := by rfl) : QS X W (.Expr e pos) (sExpr me) := PS.imp (ps_expr he hs) fun Z σ H ⟨μ, h, env, rl, er, p⟩ =>
  ⟨μ, h, env, rl, er, Po.thenS er p fun d h1 v μ1 H1 x1 rl1 rp1 p1 => p1 σ μ1 H1 .refl rl1 (er.mono x1)⟩
theorem qs_ret (he : QE X W e me) : QS X W (.Return (some e) pos) (sRet me) := PS.imp (ps_ret he) fun Z σ H ⟨μ, h, env, rl, er, p⟩ =>
  ⟨μ, h, env, rl, er, Po.thenS er p fun d h1 v μ1 H1 x1 rl1 rp1 p1 => p1 v μ1 H1 .refl rl1 rp1⟩
theorem qs_retN : QS X W (.Return none pos) sRetN := PS.imp ps_retN fun Z σ H ⟨μ, h, env, rl, er, p⟩ => p .non μ H .refl rl .non
theorem qs_pass : QS X W (.Pass pos) sNil := PS.imp ps_pass fun Z σ H ⟨μ, h, env, rl, er, p⟩ => p σ μ H .refl rl er
theorem qs_brk : QS X W (.Break pos) sBrk := PS.imp ps_break fun Z σ H ⟨μ, h, env, rl, er, p⟩ => p σ μ H .refl rl er
theorem qs_cnt : QS X W (.Continue pos) sCnt := PS.imp ps_continue fun Z σ H ⟨μ, h, env, rl, er, p⟩ => p σ μ H .refl rl er
theorem qs_if {c : Expr} {a b : List Stmt} {tc : MT} (hc : QT X W c tc) (ha : QSs X W a m) (hb : QSs X W b m') : QS X W (.If c a b pos) (sIf tc m m') := PS.imp (ps_if hc ha hb) fun Z σ H ⟨μ, h, env, rl, er, p⟩ =>
  ⟨μ, h, env, rl, er, Po.thenS er p fun k h1 v μ1 H1 x1 rl1 e1 p1 => by
    have e2 : v = k := e1
    subst e2
    cases v with
    | true =>
      rw [if_pos rfl] at p1 ⊢
      exact ⟨μ1, h1, env, rl1, er.mono x1, p1⟩
    | false =>
      rw [if_neg Bool.false_ne_true] at p1 ⊢
      exact ⟨μ1, h1, env, rl1, er.mono x1, p1⟩⟩
/-- a statement that is never reached -/
theorem qs_never : QS X W st (fun _ _ => .stk) := PS.imp ps_never fun Z σ H ⟨μ, h, env, rl, er, p⟩ => p
theorem qg_name (i : Nat) {x : Str} (hN : X.N.Nodup) (hi : X.N[i]? = some x := by rfl) (hx : Loc X.env.scope x := by first | exact Or.inl rfl | exact Or.inr rfl) (hf : X.fn x = true ∨ X.env.scope.names.lookup x = some .local := by first | exact .inl rfl | exact .inr rfl | assumption) : QG X (.Name x pos) (gN i) :=
  ⟨fun pins s σ H v u Q I r ⟨μ, h, env, d, rl, er, rp, p⟩ => (pg_name hN hi hx hf).run pins s σ H v u Q I r (p _ μ H .refl rl (er.set rp))⟩
theorem qgs_nil : QGs X [] gsNil := ⟨fun pins s σ H vs us Q I r ⟨μ, h, env, d, rl, er, rp, p⟩ => pgs_nil.run pins s σ H vs us Q I r (by
  cases rp with
  | nil => exact ⟨rfl, p σ μ H .refl rl er⟩
  | cons a b => exact p.elim)⟩
theorem qgs_cons {tg : Expr} {ts : List Expr} {g : MTg} {gs : MTs} (h1 : QG X tg g) (h2 : QGs X ts gs) (hs : (assignEach (tg :: ts) X.env).map (·.2) = assign tg X.env :: (assignEach ts X.env).map (·.2) := by rfl) : QGs X (tg :: ts) (gsCons g gs) :=
  ⟨fun pins s σ H vs us Q I r ⟨μ, h, env, ds, rl, er, rp, p⟩ => (pgs_cons h1 h2 hs).run pins s σ H vs us Q I r (by
    cases rp with
    | nil => exact p.elim
    | cons a b =>
      refine ⟨_, _, rfl, μ, h, env, _, rl, er, a, ?_⟩
      simp only [gsCons] at p
      split at p
      · rename_i e h3 z
        rw [z]
        exact fun σ' μ' H' x rl' er' => ⟨μ', h3, e, _, rl', er', b.mono x, PoG.ext x p⟩
      · exact p.elim)⟩
theorem qg_tup {ts : List Expr} {k n : Nat} {gs : MTs} (hc : X.calm = true) (h : QGs X ts gs) (hn : (assignEach ts X.env).length = n := by rfl) (hst : (assignEach ts X.env).findIdx? (·.1) = none := by rfl) : QG X (.Tuple ts k pos) (gT n gs) :=
  ⟨fun pins s σ H v u Q I r ⟨μ, h', env, d, rl, er, rp, p⟩ => (pg_tup hc h hn hst).run pins s σ H v u Q I r (by
    cases rp with
    | tup s1 q =>
      simp only [gT] at p
      split at p
      · rename_i z
        exact ⟨_, _, rfl, s1, by rw [q.length]; exact z, μ, h', env, _, rl, er, q, p⟩
      · exact p.elim
    | _ => exact p.elim)⟩
theorem PoS.tg {mg : MG} {K : PySem.W.Frag} {W : WX} {H : Hp} {μ : List Addr} {o : Option (En × IH)} {Z : Ends} (p : PoS mg K W H μ (toOut o) Z) : PoG K H μ o Z.nx := by
  cases o with
  | some z => exact p
  | none => exact p
theorem qs_asg {tg : Expr} {g : MTg} (he : QE X W e me) (hg : QG X tg g) (hs : swapsWithSole [tg] e pos.line X.env = pure false := by rfl) (hw : swappedStores [tg] e X.env = pure none := by rfl)
    (h1 : (assignEach [tg] X.env).map (·.2) = [assign tg X.env] := by rfl) : QS X W (.Assign [tg] e pos) (sAsg me g) := PS.imp (ps_asg he hg hs hw h1) fun Z σ H ⟨μ, h, env, rl, er, p⟩ =>
  ⟨μ, h, env, rl, er, Po.thenS er p fun d h2 v μ1 H1 x1 rl1 rp1 p1 => ⟨μ1, h2, env, d, rl1, er.mono x1, rp1, p1.tg⟩⟩
theorem qs_set (i : Nat) {x : Str} {pos' : Pos} (hN : X.N.Nodup) (he : QE X W e me) (hi : X.N[i]? = some x := by rfl) (hx : Loc X.env.scope x := by first | exact Or.inl rfl | exact Or.inr rfl) (hs : swapsWith e (some (.Name x pos')) pos.line X.env = pure false := by rfl)
    (hf : X.fn x = true ∨ X.env.scope.names.lookup x = some .local := by first | exact .inl rfl | exact .inr rfl | assumption) : QS X W (.Assign [.Name x pos'] e pos) (sAsg me (gN i)) := PS.imp (ps_set hN hi hx he hs hf) fun Z σ H ⟨μ, h, env, rl, er, p⟩ =>
  ⟨μ, h, env, rl, er, Po.thenS er p fun d h2 v μ1 H1 x1 rl1 rp1 p1 => p1 _ _ _ .refl rl1 ((er.mono x1).set rp1)⟩
theorem qs_par (i j : Nat) {x y : Str} {a b : Expr} {ma : MA} {px py pt : Pos} {kt k2 pt2} (hc : X.calm = true) (hN : X.N.Nodup) (ha : QA X W [a, b] ma) (hi : X.N[i]? = some x := by rfl) (hj : X.N[j]? = some y := by rfl) (hij : i ≠ j := by decide)
    (hx : X.env.scope.names.lookup x = some .local := by rfl) (hy : X.env.scope.names.lookup y = some .local := by rfl) (hw : swappedStores [.Tuple [.Name x px, .Name y py] kt pt] (.Tuple [a, b] k2 pt2) X.env = pure (some [x, y]) := by rfl)
    (hs : swapsWithSole [.Tuple [.Name x px, .Name y py] kt pt] (.Tuple [a, b] k2 pt2) pos.line X.env = pure false := by rfl) : QS X W (.Assign [.Tuple [.Name x px, .Name y py] kt pt] (.Tuple [a, b] k2 pt2) pos) (sPar i j ma) :=
  PS.imp (ps_par hc hN hi hj hij hx hy ha hw hs) fun Z σ H ⟨μ, h, env, rl, er, p⟩ => ⟨μ, h, env, rl, er, Po.thenS er p fun ds h1 vs μ1 H1 x1 rl1 rp1 p1 => by
    split at p1
    · cases rp1 with
      | cons r1 q1 =>
        cases q1 with
        | cons r2 q2 =>
          cases q2
          exact ⟨_, _, rfl, p1 _ _ _ .refl rl1 (((er.mono x1).set r1).set r2)⟩
    · exact p1.elim⟩
theorem qs_par3 (i j l : Nat) {x y z : Str} {a b c : Expr} {ma : MA} {px py pz pt : Pos} {kt k2 pt2} (hc : X.calm = true) (hN : X.N.Nodup) (ha : QA X W [a, b, c] ma) (hi : X.N[i]? = some x := by rfl) (hj : X.N[j]? = some y := by rfl) (hl : X.N[l]? = some z := by rfl)
    (hij : i ≠ j := by decide) (hil : i ≠ l := by decide) (hjl : j ≠ l := by decide)
    (hx : X.env.scope.names.lookup x = some .local := by rfl) (hy : X.env.scope.names.lookup y = some .local := by rfl) (hz : X.env.scope.names.lookup z = some .local := by rfl) (hw : swappedStores [.Tuple [.Name x px, .Name y py, .Name z pz] kt pt] (.Tuple [a, b, c] k2 pt2) X.env = pure (some [x, y, z]) := by rfl)
    (hs : swapsWithSole [.Tuple [.Name x px, .Name y py, .Name z pz] kt pt] (.Tuple [a, b, c] k2 pt2) pos.line X.env = pure false := by rfl) : QS X W (.Assign [.Tuple [.Name x px, .Name y py, .Name z pz] kt pt] (.Tuple [a, b, c] k2 pt2) pos) (sPar3 i j l ma) :=
  PS.imp (ps_par3 hc hN hi hj hl hij hil hjl hx hy hz ha hw hs) fun Z σ H ⟨μ, h, env, rl, er, p⟩ => ⟨μ, h, env, rl, er, Po.thenS er p fun ds h1 vs μ1 H1 x1 rl1 rp1 p1 => by
    split at p1
    · cases rp1 with
      | cons r1 q1 =>
        cases q1 with
        | cons r2 q2 =>
          cases q2 with
          | cons r3 q3 =>
            cases q3
            exact ⟨_, _, _, rfl, p1 _ _ _ .refl rl1 ((((er.mono x1).set r1).set r2).set r3)⟩
    · exact p1.elim⟩
/-- name op= e -/
theorem qs_aug (i : Nat) {x : Str} {op : Operator} {r : TIp} {f : D → D → IH → Res D} {pos' : Pos} (hN : X.N.Nodup) (ho : PIp X op r) (sd : Sd2 X r f) (he : QE X W e me) (hi : X.N[i]? = some x := by rfl) (hx : Loc X.env.scope x := by first | exact Or.inl rfl | exact Or.inr rfl)
    (hf : X.fn x = true ∨ X.env.scope.names.lookup x = some .local := by first | exact .inl rfl | exact .inr rfl | assumption) : QS X W (.AugAssign (.Name x pos') op e pos) (sAug i f me) := PS.imp (ps_aug hN hi hx he ho hf) fun Z σ H ⟨μ, h, env, rl, er, p⟩ => by
  simp only [sAug, mBin, mVar] at p
  split at p
  · rename_i d z
    obtain ⟨v, h1, h2⟩ := er.2 i d z
    have p' : PoS X.mg X.K W H μ (((me env h).bind fun y h2 => f d y h2).bindS env fun d h1 => .nx (env.set i (some d)) h1) Z := p
    refine ⟨v, h1, μ, h, env, rl, er, ?_⟩
    have key := Po.thenS (R := Rp X.K) er p' (Q' := fun w H' => Z.nx (σ.set i (some w)) H') fun d' h3 v3 μ3 H3 x3 rl3 rp3 p3 => p3 _ _ _ .refl rl3 ((er.mono x3).set rp3)
    exact Po.then (R := Rp X.K) key fun y h4 v4 μ4 H4 x4 rl4 rp4 p4 => sd W σ v v4 d y H4 μ4 h4 _ rl4 (h2.mono x4) rp4 p4
  · exact p.elim
/-- while -/
theorem qs_while {k : Nat} {c : Expr} {body : List Stmt} {mc : MT} {mb : MS} (fuel : Nat) (C : Ctx X W k) (hc : QT X W c mc) (hb : QSs X W body mb) : QS X W (.While c body [] pos) (whileM fuel mc mb) := PS.imp (ps_while C.po hc hb) fun Z σ H ⟨μ, h, env, rl, er, p⟩ => by
  refine ⟨fun n σ H => ∃ μ h env, Rl X.K H μ h ∧ EnvR X.K H μ σ env ∧ PoS X.mg X.K W H μ (whileM n mc mb env h) Z, ⟨fuel, μ, h, env, rl, er, p⟩, fun n σ H hw => ?_⟩
  obtain ⟨μ, h, env, rl, er, p⟩ := hw
  cases n with
  | zero => exact p.elim
  | succ n =>
    simp only [whileM] at p
    refine ⟨μ, h, env, rl, er, Po.thenS er p fun t h1 v μ1 H1 x1 rl1 e1 p1 => ?_⟩
    have e2 : v = t := e1
    subst e2
    cases v with
    | false =>
      rw [if_neg Bool.false_ne_true] at p1 ⊢
      exact p1 _ _ _ .refl rl1 (er.mono x1)
    | true =>
      rw [if_pos rfl] at p1 ⊢
      refine ⟨fun σ' H' => ∃ μ h env, Rl X.K H' μ h ∧ EnvR X.K H' μ σ' env ∧ PoS X.mg X.K W H' μ (whileM n mc mb env h) Z, fun σ' H' q => ⟨n, Nat.lt_succ_self n, q⟩, μ1, h1, env, rl1, er.mono x1, ?_⟩
      revert p1
      cases mb env h1 with
      | nx e h2 => exact fun q σ' μ' H' x rl er => ⟨μ', h2, e, rl, er, PoS.ext x q⟩
      | ct e h2 => exact fun q σ' μ' H' x rl er => ⟨μ', h2, e, rl, er, PoS.ext x q⟩
      | bk e h2 => exact fun q => q
      | rt d h2 => exact fun q => q
      | exc z e h2 => exact fun q => q
      | stk => exact fun q => q
end
end DD
set_option Elab.async false
set_option linter.all false
set_option maxRecDepth 100000
namespace DD
open PySem PySem.Spec L2 PyProof.Rows

/-! ### what is walked -/
inductive Src where
  | st (ds : List D) | lv (get : IH → Option (List D))
def Src.get : Src → IH → Option (List D)
  | .st ds, _ => some ds
  | .lv g, h => g h
def Src.endAt (s : Src) (n i : Nat) : Prop := match s with
  | .st _ => i = n
  | .lv _ => n ≤ i
def JOk (K : PySem.W.Frag) (H0 : Hp) (μ0 : List Addr) (J : It) (s : Src) : Prop := ∀ H μ h es, Ext K H0 μ0 H μ → Rl K H μ h → s.get h = some es →
  (∀ (i : Nat) d, es[i]? = some d → J.go i H ∧ ∀ x H', J.yld i H x H' → Ext K H μ H' μ ∧ Rl K H' μ h ∧ Rp K H' μ x d) ∧ ∀ i, s.endAt es.length i → J.stop i H
abbrev MI := En → IH → Res Src
def RI (mg : MG) (K : PySem.W.Frag) (W : WX) (m : MI) : TI := fun σ H R => ∃ μ h env, Rl K H μ h ∧ EnvR K H μ σ env ∧ Po mg K W (JOk K) σ H μ (m env h) R
def QI (X : Cx) (W : WX) (tg iter : Expr) (m : MI) : Prop := PI X tg iter (RI X.mg X.K W m)
theorem PI.imp {X : Cx} {tg iter : Expr} {t t' : TI} (h : PI X tg iter t) (i : ∀ σ H R, t' σ H R → t σ H R) : PI X tg iter t' := ⟨fun pins s σ H R I q => h.run pins s σ H R I (i σ H R q)⟩
theorem PI.or {X : Cx} {tg iter : Expr} {t t' : TI} (h : PI X tg iter t) (h' : PI X tg iter t') : PI X tg iter (fun σ H R => t σ H R ∨ t' σ H R) := ⟨fun pins s σ H R I q => q.elim (h.run pins s σ H R I) (h'.run pins s σ H R I)⟩

/-! ### for -/
def forS (t : MTg) (b : MS) : List D → MS
  | [] => fun env h => .nx env h
  | d :: ds => fun env h => match t d env h with
    | none => .stk
    | some (e, h1) => match b e h1 with
      | .nx e h2 => forS t b ds e h2
      | .ct e h2 => forS t b ds e h2
      | .bk e h2 => .nx e h2
      | .rt d h2 => .rt d h2
      | .exc x e h2 => .exc x e h2
      | .stk => .stk
def forL (get : IH → Option (List D)) (t : MTg) (b : MS) : Nat → Nat → MS
  | 0, _ => fun _ _ => .stk
  | n + 1, i => fun env h => match get h with
    | none => .stk
    | some es => match es[i]? with
      | none => .nx env h
      | some d => match t d env h with
        | none => .stk
        | some (e, h1) => match b e h1 with
          | .nx e h2 => forL get t b n (i + 1) e h2
          | .ct e h2 => forL get t b n (i + 1) e h2
          | .bk e h2 => .nx e h2
          | .rt d h2 => .rt d h2
          | .exc x e h2 => .exc x e h2
          | .stk => .stk
def sFor (it : MI) (t : MTg) (b : MS) : MS := fun env h => (it env h).bindS env fun s h1 => match s with
  | .st ds => forS t b ds env h1
  | .lv get => match get h1 with
    | some es => forL get t b (es.length + 1) 0 env h1
    | none => .stk
section
variable {X : Cx} {W : WX} {pos : Pos}
theorem qs_for {k : Nat} {tg iter : Expr} {body : List Stmt} {mi : MI} {g : MTg} {mb : MS} (C : Ctx X W k) (hi : QI X W tg iter mi) (hg : QG X tg g) (hb : QSs X W body mb) (hs : ∀ x, foldedSetIterable iter X.env x = pure x := by intro _; rfl) :
    QS X W (.For tg iter body [] pos) (sFor mi g mb) := PS.imp (ps_for C.po C.calm hi hg hb hs) fun Z σ H ⟨μ, h, env, rl, er, p⟩ => by
  refine ⟨μ, h, env, rl, er, Po.thenS er p fun s h1 J μ1 H1 x1 rl1 jo p1 => ?_⟩
  cases s with
  | st ds =>
    refine ⟨fun i m σ H => ∃ μ h env, Ext X.K H1 μ1 H μ ∧ Rl X.K H μ h ∧ EnvR X.K H μ σ env ∧ i + m = ds.length ∧ PoS X.mg X.K W H μ (forS g mb (ds.drop i) env h) Z,
      ⟨ds.length, μ1, h1, env, .refl, rl1, er.mono x1, Nat.zero_add _, p1⟩, fun i m σ H hw => ?_⟩
    obtain ⟨μ, h, env, x, rl, er, em, p⟩ := hw
    obtain ⟨j1, j2⟩ := jo H μ h ds x rl rfl
    by_cases hlt : i < ds.length
    · refine .inr ⟨(j1 i ds[i] (List.getElem?_eq_getElem hlt)).1, fun σ' H' => ∃ μ h env, Ext X.K H1 μ1 H' μ ∧ Rl X.K H' μ h ∧ EnvR X.K H' μ σ' env ∧ PoS X.mg X.K W H' μ (forS g mb (ds.drop (i + 1)) env h) Z, fun σ' H' hn => ?_, fun v H' hy => ?_⟩
      · obtain ⟨μ, h, env, x, rl, er, p⟩ := hn
        exact ⟨m - 1, by omega, μ, h, env, x, rl, er, by omega, p⟩
      · obtain ⟨y1, y2, y3⟩ := (j1 i ds[i] (List.getElem?_eq_getElem hlt)).2 v H' hy
        refine ⟨μ, h, env, ds[i], y2, er.mono y1, y3, ?_⟩
        rw [List.drop_eq_getElem_cons hlt] at p
        simp only [forS] at p
        revert p
        cases g ds[i] env h with
        | none => exact fun q => q
        | some eh =>
          obtain ⟨e, h2⟩ := eh
          intro q σ2 μ2 H2 x2 rl2 er2
          refine ⟨μ2, h2, e, rl2, er2, ?_⟩
          revert q
          show PoS X.mg X.K W H μ (match mb e h2 with
            | .nx e h2 => forS g mb (ds.drop (i + 1)) e h2
            | .ct e h2 => forS g mb (ds.drop (i + 1)) e h2
            | .bk e h2 => .nx e h2
            | .rt d h2 => .rt d h2
            | .exc x e h2 => .exc x e h2
            | .stk => .stk) Z → _
          cases mb e h2 with
          | nx e h3 => exact fun q σ' μ' H' x3 rl er => ⟨μ', h3, e, x.trans (y1.trans (x2.trans x3)), rl, er, PoS.ext (y1.trans (x2.trans x3)) q⟩
          | ct e h3 => exact fun q σ' μ' H' x3 rl er => ⟨μ', h3, e, x.trans (y1.trans (x2.trans x3)), rl, er, PoS.ext (y1.trans (x2.trans x3)) q⟩
          | bk e h3 => exact fun q => PoS.ext (y1.trans x2) q
          | rt d h3 => exact fun q => PoS.ext (y1.trans x2) q
          | exc z e h3 => exact fun q => PoS.ext (y1.trans x2) q
          | stk => exact fun q => q
    · rw [List.drop_eq_nil_of_le (by omega)] at p
      exact .inl ⟨j2 i (show i = ds.length by omega), p σ μ H .refl rl er⟩
  | lv get =>
    simp only at p1
    split at p1
    · rename_i es0 z0
      refine ⟨fun i m σ H => ∃ μ h env, Ext X.K H1 μ1 H μ ∧ Rl X.K H μ h ∧ EnvR X.K H μ σ env ∧ PoS X.mg X.K W H μ (forL get g mb m i env h) Z,
        ⟨es0.length + 1, μ1, h1, env, .refl, rl1, er.mono x1, p1⟩, fun i m σ H hw => ?_⟩
      obtain ⟨μ, h, env, x, rl, er, p⟩ := hw
      cases m with
      | zero => exact p.elim
      | succ m =>
        simp only [forL] at p
        cases zg : get h with
        | none =>
          rw [zg] at p
          exact p.elim
        | some es =>
          rw [zg] at p
          obtain ⟨j1, j2⟩ := jo H μ h es x rl zg
          simp only at p
          cases zi : es[i]? with
          | none =>
            rw [zi] at p
            exact .inl ⟨j2 i (List.getElem?_eq_none_iff.mp zi), p σ μ H .refl rl er⟩
          | some d =>
            rw [zi] at p
            refine .inr ⟨(j1 i d zi).1, fun σ' H' => ∃ μ h env, Ext X.K H1 μ1 H' μ ∧ Rl X.K H' μ h ∧ EnvR X.K H' μ σ' env ∧ PoS X.mg X.K W H' μ (forL get g mb m (i + 1) env h) Z, fun σ' H' hn => ⟨m, Nat.lt_succ_self m, hn⟩, fun v H' hy => ?_⟩
            obtain ⟨y1, y2, y3⟩ := (j1 i d zi).2 v H' hy
            refine ⟨μ, h, env, d, y2, er.mono y1, y3, ?_⟩
            revert p
            simp only
            cases g d env h with
            | none => exact fun q => q
            | some eh =>
              obtain ⟨e, h2⟩ := eh
              intro q σ2 μ2 H2 x2 rl2 er2
              refine ⟨μ2, h2, e, rl2, er2, ?_⟩
              revert q
              simp only
              cases mb e h2 with
              | nx e h3 => exact fun q σ' μ' H' x3 rl er => ⟨μ', h3, e, x.trans (y1.trans (x2.trans x3)), rl, er, PoS.ext (y1.trans (x2.trans x3)) q⟩
              | ct e h3 => exact fun q σ' μ' H' x3 rl er => ⟨μ', h3, e, x.trans (y1.trans (x2.trans x3)), rl, er, PoS.ext (y1.trans (x2.trans x3)) q⟩
              | bk e h3 => exact fun q => PoS.ext (y1.trans x2) q
              | rt d h3 => exact fun q => PoS.ext (y1.trans x2) q
              | exc z e h3 => exact fun q => PoS.ext (y1.trans x2) q
              | stk => exact fun q => q
    · exact p1.elim
end

/-! ### comprehensions: the new list is laid down behind the last item -/
def wipeE (env : En) : List Nat → En
  | [] => env
  | v :: vs => (wipeE env vs).set v none
theorem wipeE_length (env : En) : ∀ vs : List Nat, (wipeE env vs).length = env.length
  | [] => rfl
  | v :: vs => by
    unfold wipeE
    rw [List.length_set, wipeE_length env vs]
theorem wipeE_some {env : En} {i : Nat} {d : D} : ∀ {vs : List Nat}, (wipeE env vs)[i]? = some (some d) → env[i]? = some (some d) ∧ i ∉ vs
  | [], h => ⟨h, by simp⟩
  | v :: vs, h => by
    unfold wipeE at h
    rw [List.getElem?_set] at h
    split at h
    · split at h <;> cases h
    · rename_i hv
      obtain ⟨h1, h2⟩ := wipeE_some h
      exact ⟨h1, fun z => (List.mem_cons.mp z).elim (fun z => hv z.symm) h2⟩
theorem wipe_get {σ : L2.St} {i : Nat} : ∀ {vs : List Nat}, i ∉ vs → (wipe σ vs)[i]? = σ[i]?
  | [], _ => rfl
  | v :: vs, h => by
    unfold wipe
    rw [List.getElem?_set_ne (fun z => h (by rw [z]; exact List.mem_cons_self)), wipe_get fun z => h (List.mem_cons_of_mem _ z)]
theorem wipe_set {σ : L2.St} {i : Nat} {x : Option V} : ∀ {vs : List Nat}, i ∈ vs → wipe (σ.set i x) vs = wipe σ vs
  | [], h => by simp at h
  | v :: vs, h => by
    have key : ∀ (ws : List Nat) (i : Nat), wipe (σ.set i x) ws = (if i ∈ ws then wipe σ ws else (wipe σ ws).set i x) := by
      intro ws
      induction ws with
      | nil =>
        intro i
        rfl
      | cons w ws ih =>
        intro i
        unfold wipe
        rw [ih i]
        by_cases h1 : i ∈ ws
        · rw [if_pos h1, if_pos (List.mem_cons_of_mem _ h1)]
        · rw [if_neg h1]
          by_cases h2 : i = w
          · subst h2
            rw [if_pos List.mem_cons_self, List.set_set]
          · rw [if_neg (fun z => (List.mem_cons.mp z).elim h2 h1), List.set_comm _ _ h2]
    rw [key, if_pos h]
theorem wipe_wipe {σ : L2.St} {vs : List Nat} : wipe (wipe σ vs) vs = wipe σ vs := by
  have key : ∀ ws : List Nat, (∀ i ∈ ws, i ∈ vs) → wipe (wipe σ ws) vs = wipe σ vs := by
    intro ws
    induction ws with
    | nil =>
      intro _
      rfl
    | cons w ws ih =>
      intro h
      show wipe ((wipe σ ws).set w none) vs = _
      rw [wipe_set (h w List.mem_cons_self)]
      exact ih fun i hi => h i (List.mem_cons_of_mem _ hi)
  exact key vs fun _ h => h
theorem EnvR.wipe {K : PySem.W.Frag} {H : Hp} {μ : List Addr} {σ : L2.St} {env : En} (er : EnvR K H μ σ env) (vs : List Nat) : EnvR K H μ (L2.wipe σ vs) (wipeE env vs) := by
  refine ⟨by rw [wipe_length, wipeE_length]; exact er.1, fun i d e => ?_⟩
  obtain ⟨h1, h2⟩ := wipeE_some e
  rw [wipe_get h2]
  exact er.2 i d h1
/-- a target whose names are the block's own -/
def RX (K : PySem.W.Frag) (own : List Nat) (m : MTg) : TG := fun v σ H Q => ∃ μ h env d, Rl K H μ h ∧ EnvR K H μ σ env ∧ Rp K H μ v d ∧ PoG K H μ (m d env h) fun σ' H' => L2.wipe σ' own = L2.wipe σ own → Q σ' H'
def RXs (K : PySem.W.Frag) (own : List Nat) (m : MTs) : TGs := fun v σ H Q => ∃ μ h env d, Rl K H μ h ∧ EnvR K H μ σ env ∧ Rps K H μ v d ∧ PoG K H μ (m d env h) fun σ' H' => L2.wipe σ' own = L2.wipe σ own → Q σ' H'
def QX (X : Cx) (own : List Nat) (e : Expr) (m : MTg) : Prop := PG X e (RX X.K own m)
def QXs (X : Cx) (own : List Nat) (e : List Expr) (m : MTs) : Prop := PGs X e (RXs X.K own m)
section
variable {X : Cx} {pos : Pos} {own : List Nat}
theorem qx_name (i : Nat) {x : Str} (hN : X.N.Nodup) (ho : i ∈ own := by decide) (hi : X.N[i]? = some x := by rfl) (hx : Loc X.env.scope x := by first | exact Or.inl rfl | exact Or.inr rfl) (hf : X.fn x = true ∨ X.env.scope.names.lookup x = some .local := by first | exact .inl rfl | exact .inr rfl | assumption) : QX X own (.Name x pos) (gN i) :=
  ⟨fun pins s σ H v u Q I r ⟨μ, h, env, d, rl, er, rp, p⟩ => (pg_name hN hi hx hf).run pins s σ H v u Q I r (p _ μ H .refl rl (er.set rp) (wipe_set ho))⟩
theorem qxs_nil : QXs X own [] gsNil := ⟨fun pins s σ H vs us Q I r ⟨μ, h, env, d, rl, er, rp, p⟩ => pgs_nil.run pins s σ H vs us Q I r (by
  cases rp with
  | nil => exact ⟨rfl, p σ μ H .refl rl er rfl⟩
  | cons a b => exact p.elim)⟩
theorem qxs_cons {tg : Expr} {ts : List Expr} {g : MTg} {gs : MTs} (h1 : QX X own tg g) (h2 : QXs X own ts gs) (hs : (assignEach (tg :: ts) X.env).map (·.2) = assign tg X.env :: (assignEach ts X.env).map (·.2) := by rfl) : QXs X own (tg :: ts) (gsCons g gs) :=
  ⟨fun pins s σ H vs us Q I r ⟨μ, h, env, ds, rl, er, rp, p⟩ => (pgs_cons h1 h2 hs).run pins s σ H vs us Q I r (by
    cases rp with
    | nil => exact p.elim
    | cons a b =>
      refine ⟨_, _, rfl, μ, h, env, _, rl, er, a, ?_⟩
      simp only [gsCons] at p
      split at p
      · rename_i e h3 z
        rw [z]
        refine fun σ' μ' H' x rl' er' ew => ⟨μ', h3, e, _, rl', er', b.mono x, ?_⟩
        have p2 := PoG.ext x p
        revert p2
        cases gs _ e h3 with
        | none => exact fun q => q
        | some z => exact fun q σ2 μ2 H2 x2 rl2 er2 ew2 => q σ2 μ2 H2 x2 rl2 er2 (ew2.trans ew)
      · exact p.elim)⟩
theorem qx_tup {ts : List Expr} {k n : Nat} {gs : MTs} (hc : X.calm = true) (h : QXs X own ts gs) (hn : (assignEach ts X.env).length = n := by rfl) (hst : (assignEach ts X.env).findIdx? (·.1) = none := by rfl) : QX X own (.Tuple ts k pos) (gT n gs) :=
  ⟨fun pins s σ H v u Q I r ⟨μ, h', env, d, rl, er, rp, p⟩ => (pg_tup hc h hn hst).run pins s σ H v u Q I r (by
    cases rp with
    | tup s1 q =>
      simp only [gT] at p
      split at p
      · rename_i z
        exact ⟨_, _, rfl, s1, by rw [q.length]; exact z, μ, h', env, _, rl, er, q, p⟩
      · exact p.elim
    | _ => exact p.elim)⟩
end
/-- one turn -/
def lcT (t : MTg) (c : MT) (e : ME) (env : En) (d : D) (acc : List D) (h : IH) : Res (List D) := match t d env h with
  | none => .stk
  | some (e1, h1) => match c e1 h1 with
    | .val true h2 => (match e e1 h2 with
      | .val y h3 => if acc.length < sizeLine then .val (acc ++ [y]) h3 else .stk
      | _ => .stk)
    | .val false h2 => .val acc h2
    | _ => .stk
def lcS (t : MTg) (c : MT) (e : ME) (env : En) : List D → List D → IH → Res (List D)
  | [], acc, h => .val acc h
  | d :: ds, acc, h => match lcT t c e env d acc h with
    | .val acc' h' => lcS t c e env ds acc' h'
    | _ => .stk
def lcL (get : IH → Option (List D)) (t : MTg) (c : MT) (e : ME) (env : En) : Nat → Nat → List D → IH → Res (List D)
  | 0, _, _, _ => .stk
  | n + 1, i, acc, h => match get h with
    | none => .stk
    | some es => match es[i]? with
      | none => .val acc h
      | some d => match lcT t c e env d acc h with
        | .val acc' h' => lcL get t c e env n (i + 1) acc' h'
        | _ => .stk
def lcRun (t : MTg) (c : MT) (e : ME) (env : En) (s : Src) (h1 : IH) : Res (List D) := match s with
  | .st ds => lcS t c e env ds [] h1
  | .lv get => match get h1 with
    | some es => lcL get t c e env (es.length + 1) 0 [] h1
    | none => .stk
def mLc (it : MI) (t : MTg) (c : MT) (e : ME) (own : List Nat) : ME := fun env h => (it env h).bind fun s h1 => (lcRun t c e (wipeE env own) s h1).bind fun ys h2 => .val (.ref h2.length) (h2 ++ [.lst ys])
def mYes : MT := fun _ h => .val true h
/-- the state between two turns: the new list stands at p, outside the own heap -/
structure LcI (K : PySem.W.Frag) (H1 : Hp) (μ1 : List Addr) (p : Addr) (H : Hp) (μ : List Addr) (h : IH) (acc : List D) : Prop where
  x : Ext K H1 μ1 H μ
  rl : Rl K H μ h
  np : p ∉ μ
  l : ∃ avs, H p = some (.lst avs) ∧ Rps K H μ avs acc
section
variable {K : PySem.W.Frag} {H1 H H2 : Hp} {μ1 μ μ2 : List Addr} {p : Addr} {h h2 : IH} {acc : List D}
theorem LcI.go (s : LcI K H1 μ1 p H μ h acc) (x : Ext K H μ H2 μ2) (rl : Rl K H2 μ2 h2) : LcI K H1 μ1 p H2 μ2 h2 acc := by
  obtain ⟨avs, h1, h3⟩ := s.l
  refine ⟨s.x.trans x, rl, fun z => ?_, avs, x.keep p _ h1 s.np, h3.mono x⟩
  have := x.fresh p z s.np
  rw [h1] at this
  cases this
theorem LcI.start (rl : Rl K H1 μ1 h) (hp : H1 p = none) : LcI K H1 μ1 p (upd H1 p (.lst [])) μ1 h [] := by
  refine ⟨Ext.new hp, rl.new hp, fun z => ?_, [], upd_same, .nil⟩
  obtain ⟨n, hn, e⟩ := List.mem_iff_getElem.mp z
  exact rl.old (n := n) (by rw [List.getElem?_eq_getElem hn, e]) hp rfl
theorem LcI.app {y : V} {d : D} (s : LcI K H1 μ1 p H μ h acc) (hp : H1 p = none) (r : Rp K H μ y d) : ∃ avs, H p = some (.lst avs) ∧ avs.length = acc.length ∧ LcI K H1 μ1 p (upd H p (.lst (avs ++ [y]))) μ h (acc ++ [d]) := by
  obtain ⟨avs, h1, h3⟩ := s.l
  have m : Mn K H μ (upd H p (.lst (avs ++ [y]))) μ := ⟨fun _ _ q => sqT_upd_mut q h1 (fun _ z => nomatch z) (fun _ _ z => nomatch z), fun _ _ q => frzL_upd_mut q h1 (fun _ _ z => nomatch z), fun _ _ q => q⟩
  refine ⟨avs, h1, h3.length, ⟨⟨fun a xs q => m.tup a xs (s.x.tup a xs q), fun a xs q => m.frz a xs (s.x.frz a xs q), s.x.pre⟩, fun a o q g => ?_, s.x.fresh⟩, ⟨s.rl.nd, s.rl.len, fun n a o e1 e2 => ?_⟩, s.np, _, upd_same, (h3.append (.cons r .nil)).mn m⟩
  · rw [upd_ne (ne_of_none q hp)]
    exact s.x.keep a o q g
  · refine (s.rl.ok n a o e1 e2).mn m (upd_ne fun z => s.np ?_)
    rw [← z]
    exact List.mem_of_getElem? e1
theorem LcI.fin (s : LcI K H1 μ1 p H μ h acc) (hp : H1 p = none) : Ext K H1 μ1 H (μ ++ [p]) ∧ Rl K H (μ ++ [p]) (h ++ [.lst acc]) ∧ Rp K H (μ ++ [p]) (.ref p) (.ref h.length) := by
  obtain ⟨avs, h1, h3⟩ := s.l
  have m : Mn K H μ H (μ ++ [p]) := ⟨fun _ _ q => q, fun _ _ q => q, fun n a q => by
    rw [List.getElem?_append_left (List.getElem?_eq_some_iff.mp q).1]
    exact q⟩
  refine ⟨⟨⟨s.x.tup, s.x.frz, fun n a q => m.pre n a (s.x.pre n a q)⟩, s.x.keep, fun a q g => ?_⟩, ⟨?_, by rw [List.length_append, List.length_append, s.rl.len]; rfl, fun n a o e1 e2 => ?_⟩, .ref ?_⟩
  · rcases List.mem_append.mp q with q | q
    · exact s.x.fresh a q g
    · rw [List.mem_singleton.mp q]
      exact hp
  · rw [List.nodup_append]
    exact ⟨s.rl.nd, by simp, fun a ha b hb z => s.np (by rw [← List.mem_singleton.mp hb, ← z]; exact ha)⟩
  · by_cases hn : n < μ.length
    · rw [List.getElem?_append_left hn] at e1
      rw [List.getElem?_append_left (by rw [← s.rl.len]; exact hn)] at e2
      exact (s.rl.ok n a o e1 e2).mn m rfl
    · rw [List.getElem?_append_right (by omega)] at e1
      rw [List.getElem?_append_right (by rw [← s.rl.len]; omega), ← s.rl.len] at e2
      have hz : n - μ.length = 0 := by
        have := (List.getElem?_eq_some_iff.mp e1).1
        rw [List.length_singleton] at this
        omega
      rw [hz] at e1 e2
      cases e1
      cases e2
      exact ⟨avs, h1, h3.mn m⟩
  · rw [← s.rl.len, List.getElem?_append_right (Nat.le_refl _), Nat.sub_self]
    rfl
theorem LcI.turn {mg : MG} {t : MTg} {c : MT} {e : ME} {own : List Nat} {env : En} {σ : L2.St} {d : D} {v : V} {acc' : List D} {h' : IH} (s : LcI K H1 μ1 p H μ h acc) (hp : H1 p = none) (er : EnvR K H1 μ1 (wipe σ own) env) (r : Rp K H μ v d) (z : lcT t c e env d acc h = .val acc' h') :
    RX K own t v (wipe σ own) H fun σ2 H2 => wipe σ2 own = wipe σ own ∧ RT mg K W0 c σ2 H2 fun b H3 => if b = true then RE mg K W0 e σ2 H3 fun y H4 => ∃ ac, H4 p = some (.lst ac) ∧ ac.length < sizeLine ∧ (∃ μ5, LcI K H1 μ1 p (upd H4 p (.lst (ac ++ [y]))) μ5 h' acc')
      else ∃ μ5, LcI K H1 μ1 p H3 μ5 h' acc' := by
  refine ⟨μ, h, env, d, s.rl, er.mono s.x, r, ?_⟩
  unfold lcT at z
  split at z
  · cases z
  · rename_i e1 h1 z1
    rw [z1]
    refine fun σ2 μ2 H2 x2 rl2 er2 ew => ⟨ew.trans wipe_wipe, μ2, h1, e1, rl2, er2, ?_⟩
    split at z
    · rename_i h3 z3
      rw [z3]
      refine fun b μ3 H3 x3 rl3 eb => ?_
      have eb2 : b = true := eb
      subst eb2
      dsimp only
      rw [if_pos rfl]
      refine ⟨μ3, h3, e1, rl3, er2.mono x3, ?_⟩
      split at z
      · rename_i y h4 z4
        rw [z4]
        split at z
        · rename_i z5
          cases z
          refine fun v4 μ4 H4 x4 rl4 r4 => ?_
          obtain ⟨avs, q1, q2, q3⟩ := ((s.go (x2.trans (x3.trans x4)) rl4).app hp r4)
          exact ⟨avs, q1, by rw [q2]; exact z5, μ4, q3⟩
        · cases z
      · cases z
    · rename_i h3 z3
      rw [z3]
      cases z
      refine fun b μ3 H3 x3 rl3 eb => ?_
      have eb2 : b = false := eb
      subst eb2
      dsimp only
      rw [if_neg Bool.false_ne_true]
      exact ⟨μ3, s.go (x2.trans x3) rl3⟩
    · cases z
end
def QTs (X : Cx) (W : WX) (es : List Expr) (m : MT) : Prop := PTs X es (RT X.mg X.K W m)
theorem qts_nil {X : Cx} {W : WX} : QTs X W [] mYes := ⟨fun pins s σ H Q I ⟨μ, h, env, rl, er, p⟩ => pts_nil.run pins s σ H Q I (p true μ H .refl rl rfl)⟩
theorem qts_one {X : Cx} {W : WX} {c : Expr} {m : MT} (h : QT X W c m) : QTs X W [c] m := pts_one h
theorem lc_imp {mg : MG} {K : PySem.W.Frag} {W : WX} {mi : MI} {t : MTg} {c : MT} {e : ME} {own : List Nat} : ∀ σ H Q, RE mg K W (mLc mi t c e own) σ H Q → tLc (RI mg K W mi) (RX K own t) (RT mg K W0 c) (RE mg K W0 e) own σ H Q := fun σ H Q ⟨μ, h, env, rl, er, po⟩ => by
  refine ⟨μ, h, env, rl, er, Po.then (R := JOk K) po fun s h1 J μ1 H1 x1 rl1 jo p1 p hp => ?_⟩
  have er1 : EnvR K H1 μ1 (L2.wipe σ own) (wipeE env own) := (er.mono x1).wipe own
  cases s with
  | st ds =>
    refine ⟨fun i m H => ∃ μ h acc, LcI K H1 μ1 p H μ h acc ∧ i + m = ds.length ∧ Po mg K W (Rp K) σ H1 μ1 ((lcS t c e (wipeE env own) (ds.drop i) acc h).bind fun ys h2 => .val (.ref h2.length) (h2 ++ [IO.lst ys])) Q,
      ⟨ds.length, μ1, h1, [], LcI.start rl1 hp, Nat.zero_add _, p1⟩, fun i m H hw => ?_⟩
    obtain ⟨μ, h, acc, s, em, po⟩ := hw
    obtain ⟨j1, j2⟩ := jo H μ h ds s.x s.rl rfl
    by_cases hlt : i < ds.length
    · rw [List.drop_eq_getElem_cons hlt] at po
      simp only [lcS] at po
      cases z : lcT t c e (wipeE env own) ds[i] acc h with
      | val acc' h' =>
        rw [z] at po
        refine .inr ⟨(j1 i ds[i] (List.getElem?_eq_getElem hlt)).1, fun H' => ∃ μ5, LcI K H1 μ1 p H' μ5 h' acc', fun H' hn => ?_, fun v H' hy => ?_⟩
        · obtain ⟨μ5, s5⟩ := hn
          exact ⟨m - 1, by omega, μ5, h', acc', s5, by omega, po⟩
        · obtain ⟨y1, y2, y3⟩ := (j1 i ds[i] (List.getElem?_eq_getElem hlt)).2 v H' hy
          exact (s.go y1 y2).turn hp er1 y3 z
      | exc x hh =>
        rw [z] at po
        exact po.elim
      | stk =>
        rw [z] at po
        exact po.elim
    · rw [List.drop_eq_nil_of_le (by omega)] at po
      obtain ⟨f1, f2, f3⟩ := s.fin hp
      exact .inl ⟨j2 i (show i = ds.length by omega), po _ _ _ f1 f2 f3⟩
  | lv get =>
    simp only [lcRun] at p1
    cases z0 : get h1 with
    | none =>
      rw [z0] at p1
      exact p1.elim
    | some es0 =>
      rw [z0] at p1
      refine ⟨fun i m H => ∃ μ h acc, LcI K H1 μ1 p H μ h acc ∧ Po mg K W (Rp K) σ H1 μ1 ((lcL get t c e (wipeE env own) m i acc h).bind fun ys h2 => .val (.ref h2.length) (h2 ++ [IO.lst ys])) Q,
        ⟨es0.length + 1, μ1, h1, [], LcI.start rl1 hp, p1⟩, fun i m H hw => ?_⟩
      obtain ⟨μ, h, acc, s, po⟩ := hw
      cases m with
      | zero => exact po.elim
      | succ m =>
        simp only [lcL] at po
        cases zg : get h with
        | none =>
          rw [zg] at po
          exact po.elim
        | some es =>
          rw [zg] at po
          obtain ⟨j1, j2⟩ := jo H μ h es s.x s.rl zg
          simp only at po
          cases zi : es[i]? with
          | none =>
            rw [zi] at po
            obtain ⟨f1, f2, f3⟩ := s.fin hp
            exact .inl ⟨j2 i (List.getElem?_eq_none_iff.mp zi), po _ _ _ f1 f2 f3⟩
          | some d =>
            rw [zi] at po
            simp only at po
            cases z : lcT t c e (wipeE env own) d acc h with
            | val acc' h' =>
              rw [z] at po
              refine .inr ⟨(j1 i d zi).1, fun H' => ∃ μ5, LcI K H1 μ1 p H' μ5 h' acc', fun H' hn => ?_, fun v H' hy => ?_⟩
              · obtain ⟨μ5, s5⟩ := hn
                exact ⟨m, Nat.lt_succ_self m, μ5, h', acc', s5, po⟩
              · obtain ⟨y1, y2, y3⟩ := (j1 i d zi).2 v H' hy
                exact (s.go y1 y2).turn hp er1 y3 z
            | exc x hh =>
              rw [z] at po
              exact po.elim
            | stk =>
              rw [z] at po
              exact po.elim
section
variable {X : Cx} {W : WX} {pos : Pos}
theorem qe_lc {k : Nat} {elt tg iter : Expr} {ifs : List Expr} {scope : Scope} (own : List (Str × Nat)) {mi : MI} {t : MTg} {c : MT} {e : ME} (C : Ctx X W k) (hi : QI X W tg iter mi) (ok : BlkOk X.N X.env.scope scope own)
    (hg : ∀ (s : Shared) (H : Hp) (c : Addr) (cl : List (Str × Addr)) (fp : List Addr), Ctx (X.blk s H scope (compEnvC scope cl c X.env) fp) W0 k → QX (X.blk s H scope (compEnvC scope cl c X.env) fp) (own.map (·.2)) tg t)
    (ht : ∀ (s : Shared) (H : Hp) (b : Addr) (cl : List (Str × Addr)) (fp : List Addr), Ctx (X.blk s H scope (compEnvC scope cl b X.env) fp) W0 k → QTs (X.blk s H scope (compEnvC scope cl b X.env) fp) W0 ifs c)
    (he : ∀ (s : Shared) (H : Hp) (b : Addr) (cl : List (Str × Addr)) (fp : List Addr), Ctx (X.blk s H scope (compEnvC scope cl b X.env) fp) W0 k → QE (X.blk s H scope (compEnvC scope cl b X.env) fp) W0 elt e)
    (hs : ∀ x, foldedSetIterable iter X.env x = pure x := by intro _; rfl) : QE X W (.ListComp elt [⟨tg, iter, ifs, 0⟩] scope pos) (mLc mi t c e (own.map (·.2))) :=
  PE.imp (pe_lc (own := own) (g := RX X.K (own.map (fun z : Str × Nat => z.2)) t) (tt := RT X.mg X.K W0 c) (te := RE X.mg X.K W0 e) C.calm C.nd hi ok (fun s H b cl fp => hg s H b cl fp C.blk) (fun s H b cl fp => ht s H b cl fp C.blk) (fun s H b cl fp => he s H b cl fp C.blk) hs) lc_imp
theorem qs_setLc (i : Nat) {y : Str} {py spos : Pos} {k : Nat} {elt tg iter : Expr} {ifs : List Expr} {scope : Scope} (own : List (Str × Nat)) {mi : MI} {t : MTg} {c : MT} {e : ME} (C : Ctx X W k) (hi : QI X W tg iter mi) (ok : BlkOk X.N X.env.scope scope own)
    (hg : ∀ (s : Shared) (H : Hp) (c : Addr) (cl : List (Str × Addr)) (fp : List Addr), Ctx (X.blk s H scope (compEnvC scope cl c X.env) fp) W0 k → QX (X.blk s H scope (compEnvC scope cl c X.env) fp) (own.map (·.2)) tg t)
    (ht : ∀ (s : Shared) (H : Hp) (b : Addr) (cl : List (Str × Addr)) (fp : List Addr), Ctx (X.blk s H scope (compEnvC scope cl b X.env) fp) W0 k → QTs (X.blk s H scope (compEnvC scope cl b X.env) fp) W0 ifs c)
    (he : ∀ (s : Shared) (H : Hp) (b : Addr) (cl : List (Str × Addr)) (fp : List Addr), Ctx (X.blk s H scope (compEnvC scope cl b X.env) fp) W0 k → QE (X.blk s H scope (compEnvC scope cl b X.env) fp) W0 elt e)
    (hy : X.N[i]? = some y := by rfl) (hyl : X.env.scope.names.lookup y = some .local := by rfl) (hsw : swapsWith (.ListComp elt [⟨tg, iter, ifs, 0⟩] scope pos) (some (.Name y py)) spos.line X.env = pure true := by exact sw_true rfl rfl rfl (by decide +kernel))
    (hs : ∀ x, foldedSetIterable iter X.env x = pure x := by intro _; rfl) : QS X W (.Assign [.Name y py] (.ListComp elt [⟨tg, iter, ifs, 0⟩] scope pos) spos) (sAsg (mLc mi t c e (own.map (·.2))) (gN i)) :=
  PS.imp (ps_setLc (own := own) (g := RX X.K (own.map (fun z : Str × Nat => z.2)) t) (tt := RT X.mg X.K W0 c) (te := RE X.mg X.K W0 e) C.calm C.nd hy hyl hsw hi ok (fun s H b cl fp => hg s H b cl fp C.blk) (fun s H b cl fp => ht s H b cl fp C.blk) (fun s H b cl fp => he s H b cl fp C.blk) hs) fun Z σ H ⟨μ, h, env, rl, er, p⟩ =>
    lc_imp (W := W) (mg := X.mg) σ H _ ⟨μ, h, env, rl, er, Po.thenS er p fun d h2 v μ1 H1 x1 rl1 rp1 p1 => p1 _ _ _ .refl rl1 ((er.mono x1).set rp1)⟩
end
end DD
set_option Elab.async false
set_option linter.all false
set_option maxRecDepth 100000
namespace DD
open PySem PySem.Spec L2 PyProof.Rows

section
variable {X : Cx} {W : WX}
theorem OpR.or {f : Value → Value → Sem Value} {r r' : R2} (h : OpR X f r) (h' : OpR X f r') : OpR X f (fun x y H Q => r x y H Q ∨ r' x y H Q) := fun pins s σ H x y v u Q I rx ry q =>
  q.elim (h pins s σ H x y v u Q I rx ry) (h' pins s σ H x y v u Q I rx ry)
theorem CallR.or {f : Value} {r r' : List V → Hp → VK → Prop} (h : CallR X f r) (h' : CallR X f r') : CallR X f (fun xs H Q => r xs H Q ∨ r' xs H Q) := fun pins s σ H xs us Q I rv q =>
  q.elim (h pins s σ H xs us Q I rv) (h' pins s σ H xs us Q I rv)
/-- nothing new, nothing changed -/
theorem Po.at {mg : MG} {K : PySem.W.Frag} {σ : L2.St} {H : Hp} {μ : List Addr} {d : D} {v : V} {h : IH} {Q : VK} (p : Po mg K W (Rp K) σ H μ (.val d h) Q) (rl : Rl K H μ h) (r : Rp K H μ v d) : Q v H := p v μ H .refl rl r

/-! ### ints -/
def pySub : D → D → IH → Res D
  | .int i, .int j, h => .val (.int (i - j)) h
  | _, _, _ => .stk
def pyMod : D → D → IH → Res D
  | .int i, .int j, h => if 0 < j then .val (.int (i % j)) h else .stk
  | _, _, _ => .stk
def pyDiv : D → D → IH → Res D
  | .int i, .int j, h => if 0 < j ∧ j < 1073741824 then .val (.int (i / j)) h else .stk
  | _, _, _ => .stk
def pyPow : D → D → IH → Res D
  | .int i, .int j, h => if 0 ≤ j ∧ j ≤ 1000000 ∧ i.natAbs < 2 ^ 64 then .val (.int (i ^ j.toNat)) h else .stk
  | _, _, _ => .stk
def pyNeg : D → IH → Res D
  | .int i, h => .val (.int (-i)) h
  | _, _ => .stk
def pyCmp (p : Int → Int → Bool) : D → D → IH → Res D
  | .int i, .int j, h => .val (.bl (p i j)) h
  | _, _, _ => .stk
abbrev pyLt := pyCmp fun i j => decide (i < j)
abbrev pyLe := pyCmp fun i j => decide (i ≤ j)
abbrev pyGt := pyCmp fun i j => decide (j < i)
abbrev pyGe := pyCmp fun i j => decide (j ≤ i)
theorem sd_sub : Sd2 X (rI0 fun i j => .int (i - j)) pySub := by
  intro W σ x y a b H μ h Q rl ra rb p
  cases ra <;> first | exact p.elim | skip
  cases rb <;> first | exact p.elim | skip
  exact ⟨_, _, rfl, rfl, p.at rl (.int _)⟩
theorem sd_mod : Sd2 X (rI (fun _ j => 0 < j) fun i j => .int (i % j)) pyMod := by
  intro W σ x y a b H μ h Q rl ra rb p
  cases ra <;> first | exact p.elim | skip
  cases rb <;> first | exact p.elim | skip
  simp only [pyMod] at p
  split at p
  · exact ⟨_, _, rfl, rfl, by assumption, p.at rl (.int _)⟩
  · exact p.elim
theorem sd_div : Sd2 X (rI CDiv fun i j => .int (i / j)) pyDiv := by
  intro W σ x y a b H μ h Q rl ra rb p
  cases ra <;> first | exact p.elim | skip
  cases rb <;> first | exact p.elim | skip
  simp only [pyDiv] at p
  split at p
  · exact ⟨_, _, rfl, rfl, by assumption, p.at rl (.int _)⟩
  · exact p.elim
theorem sd_pow : Sd2 X (rI CPow fun i j => .int (i ^ j.toNat)) pyPow := by
  intro W σ x y a b H μ h Q rl ra rb p
  cases ra <;> first | exact p.elim | skip
  cases rb <;> first | exact p.elim | skip
  simp only [pyPow] at p
  split at p
  · exact ⟨_, _, rfl, rfl, by assumption, p.at rl (.int _)⟩
  · exact p.elim
theorem sd_neg : Sd1 X (rU fun i => .int (-i)) pyNeg := by
  intro W σ x a H μ h Q rl ra p
  cases ra <;> first | exact p.elim | skip
  exact ⟨_, rfl, p.at rl (.int _)⟩
theorem sd_cmp {p : Int → Int → Bool} : Sd2 X (rI0 fun i j => .bl (p i j)) (pyCmp p) := by
  intro W σ x y a b H μ h Q rl ra rb p
  cases ra <;> first | exact p.elim | skip
  cases rb <;> first | exact p.elim | skip
  exact ⟨_, _, rfl, rfl, p.at rl (.bl _)⟩
theorem units_of {k : Nat} (C : Ctx X W k) : X.A.units + 64 < cLine := C.room.units
theorem units1_of {k : Nat} (C : Ctx X W k) : X.A.units + 1 < cLine := by
  have := C.room.units
  omega

/-! ### + * -/
def pyAdd : D → D → IH → Res D
  | .int i, .int j, h => .val (.int (i + j)) h
  | .str x, .str y, h => if x.length + y.length ≤ sizeLine then .val (.str (x ++ y)) h else .stk
  | .tup xs, .tup ys, h => if xs.length + ys.length ≤ sizeLine then .val (.tup (xs ++ ys)) h else .stk
  | .ref n, .ref m, h => match lstAt h n, lstAt h m with
    | some xs, some ys => if xs.length + ys.length ≤ sizeLine then .val (.ref h.length) (h ++ [.lst (xs ++ ys)]) else .stk
    | _, _ => .stk
  | _, _, _ => .stk
def rAddD (X : Cx) : R2 := fun x y H Q => (rI0 (fun i j => .int (i + j)) x y H Q ∨ (∃ i j, x = .str i ∧ y = .str j ∧ i.length + j.length ≤ sizeLine ∧ Q (.str (i ++ j)) H)) ∨ (rCatA X.K x y H Q ∨ rCat x y H Q)
theorem op_addD : OpR X (binaryOp .Add) (rAddD X) := (op_add.or op_add_str).or (op_catA.or op_cat)
theorem Rps.ne_nil {K : PySem.W.Frag} {H : Hp} {μ : List Addr} {vs : List V} {ds : List D} (r : Rps K H μ vs ds) : vs = [] ↔ ds = [] := by
  cases r <;> simp
theorem sd_add : Sd2 X (rAddD X) pyAdd := by
  intro W σ x y a b H μ h Q rl ra rb p
  cases ra with
  | int i =>
    cases rb <;> first | exact p.elim | skip
    exact .inl (.inl ⟨_, _, rfl, rfl, p.at rl (.int _)⟩)
  | str i =>
    cases rb <;> first | exact p.elim | skip
    simp only [pyAdd] at p
    split at p
    · exact .inl (.inr ⟨_, _, rfl, rfl, by assumption, p.at rl (.str _)⟩)
    · exact p.elim
  | @tup a vs ds s1 q1 =>
    cases rb <;> first | exact p.elim | skip
    rename_i b ws es s2 q2
    simp only [pyAdd] at p
    split at p
    · rename_i z
      refine .inr (.inl ⟨_, _, _, _, rfl, rfl, s1, s2, by rw [q1.length, q2.length]; exact z, fun e => ?_, fun _ e => ?_, fun _ _ pp hp => ?_⟩)
      · rw [q1.ne_nil.mp e, List.nil_append] at p
        exact p.at rl (.tup s2 q2)
      · rw [q2.ne_nil.mp e, List.append_nil] at p
        exact p.at rl (.tup s1 q1)
      · obtain ⟨x2, rl2, rp2⟩ := new_tup rl (q1.append q2) hp
        exact p _ _ _ x2 rl2 rp2
    · exact p.elim
  | ref e1 =>
    cases rb <;> first | exact p.elim | skip
    rename_i m b e2
    simp only [pyAdd] at p
    split at p
    · rename_i xs ys z1 z2
      obtain ⟨vs, h1, r1⟩ := lstAt_ok rl e1 z1
      obtain ⟨ws, h2, r2⟩ := lstAt_ok rl e2 z2
      split at p
      · rename_i z
        refine .inr (.inr ⟨_, _, vs, ws, rfl, rfl, h1, h2, by rw [r1.length, r2.length]; exact z, fun pp hp => ?_⟩)
        obtain ⟨x2, rl2, rp2⟩ := new_lst rl (r1.append r2) hp
        exact p _ _ _ x2 rl2 rp2
      · exact p.elim
    · exact p.elim
  | _ => exact p.elim
def pyMul : D → D → IH → Res D
  | .int i, .int j, h => if (-(2 ^ 64) < i ∧ i < 2 ^ 64) ∨ (-(2 ^ 64) < j ∧ j < 2 ^ 64) then .val (.int (i * j)) h else .stk
  | .ref n, .int k, h => match lstAt h n with
    | some xs => if -(2 ^ 63) ≤ k ∧ k < 2 ^ 63 ∧ xs.length * k.toNat ≤ sizeLine then .val (.ref h.length) (h ++ [.lst (List.replicate k.toNat xs).flatten]) else .stk
    | none => .stk
  | _, _, _ => .stk
theorem Rps.replicate {K : PySem.W.Frag} {H : Hp} {μ : List Addr} {vs : List V} {ds : List D} (r : Rps K H μ vs ds) : ∀ n : Nat, Rps K H μ (List.replicate n vs).flatten (List.replicate n ds).flatten
  | 0 => .nil
  | n + 1 => by
    rw [List.replicate_succ, List.replicate_succ, List.flatten_cons, List.flatten_cons]
    exact r.append (r.replicate n)
theorem op_mulD : OpR X (binaryOp .Mult) (fun x y H Q => rI CMul (fun i j => .int (i * j)) x y H Q ∨ rRep x y H Q) := op_mul.or op_rep
theorem sd_mul : Sd2 X (fun x y H Q => rI CMul (fun i j => .int (i * j)) x y H Q ∨ rRep x y H Q) pyMul := by
  intro W σ x y a b H μ h Q rl ra rb p
  cases ra with
  | int i =>
    cases rb <;> first | exact p.elim | skip
    simp only [pyMul] at p
    split at p
    · exact .inl ⟨_, _, rfl, rfl, by assumption, p.at rl (.int _)⟩
    · exact p.elim
  | ref e1 =>
    cases rb <;> first | exact p.elim | skip
    simp only [pyMul] at p
    split at p
    · rename_i xs z1
      obtain ⟨vs, h1, r1⟩ := lstAt_ok rl e1 z1
      split at p
      · rename_i z
        refine .inr ⟨_, _, vs, rfl, rfl, h1, z.1, z.2.1, by rw [r1.length]; exact z.2.2, fun pp hp => ?_⟩
        obtain ⟨x2, rl2, rp2⟩ := new_lst rl (r1.replicate _) hp
        exact p _ _ _ x2 rl2 rp2
      · exact p.elim
    · exact p.elim
  | _ => exact p.elim

/-! ### data as one tree -/
def mapO {α β : Type} (f : α → Option β) : List α → Option (List β)
  | [] => some []
  | d :: ds => match f d, mapO f ds with
    | some a, some b => some (a :: b)
    | _, _ => none
def toPy : Nat → IH → D → Option PyData
  | 0, _, _ => none
  | n + 1, h, d => match d with
    | .non => some .none
    | .bl b => some (.bool b)
    | .int i => some (.int i)
    | .str x => some (.str x)
    | .tup ds => (mapO (toPy n h) ds).map .tuple
    | .fl ds => (mapO (toPy n h) ds).map .list
    | .ref k => match lstAt h k with
      | some ds => (mapO (toPy n h) ds).map .list
      | none => none
    | .op _ => none
theorem toPys_ok {K : PySem.W.Frag} {H : Hp} {μ : List Addr} {f : D → Option PyData} (hf : ∀ v d p, Rp K H μ v d → f d = some p → Dp K H v p) : ∀ {vs : List V} {ds : List D} {ps : List PyData}, Rps K H μ vs ds → mapO f ds = some ps → DpAll K H vs ps
  | _, _, _, .nil, e => by
    cases e
    exact .nil
  | _, _, _, .cons a b, e => by
    unfold mapO at e
    split at e
    · rename_i p ps z1 z2
      cases e
      exact .cons (hf _ _ _ a z1) (toPys_ok hf b z2)
    · cases e
theorem toPy_ok {K : PySem.W.Frag} {H : Hp} {μ : List Addr} {h : IH} (rl : Rl K H μ h) : ∀ (n : Nat) (v : V) (d : D) (p : PyData), Rp K H μ v d → toPy n h d = some p → Dp K H v p
  | 0, _, _, _, _, e => by cases e
  | n + 1, v, d, p, r, e => by
    cases r with
    | non =>
      cases e
      exact .non
    | bl b =>
      cases e
      exact .bl b
    | int i =>
      cases e
      exact .int i
    | str x =>
      cases e
      exact .str x
    | tup s q =>
      simp only [toPy] at e
      obtain ⟨ps, z, e⟩ := Option.map_eq_some_iff.mp e
      subst e
      exact .tup s (toPys_ok (toPy_ok rl n) q z)
    | fl s q =>
      simp only [toPy] at e
      obtain ⟨ps, z, e⟩ := Option.map_eq_some_iff.mp e
      subst e
      exact .lst s.sq (toPys_ok (toPy_ok rl n) q z)
    | ref e1 =>
      simp only [toPy] at e
      split at e
      · rename_i ds z1
        obtain ⟨ps, z, e⟩ := Option.map_eq_some_iff.mp e
        subst e
        obtain ⟨vs, h1, q⟩ := lstAt_ok rl e1 z1
        exact .lst (SqL.of h1) (toPys_ok (toPy_ok rl n) q z)
      · cases e
    | op v => cases e
def eqT (h : IH) (a b : D) : Option Bool := match toPy 12 h a, toPy 12 h b with
  | some p, some q => if (SeqAt.shaped p && SeqAt.shaped q) = true then some (PyData.eqv p q) else none
  | _, _ => none
def eqO (h : IH) (a b : D) : Option Bool := match a, b with
  | .int i, .int j => some (decide (i = j))
  | .str x, .str y => some (decide (x = y))
  | a, b => eqT h a b
def pyEq (a b : D) (h : IH) : Res D := match eqO h a b with
  | some k => .val (.bl k) h
  | none => .stk
def pyNe (a b : D) (h : IH) : Res D := match eqO h a b with
  | some k => .val (.bl !k) h
  | none => .stk
theorem eqT_ok {K : PySem.W.Frag} {H : Hp} {μ : List Addr} {h : IH} {x y : V} {a b : D} {k : Bool} (rl : Rl K H μ h) (ra : Rp K H μ x a) (rb : Rp K H μ y b) (e : eqT h a b = some k) : ∃ d e, Dp K H x d ∧ Dp K H y e ∧ SeqAt.shaped d = true ∧ SeqAt.shaped e = true ∧ PyData.eqv d e = k := by
  unfold eqT at e
  split at e
  · rename_i p q z1 z2
    split at e
    · rename_i z
      rw [Bool.and_eq_true] at z
      cases e
      exact ⟨p, q, toPy_ok rl 12 _ _ _ ra z1, toPy_ok rl 12 _ _ _ rb z2, z.1, z.2, rfl⟩
    · cases e
  · cases e
theorem eqO_ok {K : PySem.W.Frag} {H : Hp} {μ : List Addr} {h : IH} {x y : V} {a b : D} {k : Bool} (rl : Rl K H μ h) (ra : Rp K H μ x a) (rb : Rp K H μ y b) (e : eqO h a b = some k) : (scal x y = true ∧ decide (x = y) = k) ∨ ∃ d e, Dp K H x d ∧ Dp K H y e ∧ SeqAt.shaped d = true ∧ SeqAt.shaped e = true ∧ PyData.eqv d e = k := by
  unfold eqO at e
  split at e
  · cases e
    cases ra
    cases rb
    refine .inl ⟨rfl, ?_⟩
    simp
  · cases e
    cases ra
    cases rb
    refine .inl ⟨rfl, ?_⟩
    simp
  · exact .inr (eqT_ok rl ra rb e)
def rEqA (X : Cx) : R2 := fun x y H Q => rEq x y H Q ∨ rEqD X.K x y H Q
def rNeA (X : Cx) : R2 := fun x y H Q => rNe x y H Q ∨ rNeD X.K x y H Q
theorem op_eqA (hu : X.A.units + 64 < cLine) : OpR X (compareOp .Eq) (rEqA X) := OpR.or op_eq (op_eqD hu)
theorem op_neA (hu : X.A.units + 64 < cLine) : OpR X (compareOp .NotEq) (rNeA X) := OpR.or op_ne (op_neD hu)
theorem sd_eq : Sd2 X (rEqA X) pyEq := by
  intro W σ x y a b H μ h Q rl ra rb p
  unfold pyEq at p
  split at p
  · rename_i k z
    rcases eqO_ok rl ra rb z with ⟨h1, h2⟩ | ⟨d, e, h1, h2, h3, h4, rfl⟩
    · subst h2
      exact .inl ⟨h1, p.at rl (.bl _)⟩
    · exact .inr ⟨d, e, h1, h2, h3, h4, p.at rl (.bl _)⟩
  · exact p.elim
theorem sd_ne : Sd2 X (rNeA X) pyNe := by
  intro W σ x y a b H μ h Q rl ra rb p
  unfold pyNe at p
  split at p
  · rename_i k z
    rcases eqO_ok rl ra rb z with ⟨h1, h2⟩ | ⟨d, e, h1, h2, h3, h4, rfl⟩
    · subst h2
      exact .inl ⟨h1, p.at rl (.bl _)⟩
    · exact .inr ⟨d, e, h1, h2, h3, h4, p.at rl (.bl _)⟩
  · exact p.elim
def isNon : D → Option Bool
  | .non => some true
  | .op v => none
  | _ => some false
def pyIs : D → D → IH → Res D := fun a b h => match isNon a, b with
  | some k, .non => .val (.bl k) h
  | _, _ => .stk
def pyIsNot : D → D → IH → Res D := fun a b h => match isNon a, b with
  | some k, .non => .val (.bl !k) h
  | _, _ => .stk
theorem isNon_ok {K : PySem.W.Frag} {H : Hp} {μ : List Addr} {x : V} {a : D} {k : Bool} (r : Rp K H μ x a) (e : isNon a = some k) : decide (x = .non) = k := by
  cases r <;> cases e <;> rfl
theorem sd_is : Sd2 X (fun x y H Q => y = V.non ∧ Q (V.bl (decide (x = V.non))) H) pyIs := by
  intro W σ x y a b H μ h Q rl ra rb p
  unfold pyIs at p
  split at p
  · rename_i k z
    cases rb
    rw [isNon_ok ra z]
    exact ⟨rfl, p.at rl (.bl _)⟩
  · exact p.elim
theorem sd_isNot : Sd2 X (fun x y H Q => y = V.non ∧ Q (V.bl (!decide (x = V.non))) H) pyIsNot := by
  intro W σ x y a b H μ h Q rl ra rb p
  unfold pyIsNot at p
  split at p
  · rename_i k z
    cases rb
    rw [isNon_ok ra z]
    exact ⟨rfl, p.at rl (.bl _)⟩
  · exact p.elim

/-! ### built-ins of one value -/
def tyD (h : IH) : D → Option String
  | .non => some "NoneType"
  | .bl _ => some "bool"
  | .int _ => some "int"
  | .str _ => some "str"
  | .tup _ => some "tuple"
  | .fl _ => some "list"
  | .ref n => match h[n]? with
    | some (.lst _) => some "list"
    | some (.dic _) => some "dict"
    | none => none
  | .op _ => none
theorem tyD_ok {K : PySem.W.Frag} {H : Hp} {μ : List Addr} {h : IH} {v : V} {d : D} {t : String} (rl : Rl K H μ h) (r : Rp K H μ v d) (e : tyD h d = some t) : TyX K H v (.type t) := by
  cases r with
  | non =>
    cases e
    exact .base .non
  | bl b =>
    cases e
    exact .base (.bl b)
  | int i =>
    cases e
    exact .base (.int i)
  | str x =>
    cases e
    exact .base (.str x)
  | tup s q =>
    cases e
    rcases s with (s | ⟨o, s⟩) | ⟨o, its, n, s1, s2, _⟩
    · exact .base (.tup s)
    · exact .fTuple s
    · exact .kTuple s1 s2
  | fl s q =>
    cases e
    rcases s with ⟨o, s⟩ | ⟨o, its, n, s1, s2, _⟩
    · exact .base (.frz s)
    · exact .kList s1 s2
  | ref e1 =>
    obtain ⟨o, ho, q⟩ := rl.at e1
    simp only [tyD, ho] at e
    cases o with
    | lst ds =>
      cases e
      obtain ⟨vs, h1, _⟩ := q
      exact .base (.lst h1)
    | dic ds =>
      cases e
      obtain ⟨vs, h1, _⟩ := q
      exact .base (.dK h1)
  | op v => cases e
def isiB (t u : String) : Bool := t == u || (t == "bool" && u == "int")
def knownT (t : String) : Bool := t == "NoneType" || t == "bool" || t == "int" || t == "str" || t == "tuple" || t == "list" || t == "dict"
theorem isiB_ok {t u : String} (h1 : knownT t = true) (h2 : knownT u = true) (h3 : u ≠ "NoneType") : kitB t u = some (isiB t u) := by
  simp only [knownT, Bool.or_eq_true, beq_iff_eq] at h1 h2
  rcases h1 with (((((rfl | rfl) | rfl) | rfl) | rfl) | rfl) | rfl <;> rcases h2 with (((((rfl | rfl) | rfl) | rfl) | rfl) | rfl) | rfl <;> first | exact absurd rfl h3 | decide +kernel
def pyIsi : List D → IH → Res D := fun as h => match as with
  | [x, .op (.ty u)] => match tyD h x with
    | some t => if (knownT t && knownT u && u != "NoneType") = true then .val (.bl (isiB t u)) h else .stk
    | none => .stk
  | _ => .stk
theorem sd_isi : SdC X (rIsi X.K) pyIsi := by
  intro W σ xs as H μ h Q rl rs p
  unfold pyIsi at p
  split at p
  · rename_i x u
    split at p
    · rename_i t z
      split at p
      · rename_i zz
        simp only [Bool.and_eq_true, bne_iff_ne, ne_eq] at zz
        cases rs with
        | cons r1 q1 =>
          cases q1 with
          | cons r2 q2 =>
            cases q2
            cases r2
            exact ⟨_, _, _, _, _, rfl, .ty u, tyD_ok rl r1 z, kit_ty (isiB_ok zz.1.1 zz.1.2 zz.2), p.at rl (.bl _)⟩
      · exact p.elim
    · exact p.elim
  · exact p.elim
def lenD (h : IH) : D → Option Nat
  | .str x => if x.length ≤ sizeLine then some x.length else none
  | .tup ds => some ds.length
  | .fl ds => some ds.length
  | .ref n => (lstAt h n).map List.length
  | _ => none
def pyLen : List D → IH → Res D := fun as h => match as with
  | [x] => match lenD h x with
    | some n => .val (.int n) h
    | none => .stk
  | _ => .stk
theorem lenD_ok {K : PySem.W.Frag} {H : Hp} {μ : List Addr} {h : IH} {v : V} {d : D} {n : Nat} (rl : Rl K H μ h) (r : Rp K H μ v d) (e : lenD h d = some n) : LenV K v H n := by
  cases r with
  | str x =>
    simp only [lenD] at e
    split at e
    · cases e
      exact ⟨by assumption, rfl⟩
    · cases e
  | tup s q =>
    cases e
    exact .inr ⟨_, s, q.length.symm⟩
  | fl s q =>
    cases e
    exact .inl ⟨_, s.sq, q.length.symm⟩
  | ref e1 =>
    obtain ⟨ds, z, rfl⟩ := Option.map_eq_some_iff.mp e
    obtain ⟨vs, h1, q⟩ := lstAt_ok rl e1 z
    exact .inl ⟨vs, SqL.of h1, q.length.symm⟩
  | _ => cases e
theorem sd_len : SdC X (fun xs H Q => ∃ x n, xs = [x] ∧ LenV X.K x H n ∧ Q (V.int (n : Nat)) H) pyLen := by
  intro W σ xs as H μ h Q rl rs p
  unfold pyLen at p
  split at p
  · split at p
    · rename_i n z
      cases rs with
      | cons r1 q1 =>
        cases q1
        exact ⟨_, n, rfl, lenD_ok rl r1 z, p.at rl (.int _)⟩
    · exact p.elim
  · exact p.elim
def pyInt : List D → IH → Res D := fun as h => match as with
  | [.int i] => .val (.int i) h
  | [.bl k] => .val (.int (if k = true then 1 else 0)) h
  | _ => .stk
theorem sd_int : SdC X (fun xs H Q => (∃ i, xs = [V.int i] ∧ Q (V.int i) H) ∨ ∃ k, xs = [V.bl k] ∧ Q (V.int (if k = true then 1 else 0)) H) pyInt := by
  intro W σ xs as H μ h Q rl rs p
  unfold pyInt at p
  split at p
  · cases rs with
    | cons r1 q1 =>
      cases q1
      cases r1
      exact .inl ⟨_, rfl, p.at rl (.int _)⟩
  · cases rs with
    | cons r1 q1 =>
      cases q1
      cases r1
      exact .inr ⟨_, rfl, p.at rl (.int _)⟩
  · exact p.elim
/-- a list or a tuple, read as a whole -/
def seqD (h : IH) : D → Option (List D)
  | .tup ds => some ds
  | d => seqL h d
theorem seqD_ok {K : PySem.W.Frag} {H : Hp} {μ : List Addr} {h : IH} {v : V} {d : D} {ds : List D} (rl : Rl K H μ h) (r : Rp K H μ v d) (e : seqD h d = some ds) : ∃ a vs, v = .ref a ∧ (SqL K H a vs ∨ SqT K H a vs) ∧ Rps K H μ vs ds := by
  cases r with
  | tup s q =>
    cases e
    exact ⟨_, _, rfl, .inr s, q⟩
  | fl s q =>
    cases e
    exact ⟨_, _, rfl, .inl s.sq, q⟩
  | ref e1 =>
    obtain ⟨vs, h1, q⟩ := lstAt_ok rl e1 e
    exact ⟨_, vs, rfl, .inl (SqL.of h1), q⟩
  | _ => cases e
def pyTuple : List D → IH → Res D := fun as h => match as with
  | [.tup ds] => .val (.tup ds) h
  | [x] => match seqL h x with
    | some ds => .val (.tup ds) h
    | none => .stk
  | _ => .stk
theorem sd_tuple : SdC X (fun xs H Q => ∃ p ys, xs = [V.ref p] ∧ ((SqL X.K H p ys ∧ ∀ (l : Addr), H l = none → Q (V.ref l) (upd H l (HO.tup ys))) ∨ SqT X.K H p ys ∧ Q (V.ref p) H)) pyTuple := by
  intro W σ xs as H μ h Q rl rs p
  unfold pyTuple at p
  split at p
  · cases rs with
    | cons r1 q1 =>
      cases q1
      cases r1 with
      | tup s q => exact ⟨_, _, rfl, .inr ⟨s, p.at rl (.tup s q)⟩⟩
  · split at p
    · rename_i z
      cases rs with
      | cons r1 q1 =>
        cases q1
        obtain ⟨a, vs, rfl, s, q⟩ := seqL_ok rl r1 z
        refine ⟨a, vs, rfl, .inl ⟨s, fun l hl => ?_⟩⟩
        obtain ⟨x2, rl2, rp2⟩ := new_tup rl q hl
        exact p _ _ _ x2 rl2 rp2
    · exact p.elim
  · exact p.elim
def pyList : List D → IH → Res D := fun as h => match as with
  | [x] => match seqD h x with
    | some ds => .val (.ref h.length) (h ++ [.lst ds])
    | none => .stk
  | _ => .stk
theorem sd_list : SdC X (fun xs H Q => ∃ p ys, xs = [V.ref p] ∧ (SqL X.K H p ys ∨ SqT X.K H p ys) ∧ ∀ (l : Addr), H l = none → Q (V.ref l) (upd H l (HO.lst ys))) pyList := by
  intro W σ xs as H μ h Q rl rs p
  unfold pyList at p
  split at p
  · split at p
    · rename_i z
      cases rs with
      | cons r1 q1 =>
        cases q1
        obtain ⟨a, vs, rfl, s, q⟩ := seqD_ok rl r1 z
        refine ⟨a, vs, rfl, s, fun l hl => ?_⟩
        obtain ⟨x2, rl2, rp2⟩ := new_lst rl q hl
        exact p _ _ _ x2 rl2 rp2
    · exact p.elim
  · exact p.elim
/-- all ints -/
def intsD : List D → Option (List Int) := mapO fun d => match d with
  | .int i => some i
  | _ => none
def boolsD : List D → Option (List Bool) := mapO fun d => match d with
  | .bl i => some i
  | _ => none
theorem intsD_ok {K : PySem.W.Frag} {H : Hp} {μ : List Addr} : ∀ {vs : List V} {ds : List D} {ns : List Int}, Rps K H μ vs ds → intsD ds = some ns → vs = ns.map V.int ∧ ds = ns.map D.int
  | _, _, _, .nil, e => by
    cases e
    exact ⟨rfl, rfl⟩
  | _, _, _, .cons (d := d) a b, e => by
    unfold intsD mapO at e
    split at e
    · rename_i p ps z1 z2
      cases e
      cases d <;> first | cases z1 | skip
      cases a
      obtain ⟨e1, e2⟩ := intsD_ok b z2
      rw [e1, e2]
      exact ⟨rfl, rfl⟩
    · cases e
theorem boolsD_ok {K : PySem.W.Frag} {H : Hp} {μ : List Addr} : ∀ {vs : List V} {ds : List D} {ns : List Bool}, Rps K H μ vs ds → boolsD ds = some ns → vs = ns.map V.bl ∧ ds = ns.map D.bl
  | _, _, _, .nil, e => by
    cases e
    exact ⟨rfl, rfl⟩
  | _, _, _, .cons (d := d) a b, e => by
    unfold boolsD mapO at e
    split at e
    · rename_i p ps z1 z2
      cases e
      cases d <;> first | cases z1 | skip
      cases a
      obtain ⟨e1, e2⟩ := boolsD_ok b z2
      rw [e1, e2]
      exact ⟨rfl, rfl⟩
    · cases e
end
end DD
set_option Elab.async false
set_option linter.all false
set_option maxRecDepth 100000
/-! enumerate of a tuple, of a text -/
namespace DD
open PySem PySem.Spec L2 PyProof.Rows

theorem meets_en1 {v : Value} {o : Obj} {G : Heap → Prop} (B : Begins v o G) :
    Meets (Builtin.«enumerate.__new__» ⟨[.type "enumerate", v], []⟩) (fun _ R s => G s.heap ∧
      R (.ok (.ret (.ref (s.heap.push o).objs.size))) { s with heap := (s.heap.push o).push { cls := .type "enumerate", data := .fields #[.none, .bool false, .ref s.heap.objs.size, rawInt 0, .none, .none] } }) :=
  .of_wp fun P w A R s h => by
    obtain ⟨hp, g, d, tk, os⟩ := s
    obtain ⟨h1, h⟩ := h
    have hsub := sub_enumerate
    have q1 : ∀ {A' : Around} {E : Value → Shared → Prop} {Q : Value → Shared → Prop}, Q (.ref hp.objs.size) ⟨hp.push o, g, d, tk, os⟩ → wpAny (model P w) A' (pyIter v) Q E ⟨hp, g, d, tk, os⟩ :=
      fun q => B.iter P w _ _ ⟨hp, g, d, tk, os⟩ _ h1 q
    wp_walk using q1
    refine wpAny_stack_any fun st => wpAny_pure ?_
    split
    · rename_i c _ _ _ _ _
      cases (c == Value.type "enumerate") <;> (wp_walk using q1; exact ⟨_, rfl, h⟩)
    · wp_walk using q1
      exact ⟨_, rfl, h⟩
theorem en1 {P : Program} {w : World} {A : Around} {E : Value → Shared → Prop} {s : Shared} {v : Value} {o : Obj} {G : Heap → Prop} {Q : Value → Shared → Prop} (B : Begins v o G) (h1 : G s.heap)
    (h : ∀ h', IsEnum h' (s.heap.objs.size + 1) s.heap.objs.size 0 .none → h'.get? s.heap.objs.size = some o → h'.objs.size = s.heap.objs.size + 2 → (∀ b u, s.heap.get? b = some u → h'.get? b = some u) → Q (.ref (s.heap.objs.size + 1)) { s with heap := h' }) :
    wpAny (model P w) A (call (.type "enumerate") [v]) Q E s := by
  refine callType_new F.called_enumerate (by decide) (F.typeCall_enumerate_1 _) (F.newCall_enumerate_1 _) (fun ob => F.args_object_init_2 ob _) F.entry_enumerate_new (meets_en1 B) ⟨h1, ?_⟩
  have hz : (s.heap.push o).objs.size = s.heap.objs.size + 1 := Heap.size_push ..
  show _ ∧ _
  rw [hz]
  have e1 : IsEnum ((s.heap.push o).push { cls := .type "enumerate", data := .fields #[.none, .bool false, .ref s.heap.objs.size, rawInt 0, .none, .none] }) (s.heap.objs.size + 1) s.heap.objs.size 0 .none := by
    have z := Heap.get?_push_size (s.heap.push o) (o := { cls := .type "enumerate", data := .fields #[.none, .bool false, .ref s.heap.objs.size, rawInt 0, .none, .none] }) rfl
    rw [hz] at z
    exact z
  exact ⟨⟨_, e1, rfl⟩, h _ e1 (Heap.get?_push_of_some _ (Heap.get?_push_size _ B.free)) (by rw [Heap.size_push, hz]) fun b u x => Heap.get?_push_of_some _ (Heap.get?_push_of_some _ x)⟩
/-- the tuple at a, each item in a new pair -/
def IenT (K : PySem.W.Frag) (a : Addr) : It :=
  ⟨fun i H => ∃ (xs : List V) (x : V), SqT K H a xs ∧ xs[i]? = some x, fun i H v H' => ∃ T x, v = .ref T ∧ H T = none ∧ H' = upd H T (.tup [.int (i : Nat), x]) ∧ ∀ xs, SqT K H a xs → xs[i]? = some x, fun i H => ∃ xs : List V, SqT K H a xs ∧ xs.length = i⟩
/-- a text -/
def IenS (z : Str) : It :=
  ⟨fun i _ => i < z.cps.size, fun i H v H' => ∃ T c, v = .ref T ∧ H T = none ∧ H' = upd H T (.tup [.int (i : Nat), .str ⟨#[c]⟩]) ∧ z.cps[i]? = some c, fun i _ => i = z.cps.size⟩
section
variable {P : Program} {w : World} {K : PySem.W.Frag} {elts : List Expr} {kk : Nat} {tpos : Pos}
theorem turn_enT (a e it : Addr) (hai : a ≠ it) (hae : a ≠ e) :
    Turn P w K (.Tuple elts kk tpos) (IenT K a) [e, it] e (fun i h => (∃ old, IsEnum h e it ((i : Nat) : Int) old) ∧ h.IsTupleIter it a i ∧ e ≠ it) where
  mem := by simp
  obj := fun i h st b hb => by
    obtain ⟨⟨old, he⟩, ⟨o, ho, hc, hd⟩, _⟩ := st
    have e1 : b = e ∨ b = it := by simpa using hb
    rcases e1 with z | z
    · rw [z]
      exact ⟨_, he, fun v q => nomatch q⟩
    · rw [z]
      exact ⟨o, ho, fun v q => by
        rw [hd] at q
        cases q⟩
  keep := fun i h h' st k => let ⟨⟨old, he⟩, hi, hne⟩ := st; ⟨⟨old, k e (by simp) _ he⟩, hi.at fun o q => k it (by simp) o q, hne⟩
  item := by
    intro X hP hw hK hc i pins s σ H E I hf st hg
    subst hP hw hK
    obtain ⟨⟨old, he⟩, hit, hne⟩ := st
    obtain ⟨xs, x, hq, hx⟩ := hg
    obtain ⟨its, rv, pt, hz⟩ := I.tuple hq
    obtain ⟨u, hu, ru⟩ := rv.get hx
    have hel : e < s.heap.objs.size := Heap.lt_size he
    have hil : it < s.heap.objs.size := by
      obtain ⟨_, q, _⟩ := hit
      exact Heap.lt_size q
    have hul : i < its.length := (List.getElem?_eq_some_iff.mp hu).1
    refine wpAny_pyNext_enum_itemD (i := i) (Draws.tuple (A := X.A.in1) (I.ok.hd hc) it a hai its.toArray) he ⟨hit, pt⟩ (by simpa using hul) hne (by simp [hne, Ne.symm hae]) fun y h' tk hP ho hst hT hsz hk => ?_
    have ey : y = u := by
      have z : its[i]? = some y := by simpa using hP
      rw [hu] at z
      exact (Option.some.inj z).symm
    subst ey
    refine ⟨_, rfl, wpAny_letOwnedTupleGo_enum (s := { s with heap := h', toks := tk + 1 }) ho fun h'' he' sb => ?_⟩
    have hT2 : h''.get? s.heap.objs.size = some { cls := .type "tuple", data := .seq #[.int i tk, y] } := (sb.2 _ (Nat.ne_of_gt hel)).trans hT
    have new : ObjOk X.prog X.w (upd H s.heap.objs.size (.tup [.int (i : Nat), x])) h'' s.heap.objs.size (.tup [.int (i : Nat), x]) :=
      ⟨by show 2 ≤ sizeLine; decide, [.int i tk, y], .cons ⟨_, rfl⟩ (.cons ru .nil), ⟨_, hT2, rfl, _, rfl⟩⟩
    have I1 : Inv X pins σ (upd H s.heap.objs.size (.tup [.int (i : Nat), x])) { s with heap := h'', toks := tk + 1 } :=
      I.turnedNew (ch := [e, it]) (fun b ob hb q => (sb.2 b (fun z => hb (by simp [z]))).trans (hk b ob (fun z => hb (by simp [z])) (fun z => hb (by simp [z])) q)) hf (Nat.le_refl _) new
    refine ⟨.ref s.heap.objs.size, _, I1, rfl, ⟨_, x, rfl, I.hok.fresh (Nat.le_refl _), rfl, fun ys hy => by rw [I.tuple_inj hy hq]; exact hx⟩, ⟨⟨y, ?_⟩, hst.1.at fun o q => (sb.2 it (Ne.symm hne)).trans q, hne⟩, fun b hb => ?_⟩
    · have e1 : ((i + 1 : Nat) : Int) = (i : Int) + 1 := by omega
      rw [e1]
      exact he'
    · have hb' : b < s.heap.objs.size := by
        have e' : b = e ∨ b = it := by simpa using hb
        rcases e' with z | z
        · rw [z]
          exact hel
        · rw [z]
          exact hil
      rw [upd_ne (Nat.ne_of_lt hb')]
      exact (hf b hb).1
  done := by
    intro X hP hw hK hc i pins s σ H E I hf st hg
    subst hP hw hK
    obtain ⟨⟨old, he⟩, hit, hne⟩ := st
    obtain ⟨xs, hq, hx⟩ := hg
    obtain ⟨its, rv, pt, hz⟩ := I.tuple hq
    obtain ⟨f0, f1, f2, f3, f4, f5⟩ := hf it (by simp)
    have hl : i = its.toArray.size := by
      rw [List.size_toArray, ← rv.length]
      exact hx.symm
    exact wpAny_pyNext_enum_endD (Draws.tuple (A := X.A.in1) (I.ok.hd hc) it a hai its.toArray) he ⟨by rw [← hl]; exact hit, pt⟩ fun h' eb => ⟨rfl, I.turned (t' := s.toks) (fun b o hb q => eb b o hb q) f0 f1 f3 f4 f5⟩
  self := fun A i s Q E st h => let ⟨⟨_, he⟩, _⟩ := st; wpAny_pyIter_enum he h
theorem turn_enS (x : Str) (t : Tok) (e it : Addr) :
    Turn P w K (.Tuple elts kk tpos) (IenS x) [e, it] e (fun i h => (∃ old, IsEnum h e it ((i : Nat) : Int) old) ∧ h.IsStrIter it (strIterType x) x t i ∧ e ≠ it) where
  mem := by simp
  obj := fun i h st b hb => by
    obtain ⟨⟨old, he⟩, ⟨o, ho, hc, hd⟩, _⟩ := st
    have e1 : b = e ∨ b = it := by simpa using hb
    rcases e1 with z | z
    · rw [z]
      exact ⟨_, he, fun v q => nomatch q⟩
    · rw [z]
      exact ⟨o, ho, fun v q => by
        rw [hd] at q
        cases q⟩
  keep := fun i h h' st k => let ⟨⟨old, he⟩, hi, hne⟩ := st; ⟨⟨old, k e (by simp) _ he⟩, (let ⟨o, q1, q2⟩ := hi; ⟨o, k it (by simp) o q1, q2⟩), hne⟩
  item := by
    intro X hP hw hK hc i pins s σ H E I hf st hg
    subst hP hw hK
    obtain ⟨⟨old, he⟩, hit, hne⟩ := st
    have hlt : i < x.cps.size := hg
    have hel : e < s.heap.objs.size := Heap.lt_size he
    have hil : it < s.heap.objs.size := by
      obtain ⟨_, q, _⟩ := hit
      exact Heap.lt_size q
    refine wpAny_pyNext_enum_itemD (i := i) (Draws.text (A := X.A.in1) (I.ok.hd hc) it x t) he hit hlt hne (by simp [hne]) fun y h' tk hP ho hst hT hsz hk => ?_
    obtain ⟨c, u, hc1, rfl⟩ := hP
    refine ⟨_, rfl, wpAny_letOwnedTupleGo_enum (s := { s with heap := h', toks := tk + 1 }) ho fun h'' he' sb => ?_⟩
    have hT2 : h''.get? s.heap.objs.size = some { cls := .type "tuple", data := .seq #[.int i tk, .str ⟨#[c]⟩ u] } := (sb.2 _ (Nat.ne_of_gt hel)).trans hT
    have new : ObjOk X.prog X.w (upd H s.heap.objs.size (.tup [.int (i : Nat), .str ⟨#[c]⟩])) h'' s.heap.objs.size (.tup [.int (i : Nat), .str ⟨#[c]⟩]) :=
      ⟨by show 2 ≤ sizeLine; decide, [.int i tk, .str ⟨#[c]⟩ u], .cons ⟨_, rfl⟩ (.cons ⟨_, rfl⟩ .nil), ⟨_, hT2, rfl, _, rfl⟩⟩
    have I1 : Inv X pins σ (upd H s.heap.objs.size (.tup [.int (i : Nat), .str ⟨#[c]⟩])) { s with heap := h'', toks := tk + 1 } :=
      I.turnedNew (ch := [e, it]) (fun b ob hb q => (sb.2 b (fun z => hb (by simp [z]))).trans (hk b ob (fun z => hb (by simp [z])) (fun z => hb (by simp [z])) q)) hf (Nat.le_refl _) new
    refine ⟨.ref s.heap.objs.size, _, I1, rfl, ⟨_, c, rfl, I.hok.fresh (Nat.le_refl _), rfl, hc1⟩, ⟨⟨.str ⟨#[c]⟩ u, ?_⟩, (let ⟨o, q1, q2⟩ := hst; ⟨o, (sb.2 it (Ne.symm hne)).trans q1, q2⟩), hne⟩, fun b hb => ?_⟩
    · have e1 : ((i + 1 : Nat) : Int) = (i : Int) + 1 := by omega
      rw [e1]
      exact he'
    · have hb' : b < s.heap.objs.size := by
        have e' : b = e ∨ b = it := by simpa using hb
        rcases e' with z | z
        · rw [z]
          exact hel
        · rw [z]
          exact hil
      rw [upd_ne (Nat.ne_of_lt hb')]
      exact (hf b hb).1
  done := by
    intro X hP hw hK hc i pins s σ H E I hf st hg
    subst hP hw hK
    obtain ⟨⟨old, he⟩, hit, hne⟩ := st
    have hx : i = x.cps.size := hg
    subst hx
    obtain ⟨f0, f1, f2, f3, f4, f5⟩ := hf it (by simp)
    exact wpAny_pyNext_enum_endD (Draws.text (A := X.A.in1) (I.ok.hd hc) it x t) he hit fun h' eb => ⟨rfl, I.turned (t' := s.toks) (fun b o hb q => eb b o hb q) f0 f1 f3 f4 f5⟩
  self := fun A i s Q E st h => let ⟨⟨_, he⟩, _⟩ := st; wpAny_pyIter_enum he h
end
def iEnT (K : PySem.W.Frag) (ta : TA) : TI := fun σ H R => ta σ H fun vs H1 => ∃ a xs, vs = [.ref a] ∧ SqT K H1 a xs ∧ R (IenT K a) H1
def iEnS (ta : TA) : TI := fun σ H R => ta σ H fun vs H1 => ∃ z, vs = [.str z] ∧ R (IenS z) H1
section
variable {X : Cx} {e : Expr} {ta : TA} {p pos tpos : Pos} {elts : List Expr} {kk : Nat}
theorem pi_enT (hg : Gl X "enumerate") (hm : X.mg "enumerate" = none) (ha : PA X [e] ta) (hs : starEach [e] X.env = [(false, eval e X.env)] := by rfl) : PI X (.Tuple elts kk tpos) (.Call (.Name "enumerate" p) [e] [] pos) (iEnT X.K ta) := by
  refine ⟨fun pins s σ H R I h => ?_⟩
  refine Call_ (ld_blt I hg hm boot_enumerate (PyProof.Rows.callWith_type1 (thn (ha.run pos pins s σ H _ I h) fun us s1 ⟨vs, H1, I1, r1, q1⟩ => ?_) hs rfl))
  obtain ⟨a, xs, ex, hq, q⟩ := q1
  subst ex
  cases r1 with
  | cons r rr =>
    cases rr
    cases r
    obtain ⟨its, rv, pt, hz⟩ := I1.tuple hq
    have hal : a < s1.heap.objs.size := by
      obtain ⟨o, ho, _⟩ := pt
      exact Heap.lt_size ho
    refine en1 (begins_tuple a its.toArray) pt fun h' he hit hsz hk => wpAny_pyIter_enum he ?_
    have I2 : Inv X pins σ H1 { s1 with heap := h' } := I1.kept (t' := s1.toks) hk
    refine ⟨s1.heap.objs.size + 1, [s1.heap.objs.size + 1, s1.heap.objs.size], _, _, H1, rfl, I2, turn_enT a (s1.heap.objs.size + 1) s1.heap.objs.size (Nat.ne_of_lt hal) (Nat.ne_of_lt (Nat.lt_succ_of_lt hal)), ⟨⟨.none, he⟩, ⟨_, hit, rfl, rfl⟩, Nat.succ_ne_self _⟩, fun b hb => ?_, q⟩
    have e' : b = s1.heap.objs.size + 1 ∨ b = s1.heap.objs.size := by simpa using hb
    have hle : s1.heap.objs.size ≤ b := by
      rcases e' with z | z
      · rw [z]
        exact Nat.le_succ _
      · rw [z]
        exact Nat.le_refl _
    exact I1.fpOk hle (I1.hok.fresh hle)
theorem pi_enS (hg : Gl X "enumerate") (hm : X.mg "enumerate" = none) (ha : PA X [e] ta) (hs : starEach [e] X.env = [(false, eval e X.env)] := by rfl) : PI X (.Tuple elts kk tpos) (.Call (.Name "enumerate" p) [e] [] pos) (iEnS ta) := by
  refine ⟨fun pins s σ H R I h => ?_⟩
  refine Call_ (ld_blt I hg hm boot_enumerate (PyProof.Rows.callWith_type1 (thn (ha.run pos pins s σ H _ I h) fun us s1 ⟨vs, H1, I1, r1, q1⟩ => ?_) hs rfl))
  obtain ⟨z, ex, q⟩ := q1
  subst ex
  cases r1 with
  | cons r rr =>
    cases rr
    obtain ⟨t, rfl⟩ := r
    refine en1 (begins_text z t) trivial fun h' he hit hsz hk => wpAny_pyIter_enum he ?_
    have I2 : Inv X pins σ H1 { s1 with heap := h' } := I1.kept (t' := s1.toks) hk
    refine ⟨s1.heap.objs.size + 1, [s1.heap.objs.size + 1, s1.heap.objs.size], _, _, H1, rfl, I2, turn_enS z t (s1.heap.objs.size + 1) s1.heap.objs.size, ⟨⟨.none, he⟩, ⟨_, hit, rfl, rfl⟩, Nat.succ_ne_self _⟩, fun b hb => ?_, q⟩
    have e' : b = s1.heap.objs.size + 1 ∨ b = s1.heap.objs.size := by simpa using hb
    have hle : s1.heap.objs.size ≤ b := by
      rcases e' with z | z
      · rw [z]
        exact Nat.le_succ _
      · rw [z]
        exact Nat.le_refl _
    exact I1.fpOk hle (I1.hok.fresh hle)
end
end DD
set_option Elab.async false
set_option linter.all false
set_option maxRecDepth 100000
namespace DD
open PySem PySem.Spec L2 PyProof.Rows

section
variable {X : Cx} {W : WX}
/-! ### sum, all, any, min, max -/
def rSumT (K : PySem.W.Frag) : List V → Hp → VK → Prop := fun vs H Q => ∃ (a : Addr) (ns : List Int), vs = [V.ref a] ∧ SqT K H a (ns.map V.int) ∧ Q (.int ns.sum) H
theorem cr_sumT (hc : X.calm = true) : CallR X (.builtin "sum") (rSumT X.K) := by
  intro pins s σ H vs us Q I r h
  obtain ⟨a, ns, rfl, hs, q⟩ := h
  obtain ⟨its, rv, hl, _⟩ := I.tuple hs
  rw [Vals.ref1 r]
  have hi : IntsAre its ns := rv.ints
  obtain ⟨xs, e⟩ := hi.allInts.items
  have hn : numsOf (intItems xs).toList = ns := by
    rw [← e]
    exact hi.numsOf
  rw [nums_intItems] at hn
  have hl2 : s.heap.IsTuple a (intItems xs) := by
    rw [← e]
    exact hl
  refine PySem.W.ktm_sumG (I.ok.hd hc) hl2 fun h' tk t' hk => ?_
  rw [preSum_eq, List.take_of_length_le (by simp), hn]
  exact ⟨.int _, H, I.kept hk, ⟨_, rfl⟩, q⟩
def pySum : List D → IH → Res D := fun as h => match as with
  | [x] => match seqD h x with
    | some ds => match intsD ds with
      | some ns => .val (.int ns.sum) h
      | none => .stk
    | none => .stk
  | _ => .stk
theorem cr_sumD (hc : X.calm = true) : CallR X (.builtin "sum") (fun xs H Q => rSum X.K xs H Q ∨ rSumT X.K xs H Q) := CallR.or (cr_sum hc) (cr_sumT hc)
theorem sd_sum : SdC X (fun xs H Q => rSum X.K xs H Q ∨ rSumT X.K xs H Q) pySum := by
  intro W σ xs as H μ h Q rl rs p
  unfold pySum at p
  split at p
  · split at p
    · rename_i z
      split at p
      · rename_i ns z2
        cases rs with
        | cons r1 q1 =>
          cases q1
          obtain ⟨a, vs, rfl, s, q⟩ := seqD_ok rl r1 z
          obtain ⟨rfl, _⟩ := intsD_ok q z2
          rcases s with s | s
          · exact .inl ⟨a, ns, rfl, s, p.at rl (.int _)⟩
          · exact .inr ⟨a, ns, rfl, s, p.at rl (.int _)⟩
      · exact p.elim
    · exact p.elim
  · exact p.elim
def pyAll : List D → IH → Res D := fun as h => match as with
  | [x] => match seqL h x with
    | some ds => match boolsD ds with
      | some ns => .val (.bl (ns.all id)) h
      | none => .stk
    | none => .stk
  | _ => .stk
def pyAny : List D → IH → Res D := fun as h => match as with
  | [x] => match seqL h x with
    | some ds => match boolsD ds with
      | some ns => .val (.bl (ns.any id)) h
      | none => .stk
    | none => .stk
  | _ => .stk
theorem sd_all : SdC X (rAll X.K) pyAll := by
  intro W σ xs as H μ h Q rl rs p
  unfold pyAll at p
  split at p
  · split at p
    · rename_i z
      split at p
      · rename_i ns z2
        cases rs with
        | cons r1 q1 =>
          cases q1
          obtain ⟨a, vs, rfl, s, q⟩ := seqL_ok rl r1 z
          obtain ⟨rfl, _⟩ := boolsD_ok q z2
          exact ⟨a, ns, rfl, s, p.at rl (.bl _)⟩
      · exact p.elim
    · exact p.elim
  · exact p.elim
theorem sd_any : SdC X (rAny X.K) pyAny := by
  intro W σ xs as H μ h Q rl rs p
  unfold pyAny at p
  split at p
  · split at p
    · rename_i z
      split at p
      · rename_i ns z2
        cases rs with
        | cons r1 q1 =>
          cases q1
          obtain ⟨a, vs, rfl, s, q⟩ := seqL_ok rl r1 z
          obtain ⟨rfl, _⟩ := boolsD_ok q z2
          exact ⟨a, ns, rfl, s, p.at rl (.bl _)⟩
      · exact p.elim
    · exact p.elim
  · exact p.elim
def alikeB (xs : List PyData) : Bool := (xs.all fun x => xs.all fun y => PySem.W.alike x y) && xs.all fun x => match x with
  | .none => false
  | _ => true
theorem alikeB_ok {xs : List PyData} (h : alikeB xs = true) : PySem.W.AlikeAll xs := by
  unfold alikeB at h
  rw [Bool.and_eq_true] at h
  refine ⟨fun x hx y hy => List.all_eq_true.mp (List.all_eq_true.mp h.1 x hx) y hy, fun x hx e => ?_⟩
  have := List.all_eq_true.mp h.2 x hx
  subst e
  cases this
theorem DpAll.get {K : PySem.W.Frag} {H : Hp} : ∀ {vs : List V} {ds : List PyData} {i : Nat} {v : V}, DpAll K H vs ds → vs[i]? = some v → ∃ d, ds[i]? = some d ∧ Dp K H v d
  | _, _, _, _, .nil, e => by simp at e
  | _, _, 0, _, .cons a _, e => by
    simp at e
    subst e
    exact ⟨_, rfl, a⟩
  | _, _, i + 1, _, .cons _ b, e => by
    obtain ⟨d, h1, h2⟩ := DpAll.get (i := i) b (by simpa using e)
    exact ⟨d, by simpa using h1, h2⟩
def rBest (K : PySem.W.Frag) (g : PyData → List PyData → PyData) : List V → Hp → VK → Prop := fun vs H Q => ∃ (a : Addr) (xs : List V) (p : PyData) (ps : List PyData), vs = [V.ref a] ∧ SqL K H a xs ∧ DpAll K H xs (p :: ps) ∧ PySem.W.AlikeAll (p :: ps) ∧ PyData.canLayAll0 (p :: ps) = true ∧ PyData.depthAll (p :: ps) ≤ 60 ∧
  ∀ (i : Nat) v, xs[i]? = some v → (p :: ps)[i]? = some (g p ps) → Q v H
theorem canLay_get : ∀ {ps : List PyData} {i : Nat} {d : PyData}, PyData.canLayAll0 ps = true → ps[i]? = some d → d.canLay0 = true
  | [], _, _, _, e => by simp at e
  | p :: ps, 0, d, h, e => by
    simp at e
    subst e
    unfold PyData.canLayAll0 at h
    exact (Bool.and_eq_true_iff.mp h).1
  | p :: ps, i + 1, d, h, e => by
    unfold PyData.canLayAll0 at h
    exact canLay_get (i := i) (Bool.and_eq_true_iff.mp h).2 (by simpa using e)
theorem cr_minD (hc : X.calm = true) (hu : X.A.units + 64 < cLine) : CallR X (.builtin "min") (rBest X.K PySem.W.minD) := by
  intro pins s σ H vs us Q I r h
  obtain ⟨a, xs, p, ps, rfl, hs, hd, ha, hcl, hdp, q⟩ := h
  obtain ⟨its, rv, hl, _⟩ := I.list hs
  rw [Vals.ref1 r]
  obtain ⟨as, hr⟩ := Dp.readsAll I _ _ _ hd rv
  refine PySem.W.min_list_data (I.ok.hd hc) hl.isList (by simpa using hr) ha (by omega) fun i v h' tk bs hv hb hk => ?_
  have hv2 : its[i]? = some v := by simpa using hv
  have hil : i < xs.length := by
    rw [rv.length]
    exact (List.getElem?_eq_some_iff.mp hv2).1
  obtain ⟨u, hu1, ru⟩ := rv.get (List.getElem?_eq_getElem hil)
  rw [hv2] at hu1
  cases hu1
  obtain ⟨d, hd1, hd2⟩ := DpAll.get hd (List.getElem?_eq_getElem hil)
  obtain ⟨as2, r2⟩ := Dp.reads I d _ v hd2 ru
  have e := (Reads.unique (PySem.W.reads_keeps hk r2) _ _ hb).1
  subst e
  exact ⟨xs[i], H, I.kept hk, ru, q i _ (List.getElem?_eq_getElem hil) hd1⟩
theorem cr_maxD (hc : X.calm = true) (hu : X.A.units + 64 < cLine) : CallR X (.builtin "max") (rBest X.K PySem.W.maxD) := by
  intro pins s σ H vs us Q I r h
  obtain ⟨a, xs, p, ps, rfl, hs, hd, ha, hcl, hdp, q⟩ := h
  obtain ⟨its, rv, hl, _⟩ := I.list hs
  rw [Vals.ref1 r]
  obtain ⟨as, hr⟩ := Dp.readsAll I _ _ _ hd rv
  refine PySem.W.max_list_data (I.ok.hd hc) hl.isList (by simpa using hr) ha (by omega) fun i v h' tk bs hv hb hk => ?_
  have hv2 : its[i]? = some v := by simpa using hv
  have hil : i < xs.length := by
    rw [rv.length]
    exact (List.getElem?_eq_some_iff.mp hv2).1
  obtain ⟨u, hu1, ru⟩ := rv.get (List.getElem?_eq_getElem hil)
  rw [hv2] at hu1
  cases hu1
  obtain ⟨d, hd1, hd2⟩ := DpAll.get hd (List.getElem?_eq_getElem hil)
  obtain ⟨as2, r2⟩ := Dp.reads I d _ v hd2 ru
  have e := (Reads.unique (PySem.W.reads_keeps hk r2) _ _ hb).1
  subst e
  exact ⟨xs[i], H, I.kept hk, ru, q i _ (List.getElem?_eq_getElem hil) hd1⟩
/-- data without lists, back -/
def ofPy : Nat → PyData → Option D
  | 0, _ => none
  | n + 1, p => match p with
    | .none => some .non
    | .bool b => some (.bl b)
    | .int i => some (.int i)
    | .str x => some (.str x)
    | .tuple ps => (mapO (ofPy n) ps).map .tup
    | _ => none
theorem mapO_back {n m : Nat} {h : IH} (ih : ∀ (d d' : D) (p : PyData), toPy m h d = some p → ofPy n p = some d' → d' = d) : ∀ {ds ds' : List D} {ps : List PyData}, mapO (toPy m h) ds = some ps → mapO (ofPy n) ps = some ds' → ds' = ds
  | [], _, _, e1, e2 => by
    cases e1
    cases e2
    rfl
  | d :: ds, _, _, e1, e2 => by
    unfold mapO at e1
    split at e1
    · rename_i p ps z1 z2
      cases e1
      unfold mapO at e2
      split at e2
      · rename_i d' ds' y1 y2
        cases e2
        rw [ih _ _ _ z1 y1, mapO_back ih z2 y2]
      · cases e2
    · cases e1
theorem ofPy_toPy {h : IH} : ∀ (n m : Nat) (d d' : D) (p : PyData), toPy m h d = some p → ofPy n p = some d' → d' = d
  | 0, _, _, _, _, _, e => by cases e
  | n + 1, 0, _, _, _, e, _ => by cases e
  | n + 1, m + 1, d, d', p, e1, e2 => by
    cases d with
    | non =>
      cases e1
      cases e2
      rfl
    | bl b =>
      cases e1
      cases e2
      rfl
    | int i =>
      cases e1
      cases e2
      rfl
    | str x =>
      cases e1
      cases e2
      rfl
    | tup ds =>
      simp only [toPy] at e1
      obtain ⟨ps, z, rfl⟩ := Option.map_eq_some_iff.mp e1
      simp only [ofPy] at e2
      obtain ⟨es, y, rfl⟩ := Option.map_eq_some_iff.mp e2
      rw [mapO_back (ofPy_toPy n m) z y]
    | fl ds =>
      simp only [toPy] at e1
      obtain ⟨ps, z, rfl⟩ := Option.map_eq_some_iff.mp e1
      cases e2
    | ref k =>
      simp only [toPy] at e1
      split at e1
      · obtain ⟨ps, z, rfl⟩ := Option.map_eq_some_iff.mp e1
        cases e2
      · cases e1
    | op v => cases e1
def bestO (g : PyData → List PyData → PyData) (h : IH) (ds : List D) : Option D := match mapO (toPy 12 h) ds with
  | some (p :: ps) => if (alikeB (p :: ps) && PyData.canLayAll0 (p :: ps) && decide (PyData.depthAll (p :: ps) ≤ 60)) = true then ofPy 12 (g p ps) else none
  | _ => none
def pyMin : List D → IH → Res D := fun as h => match as with
  | [.int i, .int j] => .val (.int (if j < i then j else i)) h
  | [x] => match seqL h x with
    | some ds => match bestO PySem.W.minD h ds with
      | some d => .val d h
      | none => .stk
    | none => .stk
  | _ => .stk
def pyMax : List D → IH → Res D := fun as h => match as with
  | [.int i, .int j] => .val (.int (if j > i then j else i)) h
  | [x] => match seqL h x with
    | some ds => match bestO PySem.W.maxD h ds with
      | some d => .val d h
      | none => .stk
    | none => .stk
  | _ => .stk
theorem mapO_get {α β : Type} {f : α → Option β} : ∀ {ds : List α} {ps : List β} {i : Nat} {p : β}, mapO f ds = some ps → ps[i]? = some p → ∃ d, ds[i]? = some d ∧ f d = some p
  | [], _, _, _, e, q => by
    cases e
    simp at q
  | d :: ds, _, i, p, e, q => by
    unfold mapO at e
    split at e
    · rename_i a b z1 z2
      cases e
      cases i with
      | zero =>
        simp at q
        subst q
        exact ⟨d, rfl, z1⟩
      | succ i =>
        obtain ⟨d', h1, h2⟩ := mapO_get (i := i) z2 (by simpa using q)
        exact ⟨d', by simpa using h1, h2⟩
    · cases e
theorem bestO_ok {g : PyData → List PyData → PyData} {K : PySem.W.Frag} {H : Hp} {μ : List Addr} {h : IH} {v : V} {x d : D} {ds : List D} {mg : MG} {W : WX} {σ : L2.St} {Q : VK} (rl : Rl K H μ h) (r : Rp K H μ v x) (z : seqL h x = some ds) (e : bestO g h ds = some d) (p : Po mg K W (Rp K) σ H μ (.val d h) Q) : rBest K g [v] H Q := by
  obtain ⟨a, vs, rfl, s, q⟩ := seqL_ok rl r z
  unfold bestO at e
  split at e
  · rename_i y ys zz
    split at e
    · rename_i c
      simp only [Bool.and_eq_true, decide_eq_true_eq] at c
      refine ⟨a, vs, y, ys, rfl, s, toPys_ok (toPy_ok rl 12) q zz, alikeB_ok c.1.1, c.1.2, c.2, fun i w h1 h2 => ?_⟩
      obtain ⟨d2, h3, h4⟩ := q.getV h1
      obtain ⟨d3, h5, h6⟩ := mapO_get zz h2
      rw [h3] at h5
      cases h5
      rw [ofPy_toPy _ _ _ _ _ h6 e] at p
      exact p.at rl h4
    · cases e
  · cases e
theorem cr_minA {k : Nat} (C : Ctx X W k) : CallR X (.builtin "min") (fun xs H Q => (∃ i j, xs = [V.int i, V.int j] ∧ Q (V.int (if j < i then j else i)) H) ∨ rBest X.K PySem.W.minD xs H Q) := CallR.or (call_min2 C.calm) (cr_minD C.calm (units_of C))
theorem cr_maxA {k : Nat} (C : Ctx X W k) : CallR X (.builtin "max") (fun xs H Q => (∃ i j, xs = [V.int i, V.int j] ∧ Q (V.int (if j > i then j else i)) H) ∨ rBest X.K PySem.W.maxD xs H Q) := CallR.or (call_max2 C.calm) (cr_maxD C.calm (units_of C))
theorem sd_min : SdC X (fun xs H Q => (∃ i j, xs = [V.int i, V.int j] ∧ Q (V.int (if j < i then j else i)) H) ∨ rBest X.K PySem.W.minD xs H Q) pyMin := by
  intro W σ xs as H μ h Q rl rs p
  unfold pyMin at p
  split at p
  · cases rs with
    | cons r1 q1 =>
      cases q1 with
      | cons r2 q2 =>
        cases q2
        cases r1
        cases r2
        exact .inl ⟨_, _, rfl, p.at rl (.int _)⟩
  · split at p
    · rename_i z
      split at p
      · rename_i z2
        cases rs with
        | cons r1 q1 =>
          cases q1
          exact .inr (bestO_ok rl r1 z z2 p)
      · exact p.elim
    · exact p.elim
  · exact p.elim
theorem sd_max : SdC X (fun xs H Q => (∃ i j, xs = [V.int i, V.int j] ∧ Q (V.int (if j > i then j else i)) H) ∨ rBest X.K PySem.W.maxD xs H Q) pyMax := by
  intro W σ xs as H μ h Q rl rs p
  unfold pyMax at p
  split at p
  · cases rs with
    | cons r1 q1 =>
      cases q1 with
      | cons r2 q2 =>
        cases q2
        cases r1
        cases r2
        exact .inl ⟨_, _, rfl, p.at rl (.int _)⟩
  · split at p
    · rename_i z
      split at p
      · rename_i z2
        cases rs with
        | cons r1 q1 =>
          cases q1
          exact .inr (bestO_ok rl r1 z z2 p)
      · exact p.elim
    · exact p.elim
  · exact p.elim

/-! ### repr -/
def rRepr (K : PySem.W.Frag) : List V → Hp → VK → Prop := fun vs H Q => ∃ a p, vs = [V.ref a] ∧ Dp K H (.ref a) p ∧ p.showable = true ∧ p.hasDict = false ∧ p.depth ≤ 60 ∧ p.shown.length ≤ sizeLine ∧ Q (.str p.shown) H
theorem cr_repr {k : Nat} (C : Ctx X W k) : CallR X (.builtin "repr") (rRepr X.K) := by
  intro pins s σ H vs us Q I r h
  obtain ⟨a, p, rfl, hd, h1, h2, h3, h4, q⟩ := h
  rw [Vals.ref1 r]
  obtain ⟨as, hr⟩ := Dp.reads I p _ (.ref a) hd rfl
  refine repr_of_reads' hr h1 (fun z => by rw [h2] at z; cases z) C.gd (by have := units_of C; omega) (fun _ _ z => z) (fun h' u tk hk => ?_) h4
  exact ⟨.str p.shown, H, I.kept hk, ⟨_, rfl⟩, q⟩
def pyRepr : List D → IH → Res D := fun as h => match as with
  | [x] => match toPy 12 h x with
    | some p => match p with
      | .list _ | .tuple _ => if (p.showable && !p.hasDict && decide (p.depth ≤ 60) && decide (p.shown.length ≤ sizeLine)) = true then .val (.str p.shown) h else .stk
      | _ => .stk
    | none => .stk
  | _ => .stk
theorem sd_repr : SdC X (rRepr X.K) pyRepr := by
  intro W σ xs as H μ h Q rl rs p
  unfold pyRepr at p
  split at p
  · split at p
    · rename_i q z
      cases rs with
      | cons r1 q1 =>
        cases q1
        have hd := toPy_ok rl 12 _ _ _ r1 z
        have key : ∀ {v : V} {a : Addr}, v = .ref a → Dp X.K H v q → Po X.mg X.K W (Rp X.K) σ H μ (if (q.showable && !q.hasDict && decide (q.depth ≤ 60) && decide (q.shown.length ≤ sizeLine)) = true then .val (.str q.shown) h else .stk) Q → rRepr X.K [v] H Q := by
          intro v a e hd p
          subst e
          split at p
          · rename_i c
            simp only [Bool.and_eq_true, decide_eq_true_eq, Bool.not_eq_true'] at c
            exact ⟨a, q, rfl, hd, c.1.1.1, c.1.1.2, c.1.2, c.2, p.at rl (.str _)⟩
          · exact p.elim
        split at p
        · cases hd with
          | lst s1 s2 => exact key rfl (.lst s1 s2) p
        · cases hd with
          | tup s1 s2 => exact key rfl (.tup s1 s2) p
        · exact p.elim
    · exact p.elim
  · exact p.elim
end
end DD
set_option Elab.async false
set_option linter.all false
set_option maxRecDepth 100000
namespace DD
open PySem PySem.Spec L2 PyProof.Rows

/-! ### dicts as data -/
def keyD : D → Option Key
  | .int i => some (.inl i)
  | .str x => some (.inr x)
  | _ => none
def valD (kvs : List (Key × D)) (k : Key) : Option D := match kvs with
  | [] => none
  | (j, d) :: r => if j = k then some d else valD r k
def hasD (kvs : List (Key × D)) (k : Key) : Bool := (valD kvs k).isSome
def setD (kvs : List (Key × D)) (k : Key) (v : D) : List (Key × D) := match kvs with
  | [] => []
  | (j, d) :: r => (if j = k then (j, v) else (j, d)) :: setD r k v
def putD (kvs : List (Key × D)) (k : Key) (v : D) : List (Key × D) := if hasD kvs k = true then setD kvs k v else kvs ++ [(k, v)]
section
variable {K : PySem.W.Frag} {H : Hp} {μ : List Addr}
theorem keyD_ok {v : V} {d : D} {k : Key} (r : Rp K H μ v d) (e : keyD d = some k) : v = kV k := by
  cases r <;> cases e <;> rfl
abbrev Kr (K : PySem.W.Frag) (H : Hp) (μ : List Addr) (kws : List (Key × V)) (kvs : List (Key × D)) : Prop := kws.map (·.1) = kvs.map (·.1) ∧ Rps K H μ (kws.map (·.2)) (kvs.map (·.2))
theorem Kr.cons_inv {p : Key × V} {q : Key × D} {kws : List (Key × V)} {kvs : List (Key × D)} (r : Kr K H μ (p :: kws) (q :: kvs)) : p.1 = q.1 ∧ Rp K H μ p.2 q.2 ∧ Kr K H μ kws kvs := by
  obtain ⟨h1, h2⟩ := r
  rw [List.map_cons, List.map_cons] at h1
  rw [List.map_cons, List.map_cons] at h2
  cases h2 with
  | cons a b =>
    injection h1 with e1 e2
    exact ⟨e1, a, e2, b⟩
theorem Kr.cons {p : Key × V} {q : Key × D} {kws : List (Key × V)} {kvs : List (Key × D)} (e : p.1 = q.1) (a : Rp K H μ p.2 q.2) (r : Kr K H μ kws kvs) : Kr K H μ (p :: kws) (q :: kvs) := by
  refine ⟨?_, ?_⟩
  · rw [List.map_cons, List.map_cons, e, r.1]
  · rw [List.map_cons, List.map_cons]
    exact .cons a r.2
theorem Kr.len {kws : List (Key × V)} {kvs : List (Key × D)} (r : Kr K H μ kws kvs) : kws.length = kvs.length := by
  have := congrArg List.length r.1
  rw [List.length_map, List.length_map] at this
  exact this
theorem valD_ok {k : Key} : ∀ {kws : List (Key × V)} {kvs : List (Key × D)}, Kr K H μ kws kvs → (valV kws k = none ∧ valD kvs k = none) ∨ ∃ v d, valV kws k = some v ∧ valD kvs k = some d ∧ Rp K H μ v d
  | [], [], _ => .inl ⟨rfl, rfl⟩
  | [], _ :: _, r => by
    have := r.len
    simp at this
  | _ :: _, [], r => by
    have := r.len
    simp at this
  | p :: kws, (j, d) :: kvs, r => by
    obtain ⟨e, a, b⟩ := r.cons_inv
    by_cases z : p.1 = k
    · right
      rw [valV_pos z]
      refine ⟨p.2, d, rfl, ?_, a⟩
      unfold valD
      rw [if_pos (e.symm.trans z)]
    · rw [valV_neg z]
      unfold valD
      rw [if_neg (fun y => z (e.trans y))]
      exact valD_ok b
theorem setD_ok {k : Key} {v : V} {d : D} (rv : Rp K H μ v d) : ∀ {kws : List (Key × V)} {kvs : List (Key × D)}, Kr K H μ kws kvs → Kr K H μ (kws.map fun kv => if kv.1 = k then (kv.1, v) else kv) (setD kvs k d)
  | [], [], r => r
  | [], _ :: _, r => by
    have := r.len
    simp at this
  | _ :: _, [], r => by
    have := r.len
    simp at this
  | p :: kws, (j, e) :: kvs, r => by
    obtain ⟨e1, a, b⟩ := r.cons_inv
    have e1' : p.1 = j := e1
    rw [List.map_cons]
    unfold setD
    by_cases z : p.1 = k
    · rw [if_pos z, if_pos (e1'.symm.trans z)]
      exact Kr.cons e1 rv (setD_ok rv b)
    · rw [if_neg z, if_neg (fun y => z (e1'.trans y))]
      exact Kr.cons e1 a (setD_ok rv b)
theorem Kr.append : ∀ {kws kws' : List (Key × V)} {kvs kvs' : List (Key × D)}, Kr K H μ kws kvs → Kr K H μ kws' kvs' → Kr K H μ (kws ++ kws') (kvs ++ kvs') := by
  intro kws kws' kvs kvs' a b
  refine ⟨?_, ?_⟩
  · rw [List.map_append, List.map_append, a.1, b.1]
  · rw [List.map_append, List.map_append]
    exact a.2.append b.2
theorem putD_ok {k : Key} {v : V} {d : D} {kws : List (Key × V)} {kvs : List (Key × D)} (rv : Rp K H μ v d) (r : Kr K H μ kws kvs) : Kr K H μ (putK kws k v) (putD kvs k d) := by
  unfold putK putD hasD
  rw [valV_any]
  rcases valD_ok (k := k) r with ⟨h1, h2⟩ | ⟨w, e, h1, h2, _⟩
  · rw [h1, h2, if_neg (by decide), if_neg (by decide)]
    exact r.append (Kr.cons rfl rv ⟨rfl, .nil⟩)
  · rw [h1, h2, if_pos (show (some w).isSome = true from rfl), if_pos (show (some e).isSome = true from rfl)]
    exact setD_ok rv r
def mergeD (kvs more : List (Key × D)) : List (Key × D) := more.foldl (fun acc kv => putD acc kv.1 kv.2) kvs
theorem mergeD_ok : ∀ {ws : List (Key × V)} {vs : List (Key × D)} {kws : List (Key × V)} {kvs : List (Key × D)}, Kr K H μ ws vs → Kr K H μ kws kvs → Kr K H μ (mergeK kws ws) (mergeD kvs vs)
  | [], [], _, _, _, r => r
  | [], _ :: _, _, _, r, _ => by
    have := r.len
    simp at this
  | _ :: _, [], _, _, r, _ => by
    have := r.len
    simp at this
  | p :: ws, (j, d) :: vs, kws, kvs, r, q => by
    obtain ⟨e, a, b⟩ := r.cons_inv
    have e' : p.1 = j := e
    subst e'
    show Kr K H μ (mergeK (putK kws p.1 p.2) ws) (mergeD (putD kvs p.1 d) vs)
    exact mergeD_ok b (putD_ok a q)
end
/-! ### a change of the own heap -/
section
variable {K : PySem.W.Frag} {H : Hp} {μ : List Addr} {h : IH} {n : Nat} {a : Addr}
theorem wr_lst {vs ws : List V} {es : List D} (rl : Rl K H μ h) (e : μ[n]? = some a) (hp : H a = some (.lst vs)) (r : Rps K H μ ws es) : Ext K H μ (upd H a (.lst ws)) μ ∧ Rl K (upd H a (.lst ws)) μ (h.set n (.lst es)) := by
  have x : Ext K H μ (upd H a (.lst ws)) μ := Ext.mut e hp (fun _ z => nomatch z) (fun _ _ z => nomatch z)
  exact ⟨x, rl.set e x ⟨ws, upd_same, r.mono x⟩⟩
theorem wr_dic {vs ws : List (Key × V)} {es : List (Key × D)} (rl : Rl K H μ h) (e : μ[n]? = some a) (hp : H a = some (.dK vs)) (r : Kr K H μ ws es) : Ext K H μ (upd H a (.dK ws)) μ ∧ Rl K (upd H a (.dK ws)) μ (h.set n (.dic es)) := by
  have x : Ext K H μ (upd H a (.dK ws)) μ := Ext.mut e hp (fun _ z => nomatch z) (fun _ _ z => nomatch z)
  exact ⟨x, rl.set e x ⟨ws, upd_same, r.1, r.2.mono x⟩⟩
end
section
variable {X : Cx} {W : WX} {a b c : Expr} {ma mb mc : ME} {pos : Pos}
/-! ### subscripts -/
def rIxD : R2 := fun x y H Q => ∃ a v, x = .ref a ∧ DGet H a y (some v) ∧ Q v H
theorem ix_dict (hu : X.A.units + 1 < cLine) : IxR X rIxD := by
  intro value slice pins s σ H x y v u Q I rx ry h hs
  obtain ⟨p, z, rfl, g, q⟩ := h
  cases rx
  have hT := dict_typeIs I g
  unfold subscriptTail
  refine wpAny_bind ?_
  rw [getitemInPython_of_ne hT.not_modules]
  refine wpAny_bind (wpAny_specialOf hT PySem.F.slot_dict_getitem.lookup ?_)
  have fin : wpAny (model X.prog X.w) X.A (subscripted slice false (.ref p) u) (fun r s₃ => wpAny (model X.prog X.w) X.A (letTemporaryGo value (.ref p) r >>= fun _ => pure r) (EP X pins σ Q) X.xe s₃) X.xe s := by
    rw [hs]
    exact wpAny_operating (d_getItem hu I g ry fun w' s3 I3 rw' => wpAny_bind (wpAny_letTemporaryGo (wpAny_pure ⟨z, H, I3, rw', q⟩)))
  first
    | exact wpAny_pure (wpAny_bind fin)
    | exact wpAny_bind (wpAny_pure (wpAny_bind fin))
    | exact wpAny_bind fin
def pyIx : D → D → IH → Res D
  | .str z, .int i, h => if z.length ≤ sizeLine then (match atI z.cps.toList i with
    | some c => .val (.str ⟨#[c]⟩) h
    | none => .stk) else .stk
  | .tup ds, .int i, h => match atI ds i with
    | some d => .val d h
    | none => .stk
  | .fl ds, .int i, h => match atI ds i with
    | some d => .val d h
    | none => .stk
  | .ref n, k, h => match h[n]? with
    | some (.lst ds) => (match k with
      | .int i => (match atI ds i with
        | some d => .val d h
        | none => .stk)
      | _ => .stk)
    | some (.dic kvs) => (match keyD k with
      | some j => (match valD kvs j with
        | some d => .val d h
        | none => .stk)
      | none => .stk)
    | none => .stk
  | _, _, _ => .stk
theorem atI_ok {K : PySem.W.Frag} {H : Hp} {μ : List Addr} {vs : List V} {ds : List D} {i : Int} {d : D} (r : Rps K H μ vs ds) (e : atI ds i = some d) : ∃ v, atI vs i = some v ∧ Rp K H μ v d := by
  unfold atI at e ⊢
  rw [r.length]
  obtain ⟨j, h1, h2⟩ := Option.bind_eq_some_iff.mp e
  obtain ⟨v, h3, h4⟩ := r.get h2
  exact ⟨v, by rw [h1]; exact h3, h4⟩
def rIxA (X : Cx) : R2 := fun x y H Q => rIx X.K x y H Q ∨ rIxD x y H Q
theorem ix_any {k : Nat} (C : Ctx X W k) : IxR X (rIxA X) := ix_seq.or (ix_dict (units1_of C))
theorem sd_ix : Sd2 X (rIxA X) pyIx := by
  intro W σ x y a b H μ h Q rl ra rb p
  cases ra with
  | str z =>
    cases rb <;> first | exact p.elim | skip
    simp only [pyIx] at p
    split at p
    · split at p
      · exact .inl (.inr (.inr ⟨_, _, _, rfl, rfl, by assumption, by assumption, p.at rl (.str _)⟩))
      · exact p.elim
    · exact p.elim
  | tup s q =>
    cases rb <;> first | exact p.elim | skip
    simp only [pyIx] at p
    split at p
    · rename_i d z
      obtain ⟨v, h1, h2⟩ := atI_ok q z
      exact .inl (.inr (.inl ⟨_, _, _, v, rfl, rfl, s, h1, p.at rl h2⟩))
    · exact p.elim
  | fl s q =>
    cases rb <;> first | exact p.elim | skip
    simp only [pyIx] at p
    split at p
    · rename_i d z
      obtain ⟨v, h1, h2⟩ := atI_ok q z
      exact .inl (.inl ⟨_, _, _, v, rfl, rfl, s.sq, h1, p.at rl h2⟩)
    · exact p.elim
  | ref e1 =>
    obtain ⟨o, ho, q⟩ := rl.at e1
    simp only [pyIx, ho] at p
    cases o with
    | lst ds =>
      obtain ⟨vs, h1, q⟩ := q
      cases rb <;> first | exact p.elim | skip
      simp only at p
      split at p
      · rename_i d z
        obtain ⟨v, h2, h3⟩ := atI_ok q z
        exact .inl (.inl ⟨_, _, _, v, rfl, rfl, SqL.of h1, h2, p.at rl h3⟩)
      · exact p.elim
    | dic kvs =>
      obtain ⟨kws, h1, q⟩ := q
      simp only at p
      split at p
      · rename_i j z
        split at p
        · rename_i d z2
          rcases valD_ok (k := j) q with ⟨h2, h3⟩ | ⟨v, d', h2, h3, h4⟩
          · rw [h3] at z2
            cases z2
          · rw [h3] at z2
            cases z2
            exact .inr ⟨_, v, rfl, .inl ⟨kws, j, .inl h1, keyD_ok rb z, h2.symm⟩, p.at rl h4⟩
        · exact p.elim
      · exact p.elim
  | _ => exact p.elim
/-! ### stores by subscripts -/
def pySet (x y d : D) (h : IH) : Option IH := match x with
  | .ref n => match h[n]? with
    | some (.lst ds) => (match y with
      | .int i => (match ixN ds.length i with
        | some j => some (h.set n (.lst (ds.set j d)))
        | none => none)
      | _ => none)
    | some (.dic kvs) => (match keyD y with
      | some k => if kvs.length < sizeLine then some (h.set n (.dic (putD kvs k d))) else none
      | none => none)
    | none => none
  | _ => none
def rSetA : TSet := fun o i v H Q => rSetL o i v H Q ∨ ∃ a H', o = .ref a ∧ DPut H a i v H' ∧ Q H'
theorem set_any (hu : X.A.units + 1 < cLine) : PSet X rSetA := by
  intro pins s σ H o i v ov iv u Q I ro ri rv h
  rcases h with h | ⟨a, H', rfl, g, q⟩
  · exact set_list pins s σ H o i v ov iv u Q I ro ri rv h
  · cases ro
    exact d_setItem hu I g ri rv fun s' I' => ⟨H', I', q⟩
theorem sd_set {o i v : V} {x y d : D} {H : Hp} {μ : List Addr} {h h' : IH} {Q : Hp → Prop} (rl : Rl X.K H μ h) (ro : Rp X.K H μ o x) (ri : Rp X.K H μ i y) (rv : Rp X.K H μ v d) (e : pySet x y d h = some h') (q : ∀ H', Ext X.K H μ H' μ → Rl X.K H' μ h' → Q H') : rSetA o i v H Q := by
  cases ro with
  | ref e1 =>
    obtain ⟨ob, ho, oq⟩ := rl.at e1
    simp only [pySet, ho] at e
    cases ob with
    | lst ds =>
      obtain ⟨vs, h1, r1⟩ := oq
      simp only at e
      split at e
      · split at e
        · rename_i i j z
          cases e
          cases ri
          refine .inl ⟨_, vs, _, j, rfl, rfl, h1, by rw [r1.length]; exact z, ?_⟩
          obtain ⟨x2, rl2⟩ := wr_lst rl e1 h1 (r1.set j rv)
          exact q _ x2 rl2
        · cases e
      · cases e
    | dic kvs =>
      obtain ⟨kws, h1, r1⟩ := oq
      simp only at e
      split at e
      · rename_i k z
        split at e
        · rename_i zl
          cases e
          obtain ⟨x2, rl2⟩ := wr_dic rl e1 h1 (putD_ok (k := k) rv r1)
          exact .inr ⟨_, _, rfl, .inl ⟨kws, k, h1, keyD_ok ri z, by rw [Kr.len r1]; exact zl, rfl⟩, q _ x2 rl2⟩
        · cases e
      · cases e
  | _ => cases e
def gSubM (o i : ME) : MTg := fun d env h => match o env h with
  | .val x h1 => match i env h1 with
    | .val y h2 => match pySet x y d h2 with
      | some h3 => some (env, h3)
      | none => none
    | _ => none
  | _ => none
theorem qg_sub {k : Nat} {o i : Expr} {mo mi : ME} (C : Ctx X W k) (ho : QE X W o mo) (hi : QE X W i mi)
    (ha : ∀ v, assign (.Subscript o i pos) X.env v = (do
      let ov ← holding [v] (eval o X.env)
      let iv ← holding [v, ov] (eval i X.env)
      standAt pos
      holding [v, ov, iv] (setItem ov iv v)
      release [v, ov, iv] []) := by intro _; rfl) : QG X (.Subscript o i pos) (gSubM mo mi) :=
  ⟨fun pins s σ H v u Q I r ⟨μ, h, env, d, rl, er, rp, p⟩ => (pg_sub ho hi (set_any (units1_of C)) ha).run pins s σ H v u Q I r (by
    unfold gSubM at p
    split at p
    · rename_i x h1 z1
      split at p
      · rename_i y h2 z2
        split at p
        · rename_i h3 z3
          refine ⟨μ, h, env, rl, er, ?_⟩
          rw [z1]
          intro o' μ1 H1 x1 rl1 r1
          refine ⟨μ1, h1, env, rl1, er.mono x1, ?_⟩
          rw [z2]
          intro i' μ2 H2 x2 rl2 r2
          exact sd_set rl2 (r1.mono x2) r2 (rp.mono (x1.trans x2)) z3 fun H3 x3 rl3 => p σ μ2 H3 (x1.trans (x2.trans x3)) rl3 (er.mono (x1.trans (x2.trans x3)))
        · exact p.elim
      · exact p.elim
    · exact p.elim)⟩
/-! ### slices -/
def cutA {α : Type} (xs : List α) (lo hi : Option Int) : List α := (xs.drop (HT.sIx xs.length 0 lo)).take (HT.sIx xs.length xs.length hi - HT.sIx xs.length 0 lo)
theorem cutA_ok {K : PySem.W.Frag} {H : Hp} {μ : List Addr} {vs : List V} {ds : List D} {lo hi : Option Int} (r : Rps K H μ vs ds) : Rps K H μ (cutV vs lo hi) (cutA ds lo hi) := by
  unfold cutV cutA
  rw [r.length]
  exact (r.drop _).take _
abbrev MO := En → IH → Res (Option Int)
def RO (mg : MG) (K : PySem.W.Frag) (W : WX) (m : MO) : TO := fun σ H Q => ∃ μ h env, Rl K H μ h ∧ EnvR K H μ σ env ∧ Po mg K W (fun _ _ (a b : Option Int) => a = b) σ H μ (m env h) Q
def QO (X : Cx) (W : WX) (e : Option Expr) (m : MO) : Prop := PO X e (RO X.mg X.K W m)
def moN : MO := fun _ h => .val none h
def moS (m : ME) : MO := fun env h => (m env h).bind fun d h1 => match d with
  | .int i => .val (some i) h1
  | _ => .stk
theorem qo_none : QO X W none moN := ⟨fun pins s σ H Q I ⟨μ, h, env, rl, er, p⟩ => po_none.run pins s σ H Q I (p none μ H .refl rl rfl)⟩
theorem qo_some (ha : QE X W a ma) : QO X W (some a) (moS ma) := ⟨fun pins s σ H Q I ⟨μ, h, env, rl, er, p⟩ => (po_some ha).run pins s σ H Q I ⟨μ, h, env, rl, er, Po.then (R := Rp X.K) p fun d h1 v μ1 H1 x1 rl1 rp1 p1 => by
  split at p1
  · cases rp1
    exact ⟨_, rfl, p1 _ _ _ .refl rl1 rfl⟩
  · exact p1.elim⟩⟩
def pySlice (d : D) (lo hi : Option Int) (h : IH) : Res D := match d with
  | .tup ds => .val (.tup (cutA ds lo hi)) h
  | .str z => if z.length ≤ sizeLine then .val (.str (cutS z lo hi)) h else .stk
  | x => match seqL h x with
    | some ds => .val (.ref h.length) (h ++ [.lst (cutA ds lo hi)])
    | none => .stk
def mSl (e : ME) (lo hi : MO) : ME := fun env h => (e env h).bind fun d h1 => (lo env h1).bind fun l h2 => (hi env h2).bind fun u h3 => pySlice d l u h3
def rSlAll (X : Cx) : V → Option Int → Option Int → Hp → VK → Prop := fun x lo hi H Q => rSlA X.K x lo hi H Q ∨ (rSlL X.K x lo hi H Q ∨ rSlS x lo hi H Q)
theorem cut_whole {α : Type} {xs : List α} {lo hi : Option Int} (h : HT.sIx xs.length 0 lo = 0 ∧ HT.sIx xs.length xs.length hi = xs.length) : cutA xs lo hi = xs := by
  unfold cutA
  rw [h.1, h.2]
  simp
theorem sd_slice {x : V} {d : D} {lo hi : Option Int} {H : Hp} {μ : List Addr} {h : IH} {Q : VK} {σ : L2.St} (rl : Rl X.K H μ h) (r : Rp X.K H μ x d) (p : Po X.mg X.K W (Rp X.K) σ H μ (pySlice d lo hi h) Q) : rSlAll X x lo hi H Q := by
  cases r with
  | tup s q =>
    have p2 : Po X.mg X.K W (Rp X.K) σ H μ (.val (.tup (cutA _ lo hi)) h) Q := p
    refine .inl ⟨_, _, rfl, s, fun z => ?_, fun _ pp hp => ?_⟩
    · rw [q.length] at z
      rw [cut_whole z] at p2
      exact p2.at rl (.tup s q)
    · obtain ⟨x2, rl2, rp2⟩ := new_tup rl (cutA_ok q) hp
      exact p2 _ _ _ x2 rl2 rp2
  | str z =>
    simp only [pySlice] at p
    split at p
    · exact .inr (.inr ⟨_, rfl, by assumption, p.at rl (.str _)⟩)
    · exact p.elim
  | fl s q =>
    have p2 : Po X.mg X.K W (Rp X.K) σ H μ (.val (.ref h.length) (h ++ [.lst (cutA _ lo hi)])) Q := p
    refine .inr (.inl ⟨_, _, rfl, s.sq, fun pp hp => ?_⟩)
    obtain ⟨x2, rl2, rp2⟩ := new_lst rl (cutA_ok q) hp
    exact p2 _ _ _ x2 rl2 rp2
  | ref e1 =>
    simp only [pySlice, seqL] at p
    split at p
    · rename_i ds z
      obtain ⟨vs, h1, q⟩ := lstAt_ok rl e1 z
      refine .inr (.inl ⟨_, _, rfl, SqL.of h1, fun pp hp => ?_⟩)
      obtain ⟨x2, rl2, rp2⟩ := new_lst rl (cutA_ok q) hp
      exact p _ _ _ x2 rl2 rp2
    · exact p.elim
  | _ => exact p.elim
theorem qe_slice {e : Expr} {lo hi : Option Expr} {me : ME} {ml mh : MO} {p2 : Pos} (he : QE X W e me) (hl : QO X W lo ml) (hh : QO X W hi mh) : QE X W (.Subscript e (.Slice lo hi none p2) pos) (mSl me ml mh) :=
  PE.imp (pe_slice (r := rSlAll X) (sl_tupA.or (sl_list.or sl_str)) he hl hh) fun σ H Q ⟨μ, h, env, rl, er, p⟩ =>
    ⟨μ, h, env, rl, er, Po.then (R := Rp X.K) p fun d h1 v μ1 H1 x1 rl1 rp1 p1 => ⟨μ1, h1, env, rl1, er.mono x1, Po.then (R := fun _ _ (a b : Option Int) => a = b) p1 fun l h2 l' μ2 H2 x2 rl2 e2 p2 => ⟨μ2, h2, env, rl2, er.mono (x1.trans x2), Po.then (R := fun _ _ (a b : Option Int) => a = b) p2 fun u h3 u' μ3 H3 x3 rl3 e3 p3 => by
      have e2' : l' = l := e2
      have e3' : u' = u := e3
      subst e2' e3'
      exact sd_slice rl3 (rp1.mono (x2.trans x3)) p3⟩⟩⟩
end
end DD
set_option Elab.async false
set_option linter.all false
set_option maxRecDepth 100000
/-! range of any ints -/
namespace DD
open PySem PySem.Spec L2 PyProof.Rows
theorem turn_long {P : Program} {w : World} {K : PySem.W.Frag} {tg : Expr} (it : Addr) (lo : Int) (n : Nat) : Turn P w K tg (Itr lo n) [it] it (fun i h => IsLongIter h it (lo + (i : Nat) * 1) ((n : Int) - (i : Nat)) 1) where
  mem := by simp
  obj := fun i h st b hb => by
    have z : b = it := by simpa using hb
    subst z
    refine ⟨_, st, fun v z => ?_⟩
    have z' : Data.fields _ = Data.cell v := z
    cases z'
  keep := fun i h h' st k => k it (by simp) _ st
  item := by
    intro X hP hw hK hc i pins s σ H E I hf st hg
    subst hP hw hK
    obtain ⟨f0, f1, f2, f3, f4, f5⟩ := hf it (by simp)
    refine (Walks.longrange (prog := X.prog) (w := X.w) (I.ok.hd hc) it lo 1 n).item i s _ _ hg st fun v h' tk hv st' kk => ?_
    obtain ⟨t, rfl⟩ := hv
    have J : Inv X pins σ H { s with heap := h', toks := tk } := I.turned (fun b o hb e => kk b o (by simpa using hb) e) f0 f1 f3 f4 f5
    refine ⟨_, rfl, go_of (s := { s with heap := h', toks := tk }) (n := "longrange_iterator") st' rfl rfl (by decide) ⟨.int (lo + i), H, J, ⟨t, ?_⟩, ⟨rfl, rfl⟩, st', fun b hb => (hf b hb).1⟩⟩
    rw [Int.mul_one]
  done := by
    intro X hP hw hK hc i pins s σ H E I hf st hg
    subst hP hw hK
    obtain ⟨f0, f1, f2, f3, f4, f5⟩ := hf it (by simp)
    exact wpAny_pyNext_long_end (I.ok.hd hc) st (by have : n ≤ i := hg; omega) fun h' eb => ⟨rfl, I.turned (t' := s.toks) (fun b o hb e => eb b o hb e) f0 f1 f3 f4 f5⟩
  self := fun _ _ _ _ _ st h => wpAny_pyIter_longiter st h
section
variable {X : Cx} {tg : Expr}
theorem range_any {pins : List (Addr × Obj)} {σ : L2.St} {H : Hp} {s : Shared} {R : It → Hp → Prop} {E : Value → Shared → Prop} {lo hi : Int} {t u v : Tok} {tk : Nat} (I : Inv X pins σ H s) (q : R (Itr lo (hi - lo).toNat) H) :
    wpAny (model X.prog X.w) X.A (pyIter (.ref s.heap.objs.size)) (PIE X pins σ tg R) E { s with heap := s.heap.push { cls := .type "range", data := .fields #[.int lo t, .int hi u, .int 1 v] }, toks := tk } := by
  have J : Inv X pins σ H { s with heap := s.heap.push { cls := .type "range", data := .fields #[.int lo t, .int hi u, .int 1 v] }, toks := tk } := I.kept fun b o e => Heap.get?_push_of_some _ e
  have e1 : lo + ((0 : Nat) : Int) * 1 = lo := by simp
  have e2 : (((hi - lo).toNat : Nat) : Int) - ((0 : Nat) : Int) = Builtin.Range.rangeSize lo hi 1 := by
    rw [rangeSize_one]
    split <;> omega
  have fp : ∀ b ∈ [(s.heap.push { cls := .type "range", data := .fields #[.int lo t, .int hi u, .int 1 v] }).objs.size], FpOk X pins H b := fun b hb => by
    have z := List.mem_singleton.mp hb
    subst z
    exact J.fpOk (Nat.le_refl _) (J.hok.fresh (Nat.le_refl _))
  cases hb : Builtin.Range.small lo hi 1 with
  | true =>
    refine wpAny_pyIter_range (IsRange.new ..) hb ⟨_, [_], _, _, H, rfl, J.kept (t' := tk) fun b o e => Heap.get?_push_of_some _ e, turn_range _ lo (hi - lo).toNat, ?_, fp, q⟩
    show IsRangeIter _ _ (lo + ((0 : Nat) : Int) * 1) ((((hi - lo).toNat : Nat) : Int) - ((0 : Nat) : Int)) 1
    rw [e1, e2]
    exact Heap.get?_push_size _ rfl
  | false =>
    refine wpAny_pyIter_longrange (IsRange.new ..) hb ⟨_, [_], _, _, H, rfl, J.kept (t' := tk) fun b o e => Heap.get?_push_of_some _ e, turn_long _ lo (hi - lo).toNat, ?_, fp, q⟩
    show IsLongIter _ _ (lo + ((0 : Nat) : Int) * 1) ((((hi - lo).toNat : Nat) : Int) - ((0 : Nat) : Int)) 1
    rw [e1, e2]
    exact Heap.get?_push_size _ rfl
def iRg1 (ta : TA) : TI := fun σ H R => ta σ H fun vs H1 => ∃ j : Int, vs = [.int j] ∧ R (Itr 0 j.toNat) H1
def iRg2 (ta : TA) : TI := fun σ H R => ta σ H fun vs H1 => ∃ i j : Int, vs = [.int i, .int j] ∧ R (Itr i (j - i).toNat) H1
theorem pi_rg1 {a : Expr} {ta : TA} {p pos : Pos} (hg : Gl X "range") (hm : X.mg "range" = none) (ha : PA X [a] ta) (hs : starEach [a] X.env = [(false, eval a X.env)] := by rfl) : PI X tg (.Call (.Name "range" p) [a] [] pos) (iRg1 ta) := by
  refine ⟨fun pins s σ H R I h => ?_⟩
  refine Call_ (ld_blt I hg hm boot_range (PyProof.Rows.callWith_type1 (thn (ha.run pos pins s σ H _ I h) fun us s1 ⟨vs, H1, J, r1, q1⟩ => ?_) hs rfl))
  obtain ⟨j, e, q⟩ := q1
  subst e
  cases r1 with
  | cons r rr =>
    cases rr
    obtain ⟨t, rfl⟩ := r
    exact call_range_1 (range_any J (by simpa using q))
theorem pi_rg2 {a b : Expr} {ta : TA} {p pos : Pos} (hg : Gl X "range") (hm : X.mg "range" = none) (ha : PA X [a, b] ta) (hs : starEach [a, b] X.env = [(false, eval a X.env), (false, eval b X.env)] := by rfl) (hs2 : starEach [b] X.env = [(false, eval b X.env)] := by rfl) :
    PI X tg (.Call (.Name "range" p) [a, b] [] pos) (iRg2 ta) := by
  refine ⟨fun pins s σ H R I h => ?_⟩
  refine Call_ (ld_blt I hg hm boot_range (PyProof.Rows.callWith_type1 (thn (ha.run pos pins s σ H _ I h) fun us s1 ⟨vs, H1, J, r1, q1⟩ => ?_) (by rw [hs, hs2]) (by rw [hs2]; rfl)))
  obtain ⟨i, j, e, q⟩ := q1
  subst e
  cases r1 with
  | cons r rr =>
    cases rr with
    | cons r' rr =>
      cases rr
      obtain ⟨t, rfl⟩ := r
      obtain ⟨t', rfl⟩ := r'
      exact call_range_2 (range_any J q)
end
end DD
set_option Elab.async false
set_option linter.all false
set_option maxRecDepth 100000
namespace DD
open PySem PySem.Spec L2 PyProof.Rows

section
variable {X : Cx} {W : WX} {a b c : Expr} {ma mb mc : ME} {pos : Pos}
/-! ### a dict's display -/
abbrev MP := En → IH → Res (List (D × D))
def pNil : MP := fun _ h => .val [] h
def pCons (k v : ME) (r : MP) : MP := fun env h => (k env h).bind fun x h1 => (v env h1).bind fun y h2 => (r env h2).bind fun ps h3 => .val ((x, y) :: ps) h3
def keysD : List (D × D) → Option (List (Key × D))
  | [] => some []
  | (k, v) :: r => match keyD k, keysD r with
    | some j, some s => some ((j, v) :: s)
    | _, _ => none
def mDic (m : MP) : ME := fun env h => (m env h).bind fun ps h1 => match keysD ps with
  | some kvs => if kvs.length ≤ 15 then .val (.ref h1.length) (h1 ++ [.dic (mergeD [] kvs)]) else .stk
  | none => .stk
abbrev Rpp (K : PySem.W.Frag) : Hp → List Addr → List (V × V) → List (D × D) → Prop := fun H μ vs ds => Rps K H μ (vs.map (·.1)) (ds.map (·.1)) ∧ Rps K H μ (vs.map (·.2)) (ds.map (·.2))
def QP (X : Cx) (W : WX) (pos : Pos) (ks : List (Option Expr)) (vs : List Expr) (m : MP) : Prop := ∃ trs, PPs X pos ks vs trs ∧ ∀ σ H Q, (∃ μ h env, Rl X.K H μ h ∧ EnvR X.K H μ σ env ∧ Po X.mg X.K W (Rpp X.K) σ H μ (m env h) Q) → tPairs trs σ H Q
theorem qp_nil : QP X W pos [] [] pNil := ⟨[], pps_nil, fun σ H Q ⟨μ, h, env, rl, er, p⟩ => p [] μ H .refl rl ⟨.nil, .nil⟩⟩
theorem qp_cons {k v : Expr} {ks : List (Option Expr)} {vs : List Expr} {mk mv : ME} {mr : MP} (hk : QE X W k mk) (hv : QE X W v mv) (hr : QP X W pos ks vs mr) : QP X W pos (some k :: ks) (v :: vs) (pCons mk mv mr) := by
  obtain ⟨trs, h1, h2⟩ := hr
  refine ⟨_, pps_cons hk hv h1, fun σ H Q ⟨μ, h, env, rl, er, p⟩ => ?_⟩
  exact ⟨μ, h, env, rl, er, Po.then (R := Rp X.K) p fun x h3 v1 μ1 H1 x1 rl1 rp1 p1 => ⟨μ1, h3, env, rl1, er.mono x1, Po.then (R := Rp X.K) p1 fun y h4 v2 μ2 H2 x2 rl2 rp2 p2 =>
    h2 σ H2 _ ⟨μ2, h4, env, rl2, er.mono (x1.trans x2), Po.then (R := Rpp X.K) p2 fun ps h5 vs μ3 H3 x3 rl3 rp3 p3 => p3 _ _ _ .refl rl3 ⟨.cons (rp1.mono (x2.trans x3)) rp3.1, .cons (rp2.mono x3) rp3.2⟩⟩⟩⟩
theorem keysD_ok {K : PySem.W.Frag} {H : Hp} {μ : List Addr} : ∀ {vs : List (V × V)} {ds : List (D × D)} {kvs : List (Key × D)}, Rpp K H μ vs ds → keysD ds = some kvs → ∃ kws : List (Key × V), vs = kws.map (fun kv => (kV kv.1, kv.2)) ∧ Kr K H μ kws kvs
  | [], [], _, _, e => by
    cases e
    exact ⟨[], rfl, rfl, .nil⟩
  | [], _ :: _, _, r, _ => by
    have := r.1.length
    simp at this
  | _ :: _, [], _, r, _ => by
    have := r.1.length
    simp at this
  | (x, y) :: vs, (k, v) :: ds, _, r, e => by
    obtain ⟨r1, r2⟩ := r
    rw [List.map_cons, List.map_cons] at r1 r2
    cases r1 with
    | cons a1 b1 =>
      cases r2 with
      | cons a2 b2 =>
        unfold keysD at e
        split at e
        · rename_i j s z1 z2
          cases e
          obtain ⟨kws, h1, h2⟩ := keysD_ok ⟨b1, b2⟩ z2
          have := keyD_ok a1 z1
          refine ⟨(j, y) :: kws, ?_, Kr.cons rfl a2 h2⟩
          rw [List.map_cons, h1]
          show (x, y) :: _ = (kV j, y) :: _
          rw [← this]
        · cases e
theorem Rl.out {K : PySem.W.Frag} {H : Hp} {μ : List Addr} {h : IH} {p : Addr} (rl : Rl K H μ h) (hp : H p = none) : p ∉ μ := fun z => by
  obtain ⟨n, hn, e⟩ := List.mem_iff_getElem.mp z
  exact rl.old (n := n) (by rw [List.getElem?_eq_getElem hn, e]) hp rfl
/-- a thing that stood outside the own heap is taken in, changed -/
theorem adopt {K : PySem.W.Frag} {H1 H : Hp} {μ1 μ : List Addr} {h : IH} {p : Addr} {o u : HO} {io : IO} (x : Ext K H1 μ1 H μ) (rl : Rl K H μ h) (hp1 : H1 p = none) (hp : H p = some o) (np : p ∉ μ) (ho : (∀ xs, o ≠ .tup xs) ∧ ∀ b z, o ≠ .frz b z)
    (q : ∀ {H' : Hp} {μ' : List Addr}, Mn K H μ H' μ' → H' p = some u → OkO K H' μ' p io) : Ext K H1 μ1 (upd H p u) (μ ++ [p]) ∧ Rl K (upd H p u) (μ ++ [p]) (h ++ [io]) ∧ Rp K (upd H p u) (μ ++ [p]) (.ref p) (.ref h.length) := by
  have m : Mn K H μ (upd H p u) (μ ++ [p]) := ⟨fun _ _ z => sqT_upd_mut z hp ho.1 ho.2, fun _ _ z => frzL_upd_mut z hp ho.2, fun n a z => by
    rw [List.getElem?_append_left (List.getElem?_eq_some_iff.mp z).1]
    exact z⟩
  refine ⟨⟨⟨fun a xs z => m.tup a xs (x.tup a xs z), fun a xs z => m.frz a xs (x.frz a xs z), fun n a z => m.pre n a (x.pre n a z)⟩, fun a o' z g => ?_, fun a z g => ?_⟩, ⟨?_, by rw [List.length_append, List.length_append, rl.len]; rfl, fun n a o' e1 e2 => ?_⟩, .ref ?_⟩
  · rw [upd_ne (ne_of_none z hp1)]
    exact x.keep a o' z g
  · rcases List.mem_append.mp z with z | z
    · exact x.fresh a z g
    · rw [List.mem_singleton.mp z]
      exact hp1
  · rw [List.nodup_append]
    exact ⟨rl.nd, by simp, fun a ha b hb z => np (by rw [← List.mem_singleton.mp hb, ← z]; exact ha)⟩
  · by_cases hn : n < μ.length
    · rw [List.getElem?_append_left hn] at e1
      rw [List.getElem?_append_left (by rw [← rl.len]; exact hn)] at e2
      refine (rl.ok n a o' e1 e2).mn m (upd_ne fun z => np ?_)
      rw [← z]
      exact List.mem_of_getElem? e1
    · rw [List.getElem?_append_right (by omega)] at e1
      rw [List.getElem?_append_right (by rw [← rl.len]; omega), ← rl.len] at e2
      have hz : n - μ.length = 0 := by
        have := (List.getElem?_eq_some_iff.mp e1).1
        rw [List.length_singleton] at this
        omega
      rw [hz] at e1 e2
      cases e1
      cases e2
      exact q m upd_same
  · rw [← rl.len, List.getElem?_append_right (Nat.le_refl _), Nat.sub_self]
    rfl
theorem qe_dic {ks : List (Option Expr)} {vs : List Expr} {m : MP} (hp : QP X W pos ks vs m) (hall : ks.all (·.isSome) = true := by rfl) (hl : ks.length = vs.length := by rfl) (h0 : ks ≠ [] := by exact fun z => nomatch z) (h15 : ks.length ≤ 15 := by decide) : QE X W (.Dict ks vs pos) (mDic m) := by
  obtain ⟨trs, h1, h2⟩ := hp
  refine PE.imp (pe_disp h1 hall hl h0 h15) fun σ H Q ⟨μ, h, env, rl, er, po⟩ p hp => ?_
  refine h2 σ _ _ ⟨μ, h, env, rl.new hp, er.mono (Ext.new hp), ?_⟩
  have np := rl.out hp
  have po2 := Po.then (R := Rpp X.K) po (Q' := fun ps H2 => H2 p = some (.dK []) → p ∉ (([] : List Addr)) → (∃ kvs : List (Key × V), ps = kvs.map (fun kv => (kV kv.1, kv.2)) ∧ kvs.length ≤ 15 ∧ Q (.ref p) (upd H2 p (.dK (mergeK [] kvs)))) ∨ True) fun ps h5 vs μ3 H3 x3 rl3 rp3 p3 => fun _ _ => .inr trivial
  unfold mDic at po
  revert po
  cases m env h with
  | exc z h5 =>
    intro po cls dd μ3 H3 x3 rl3 xr
    exact po cls dd μ3 H3 ((Ext.new hp).trans x3) rl3 xr
  | stk => exact fun po => po
  | val ps h5 =>
    intro po vs μ3 H3 x3 rl3 rp3
    have hk : H3 p = some (.dK []) := x3.keep p _ upd_same np
    have np3 : p ∉ μ3 := fun z => by
      have := x3.fresh p z np
      rw [upd_same] at this
      cases this
    simp only [Res.bind] at po
    split at po
    · rename_i kvs z1
      obtain ⟨kws, e1, e2⟩ := keysD_ok rp3 z1
      split at po
      · rename_i z2
        refine ⟨hk, kws, e1, by rw [e2.len]; exact z2, ?_⟩
        obtain ⟨f1, f2, f3⟩ := adopt (u := .dK (mergeK [] kws)) (io := .dic (mergeD [] kvs)) ((Ext.new (o := .dK []) hp).trans x3) rl3 hp hk np3 ⟨(fun _ z => nomatch z), (fun _ _ z => nomatch z)⟩ (fun {H' μ'} m e => by
          have r := mergeD_ok (kws := []) (kvs := []) (⟨e2.1, e2.2.mn m⟩ : Kr X.K H' μ' kws kvs) ⟨rfl, .nil⟩
          exact ⟨_, e, r.1, r.2⟩)
        exact po _ _ _ f1 f2 f3
      · exact po.elim
    · exact po.elim
/-! ### methods of built-in types -/
def mMeth (T : String) (f : D → List D → IH → Res D) (o : ME) (m : MA) : ME := fun env h => (o env h).bind fun d h1 => if tyD h1 d = some T then (m env h1).bind fun ds h2 => f d ds h2 else .stk
def SdM (X : Cx) (r : V → List V → Hp → VK → Prop) (f : D → List D → IH → Res D) : Prop := ∀ (W : WX) (σ : L2.St) (x : V) (xs : List V) (a : D) (as : List D) (H : Hp) (μ : List Addr) (h : IH) (Q : VK), Rl X.K H μ h → Rp X.K H μ x a → Rps X.K H μ xs as → Po X.mg X.K W (Rp X.K) σ H μ (f a as h) Q → r x xs H Q
theorem tyV_ok {K : PySem.W.Frag} {H : Hp} {μ : List Addr} {h : IH} {v : V} {d : D} {T : String} (hT : T = "list" ∨ T = "str" ∨ T = "dict" ∨ T = "int") (rl : Rl K H μ h) (r : Rp K H μ v d) (e : tyD h d = some T) : tyV K T v H := by
  cases r with
  | int i =>
    cases e
    rfl
  | str x =>
    cases e
    rfl
  | fl s q =>
    cases e
    exact .inl ⟨rfl, _, s.sq⟩
  | ref e1 =>
    obtain ⟨o, ho, q⟩ := rl.at e1
    simp only [tyD, ho] at e
    cases o with
    | lst ds =>
      cases e
      obtain ⟨vs, h1, _⟩ := q
      exact .inl ⟨rfl, _, SqL.of h1⟩
    | dic ds =>
      cases e
      obtain ⟨vs, h1, _⟩ := q
      exact .inr (.inr (.inl ⟨rfl, .inl ⟨_, h1⟩⟩))
  | non =>
    cases e
    rcases hT with z | z | z | z <;> exact absurd z (by decide)
  | bl b =>
    cases e
    rcases hT with z | z | z | z <;> exact absurd z (by decide)
  | tup s q =>
    cases e
    rcases hT with z | z | z | z <;> exact absurd z (by decide)
  | op v => cases e
theorem qe_meth {T id : String} {name : Str} {r : V → List V → Hp → VK → Prop} {f : D → List D → IH → Res D} {o e : Expr} {es : List Expr} {mo : ME} {mr : MA} {apos : Pos} (pa : PlainAttrs T) (slot : Slot T name id) (hty : typeOf (.builtin id) = pure (.type "method_descriptor")) (hm : MtR X id r) (sd : SdM X r f)
    (hT : T = "list" ∨ T = "str" ∨ T = "dict" ∨ T = "int") (ho : QE X W o mo) (ha : QA X W (e :: es) mr) (hbase : attributeBase o name X.env (eval o X.env) = eval o X.env := by rfl)
    (hfew : ((backTo pos (starEach (e :: es) X.env)).all (fun x => !x.1) && (backToKw pos (keywordEach [] X.env)).all (fun x => x.1.isSome)
      && decide ((e :: es).length + ([] : List Keyword).length + (if ([] : List Keyword).isEmpty then 0 else 1) < 30)) = true := by rfl)
    (hline : (apos.endLine == pos.line) = true := by rfl) (hs : starEach (e :: es) X.env = (false, eval e X.env) :: starEach es X.env := by rfl) (hplain : (backTo pos (starEach es X.env)).any (·.1) = false := by rfl) :
    QE X W (.Call (.Attribute o name apos) (e :: es) [] pos) (mMeth T f mo mr) := PE.imp (pe_bm pa slot hty hm ho ha hbase hfew hline hs hplain) fun σ H Q ⟨μ, h, env, rl, er, p⟩ =>
  ⟨μ, h, env, rl, er, Po.then (R := Rp X.K) p fun d h1 v μ1 H1 x1 rl1 rp1 p1 => by
    split at p1
    · rename_i z
      exact ⟨tyV_ok hT rl1 rp1 z, μ1, h1, env, rl1, er.mono x1, Po.then (R := Rps X.K) p1 fun ds h2 vs μ2 H2 x2 rl2 rp2 p2 => sd W σ v vs d ds H2 μ2 h2 Q rl2 (rp1.mono x2) rp2 p2⟩
    · exact p1.elim⟩
def pyAppend : D → List D → IH → Res D := fun a as h => match a, as with
  | .ref n, [y] => match lstAt h n with
    | some xs => if xs.length < sizeLine then .val .non (h.set n (.lst (xs ++ [y]))) else .stk
    | none => .stk
  | _, _ => .stk
theorem sd_append : SdM X rAppend pyAppend := by
  intro W σ x xs a as H μ h Q rl ra rs p
  unfold pyAppend at p
  split at p
  · rename_i n y
    split at p
    · rename_i ds z
      split at p
      · rename_i zl
        cases ra with
        | ref e1 =>
          cases rs with
          | cons r1 q1 =>
            cases q1
            obtain ⟨vs, h1, r2⟩ := lstAt_ok rl e1 z
            obtain ⟨x2, rl2⟩ := wr_lst rl e1 h1 (r2.append (.cons r1 .nil))
            exact ⟨_, vs, _, rfl, rfl, h1, by rw [r2.length]; exact zl, p _ _ _ x2 rl2 .non⟩
      · exact p.elim
    · exact p.elim
  · exact p.elim
theorem qe_append {o e : Expr} {mo me : ME} {apos : Pos} (ho : QE X W o mo) (he : QE X W e me) (hbase : attributeBase o "append" X.env (eval o X.env) = eval o X.env := by rfl) (hline : (apos.endLine == pos.line) = true := by rfl) (hs : starEach [e] X.env = (false, eval e X.env) :: starEach [] X.env := by rfl)
    (hfew : ((backTo pos (starEach [e] X.env)).all (fun x => !x.1) && (backToKw pos (keywordEach [] X.env)).all (fun x => x.1.isSome)
      && decide ([e].length + ([] : List Keyword).length + (if ([] : List Keyword).isEmpty then 0 else 1) < 30)) = true := by rfl) : QE X W (.Call (.Attribute o "append" apos) [e] [] pos) (mMeth "list" pyAppend mo (mCons me mNil)) :=
  qe_meth PySem.F.plainAttrs_list PySem.F.slot_list_append PySem.F.type_list_append mt_append sd_append (.inl rfl) ho (qa_cons he qa_nil hs) hbase hfew hline hs

/-! ### what is walked -/
def signsD (z : Str) : List D := z.cps.toList.map fun c => .str ⟨#[c]⟩
def srcD (d : D) (h : IH) : Res Src := match d with
  | .tup ds => .val (.st ds) h
  | .fl ds => .val (.st ds) h
  | .str z => .val (.st (signsD z)) h
  | .ref n => match lstAt h n with
    | some _ => .val (.lv fun h => lstAt h n) h
    | none => .stk
  | _ => .stk
def mIt (a : ME) : MI := fun env h => (a env h).bind srcD
theorem JOk.tup {K : PySem.W.Frag} {H : Hp} {μ : List Addr} {a : Addr} {vs : List V} {ds : List D} (s : SqT K H a vs) (q : Rps K H μ vs ds) (hinj : ∀ H' xs, SqT K H' a vs → SqT K H' a xs → True) : JOk K H μ (Itt K a) (.st ds) := by
  intro H1 μ1 h1 es x rl e
  cases e
  have s1 := x.tup _ _ s
  have q1 := q.mono x
  refine ⟨fun i d hi => ?_, fun i hi => ⟨vs, s1, by rw [q.length]; exact Nat.le_of_eq (show i = ds.length from hi).symm⟩⟩
  obtain ⟨v, h2, h3⟩ := q1.get hi
  refine ⟨⟨vs, v, s1, h2⟩, fun y H' hy => ?_⟩
  obtain ⟨rfl, hy⟩ := hy
  have := hy vs s1
  rw [h2] at this
  cases this
  exact ⟨.refl, rl, h3⟩
theorem JOk.frz {K : PySem.W.Frag} {H : Hp} {μ : List Addr} {a : Addr} {vs : List V} {ds : List D} (s : FrzL K H a vs) (q : Rps K H μ vs ds) : JOk K H μ (Itl K a) (.st ds) := by
  intro H1 μ1 h1 es x rl e
  cases e
  have s1 := (x.frz _ _ s).sq
  have q1 := q.mono x
  refine ⟨fun i d hi => ?_, fun i hi => ⟨vs, s1, by rw [q.length]; exact Nat.le_of_eq (show i = ds.length from hi).symm⟩⟩
  obtain ⟨v, h2, h3⟩ := q1.get hi
  refine ⟨⟨vs, v, s1, h2⟩, fun y H' hy => ?_⟩
  obtain ⟨rfl, hy⟩ := hy
  have := hy vs s1
  rw [h2] at this
  cases this
  exact ⟨.refl, rl, h3⟩
theorem JOk.lst {K : PySem.W.Frag} {H : Hp} {μ : List Addr} {a : Addr} {n : Nat} (s : μ[n]? = some a) : JOk K H μ (Itl K a) (.lv fun h => lstAt h n) := by
  intro H1 μ1 h1 es x rl e
  have e1 := x.pre _ _ s
  obtain ⟨vs, h9, q1⟩ := lstAt_ok rl e1 e
  have s1 : SqL K H1 a vs := SqL.of h9
  refine ⟨fun i d hi => ?_, fun i hi => ⟨vs, s1, by rw [q1.length]; exact hi⟩⟩
  obtain ⟨v, h2, h3⟩ := q1.get hi
  refine ⟨⟨vs, v, s1, h2⟩, fun y H' hy => ?_⟩
  obtain ⟨rfl, hy⟩ := hy
  have := hy vs s1
  rw [h2] at this
  cases this
  exact ⟨.refl, rl, h3⟩
theorem JOk.str {K : PySem.W.Frag} {H : Hp} {μ : List Addr} {z : Str} : JOk K H μ (Its z) (.st (signsD z)) := by
  intro H1 μ1 h1 es x rl e
  cases e
  refine ⟨fun i d hi => ?_, fun i hi => ?_⟩
  · unfold signsD at hi
    rw [List.getElem?_map] at hi
    obtain ⟨c, h2, rfl⟩ := Option.map_eq_some_iff.mp hi
    have h3 : z.cps[i]? = some c := by simpa using h2
    have h4 : i < z.cps.size := (Array.getElem?_eq_some_iff.mp h3).1
    refine ⟨h4, fun y H' hy => ?_⟩
    obtain ⟨rfl, c', e1, rfl⟩ := hy
    rw [h3] at e1
    cases e1
    exact ⟨.refl, rl, .str _⟩
  · unfold signsD at hi
    have hi2 : i = (List.map (fun c => D.str ⟨#[c]⟩) z.cps.toList).length := hi
    rw [List.length_map, Array.length_toList] at hi2
    exact Nat.le_of_eq hi2.symm
theorem qi_val {tg : Expr} (ha : QE X W a ma) : QI X W tg a (mIt ma) := PI.imp (PI.or (pi_list ha) (PI.or (pi_tup ha) (pi_str ha))) fun σ H R ⟨μ, h, env, rl, er, p⟩ => by
  unfold mIt at p
  cases z : ma env h with
  | exc y h1 =>
    rw [z] at p
    exact .inl ⟨μ, h, env, rl, er, by rw [z]; exact p⟩
  | stk =>
    rw [z] at p
    exact p.elim
  | val d h1 =>
    rw [z] at p
    have p' : Po X.mg X.K W (JOk X.K) σ H μ (srcD d h1) R := p
    cases d with
    | tup ds =>
      refine .inr (.inl ⟨μ, h, env, rl, er, ?_⟩)
      rw [z]
      intro v μ1 H1 x1 rl1 r1
      cases r1 with
      | tup s q => exact ⟨_, rfl, ⟨_, s⟩, p' _ μ1 H1 x1 rl1 (JOk.tup s q fun _ _ _ _ => trivial)⟩
    | fl ds =>
      refine .inl ⟨μ, h, env, rl, er, ?_⟩
      rw [z]
      intro v μ1 H1 x1 rl1 r1
      cases r1 with
      | fl s q => exact ⟨_, rfl, ⟨_, s.sq⟩, p' _ μ1 H1 x1 rl1 (JOk.frz s q)⟩
    | str x =>
      refine .inr (.inr ⟨μ, h, env, rl, er, ?_⟩)
      rw [z]
      intro v μ1 H1 x1 rl1 r1
      cases r1
      exact ⟨x, rfl, p' _ μ1 H1 x1 rl1 JOk.str⟩
    | ref n =>
      refine .inl ⟨μ, h, env, rl, er, ?_⟩
      rw [z]
      intro v μ1 H1 x1 rl1 r1
      simp only [srcD] at p'
      split at p'
      · rename_i ds z2
        cases r1 with
        | ref e1 =>
          obtain ⟨vs, h2, _⟩ := lstAt_ok rl1 e1 z2
          exact ⟨_, rfl, ⟨vs, SqL.of h2⟩, p' _ μ1 H1 x1 rl1 (JOk.lst e1)⟩
      · exact p'.elim
    | _ => exact p'.elim
def rangeD (lo : Int) (n : Nat) : List D := (List.range n).map fun i => .int (lo + (i : Nat))
theorem rangeD_get {lo : Int} {n i : Nat} {d : D} (h : (rangeD lo n)[i]? = some d) : i < n ∧ d = .int (lo + (i : Nat)) := by
  unfold rangeD at h
  rw [List.getElem?_map] at h
  obtain ⟨j, h1, rfl⟩ := Option.map_eq_some_iff.mp h
  have h2 : i < n := by
    have := (List.getElem?_eq_some_iff.mp h1).1
    rw [List.length_range] at this
    exact this
  rw [List.getElem?_range h2] at h1
  cases h1
  exact ⟨h2, rfl⟩
theorem JOk.rng {K : PySem.W.Frag} {H : Hp} {μ : List Addr} {lo : Int} {n : Nat} : JOk K H μ (Itr lo n) (.st (rangeD lo n)) := by
  intro H1 μ1 h1 es x rl e
  cases e
  refine ⟨fun i d hi => ?_, fun i hi => ?_⟩
  · obtain ⟨h2, rfl⟩ := rangeD_get hi
    refine ⟨h2, fun y H' hy => ?_⟩
    obtain ⟨rfl, rfl⟩ := hy
    exact ⟨.refl, rl, .int _⟩
  · unfold rangeD at hi
    have hi2 : i = (List.map (fun i : Nat => D.int (lo + (i : Int))) (List.range n)).length := hi
    rw [List.length_map, List.length_range] at hi2
    exact Nat.le_of_eq hi2.symm
def mRng1 (a : ME) : MI := fun env h => (a env h).bind fun d h1 => match d with
  | .int j => .val (.st (rangeD 0 j.toNat)) h1
  | _ => .stk
def mRng2 (a b : ME) : MI := fun env h => (a env h).bind fun x h1 => (b env h1).bind fun y h2 => match x, y with
  | .int i, .int j => .val (.st (rangeD i (j - i).toNat)) h2
  | _, _ => .stk
theorem qi_range1 {tg : Expr} {p : Pos} (hm : X.mg "range" = none) (ha : QE X W a ma) (hg : Gl X "range" := by rfl) (hs : starEach [a] X.env = [(false, eval a X.env)] := by rfl) : QI X W tg (.Call (.Name "range" p) [a] [] pos) (mRng1 ma) :=
  PI.imp (pi_rg1 hg hm (pa_cons ha pa_nil hs) hs) fun σ H R ⟨μ, h, env, rl, er, p⟩ => ⟨μ, h, env, rl, er, Po.then (R := Rp X.K) p fun d h1 v μ1 H1 x1 rl1 rp1 p1 => by
    split at p1
    · cases rp1
      exact ⟨_, rfl, p1 _ _ _ .refl rl1 JOk.rng⟩
    · exact p1.elim⟩
theorem qi_range2 {tg : Expr} {p : Pos} (hm : X.mg "range" = none) (ha : QE X W a ma) (hb : QE X W b mb) (hg : Gl X "range" := by rfl) (hs : starEach [a, b] X.env = [(false, eval a X.env), (false, eval b X.env)] := by rfl) (hs2 : starEach [b] X.env = [(false, eval b X.env)] := by rfl) :
    QI X W tg (.Call (.Name "range" p) [a, b] [] pos) (mRng2 ma mb) :=
  PI.imp (pi_rg2 hg hm (pa_cons ha (pa_cons hb pa_nil hs2) (by rw [hs, hs2])) hs hs2) fun σ H R ⟨μ, h, env, rl, er, p⟩ => ⟨μ, h, env, rl, er, Po.then (R := Rp X.K) p fun d h1 v μ1 H1 x1 rl1 rp1 p1 => ⟨μ1, h1, env, rl1, er.mono x1, Po.then (R := Rp X.K) p1 fun e h2 v2 μ2 H2 x2 rl2 rp2 p2 => by
    split at p2
    · have rp1' := rp1.mono x2
      cases rp1'
      cases rp2
      exact ⟨_, _, rfl, p2 _ _ _ .refl rl2 JOk.rng⟩
    · exact p2.elim⟩⟩
def enumD (i : Nat) : List D → List D
  | [] => []
  | d :: ds => .tup [.int (i : Nat), d] :: enumD (i + 1) ds
theorem enumD_length : ∀ (ds : List D) (i : Nat), (enumD i ds).length = ds.length
  | [], _ => rfl
  | d :: ds, i => by
    unfold enumD
    rw [List.length_cons, List.length_cons, enumD_length ds]
theorem enumD_get : ∀ {ds : List D} {i k : Nat} {e : D}, (enumD k ds)[i]? = some e → ∃ d, ds[i]? = some d ∧ e = .tup [.int ((k + i : Nat) : Int), d]
  | [], i, k, e, h => by
    unfold enumD at h
    simp at h
  | d :: ds, 0, k, e, h => by
    unfold enumD at h
    simp at h
    subst h
    exact ⟨d, rfl, by rw [Nat.add_zero]⟩
  | d :: ds, i + 1, k, e, h => by
    unfold enumD at h
    obtain ⟨d', h1, h2⟩ := enumD_get (ds := ds) (i := i) (k := k + 1) (e := e) (by simpa using h)
    exact ⟨d', by simpa using h1, by rw [h2, show k + 1 + i = k + (i + 1) by omega]⟩
def enSrc (d : D) (h : IH) : Res Src := match d with
  | .tup ds => .val (.st (enumD 0 ds)) h
  | .str z => .val (.st (enumD 0 (signsD z))) h
  | .fl ds => .val (.st (enumD 0 ds)) h
  | .ref n => match lstAt h n with
    | some _ => .val (.lv fun h => (lstAt h n).map (enumD 0)) h
    | none => .stk
  | _ => .stk
def mEn (a : ME) : MI := fun env h => (a env h).bind enSrc
theorem new_pair {K : PySem.W.Frag} {H : Hp} {μ : List Addr} {h : IH} {T : Addr} {i : Nat} {v : V} {d : D} (rl : Rl K H μ h) (hT : H T = none) (r : Rp K H μ v d) : Ext K H μ (upd H T (.tup [.int (i : Nat), v])) μ ∧ Rl K (upd H T (.tup [.int (i : Nat), v])) μ h ∧ Rp K (upd H T (.tup [.int (i : Nat), v])) μ (.ref T) (.tup [.int ((0 + i : Nat) : Int), d]) := by
  rw [Nat.zero_add]
  exact new_tup rl (.cons (.int _) (.cons r .nil)) hT
theorem qi_enum {elts : List Expr} {kk : Nat} {tpos p : Pos} (hm : X.mg "enumerate" = none) (ha : QE X W a ma) (hg : Gl X "enumerate" := by rfl) (hs : starEach [a] X.env = [(false, eval a X.env)] := by rfl) : QI X W (.Tuple elts kk tpos) (.Call (.Name "enumerate" p) [a] [] pos) (mEn ma) :=
  PI.imp (PI.or (pi_enum hg hm (pa_cons ha pa_nil hs) hs) (PI.or (pi_enT hg hm (pa_cons ha pa_nil hs) hs) (pi_enS hg hm (pa_cons ha pa_nil hs) hs))) fun σ H R ⟨μ, h, env, rl, er, p⟩ => by
  unfold mEn at p
  cases z : ma env h with
  | exc y h1 =>
    rw [z] at p
    exact .inl ⟨μ, h, env, rl, er, by rw [z]; exact p⟩
  | stk =>
    rw [z] at p
    exact p.elim
  | val d h1 =>
    rw [z] at p
    have p' : Po X.mg X.K W (JOk X.K) σ H μ (enSrc d h1) R := p
    cases d with
    | tup ds =>
      refine .inr (.inl ⟨μ, h, env, rl, er, ?_⟩)
      rw [z]
      intro v μ1 H1 x1 rl1 r1
      cases r1 with
      | tup s q =>
        refine ⟨_, _, rfl, s, p' _ μ1 H1 x1 rl1 ?_⟩
        intro H2 μ2 h2 es x rl2 e
        cases e
        have s2 := x.tup _ _ s
        have q2 := q.mono x
        refine ⟨fun i d hi => ?_, fun i hi => ?_⟩
        · obtain ⟨d', e1, rfl⟩ := enumD_get hi
          obtain ⟨v, e2, e3⟩ := q2.get e1
          refine ⟨⟨_, v, s2, e2⟩, fun y H' hy => ?_⟩
          obtain ⟨T, w, rfl, hT, rfl, hw⟩ := hy
          have := hw _ s2
          rw [e2] at this
          cases this
          exact new_pair rl2 hT e3
        · refine ⟨_, s2, ?_⟩
          have hi2 : i = (enumD 0 ds).length := hi
          rw [enumD_length] at hi2
          rw [q.length]
          exact hi2.symm
    | fl ds =>
      refine .inl ⟨μ, h, env, rl, er, ?_⟩
      rw [z]
      intro v μ1 H1 x1 rl1 r1
      cases r1 with
      | fl s q =>
        refine ⟨_, _, rfl, s.sq, p' _ μ1 H1 x1 rl1 ?_⟩
        intro H2 μ2 h2 es x rl2 e
        cases e
        have s2 := (x.frz _ _ s).sq
        have q2 := q.mono x
        refine ⟨fun i d hi => ?_, fun i hi => ⟨_, s2, by rw [q.length, ← enumD_length _ 0]; exact Nat.le_of_eq (show i = (enumD 0 ds).length from hi).symm⟩⟩
        obtain ⟨d', e1, rfl⟩ := enumD_get hi
        obtain ⟨v, e2, e3⟩ := q2.get e1
        refine ⟨⟨_, v, s2, e2⟩, fun y H' hy => ?_⟩
        obtain ⟨T, w, rfl, hT, rfl, hw⟩ := hy
        have := hw _ s2
        rw [e2] at this
        cases this
        exact new_pair rl2 hT e3
    | str x =>
      refine .inr (.inr ⟨μ, h, env, rl, er, ?_⟩)
      rw [z]
      intro v μ1 H1 x1 rl1 r1
      cases r1
      refine ⟨x, rfl, p' _ μ1 H1 x1 rl1 ?_⟩
      intro H2 μ2 h2 es x2 rl2 e
      cases e
      refine ⟨fun i d hi => ?_, fun i hi => ?_⟩
      · obtain ⟨d', e1, rfl⟩ := enumD_get hi
        unfold signsD at e1
        rw [List.getElem?_map] at e1
        obtain ⟨c, e2, rfl⟩ := Option.map_eq_some_iff.mp e1
        have e3 : x.cps[i]? = some c := by simpa using e2
        have h4 : i < x.cps.size := (Array.getElem?_eq_some_iff.mp e3).1
        refine ⟨h4, fun y H' hy => ?_⟩
        obtain ⟨T, w, rfl, hT, rfl, hw⟩ := hy
        rw [e3] at hw
        cases hw
        exact new_pair rl2 hT (.str _)
      · have hi2 : i = (enumD 0 (signsD x)).length := hi
        rw [enumD_length] at hi2
        unfold signsD at hi2
        rw [List.length_map, Array.length_toList] at hi2
        exact hi2
    | ref n =>
      refine .inl ⟨μ, h, env, rl, er, ?_⟩
      rw [z]
      intro v μ1 H1 x1 rl1 r1
      simp only [enSrc] at p'
      split at p'
      · rename_i ds z2
        cases r1 with
        | ref e1 =>
          obtain ⟨vs, h2, _⟩ := lstAt_ok rl1 e1 z2
          refine ⟨_, _, rfl, SqL.of h2, p' _ μ1 H1 x1 rl1 ?_⟩
          intro H2 μ2 h2 es x rl2 e
          obtain ⟨fs, e3, rfl⟩ := Option.map_eq_some_iff.mp e
          obtain ⟨ws, h3, q2⟩ := lstAt_ok rl2 (x.pre _ _ e1) e3
          have s2 : SqL X.K H2 _ ws := SqL.of h3
          refine ⟨fun i d hi => ?_, fun i hi => ⟨_, s2, by rw [q2.length, ← enumD_length _ 0]; exact hi⟩⟩
          obtain ⟨d', e1, rfl⟩ := enumD_get hi
          obtain ⟨v, e2, e3⟩ := q2.get e1
          refine ⟨⟨_, v, s2, e2⟩, fun y H' hy => ?_⟩
          obtain ⟨T, w, rfl, hT, rfl, hw⟩ := hy
          have := hw _ s2
          rw [e2] at this
          cases this
          exact new_pair rl2 hT e3
      · exact p'.elim
    | _ => exact p'.elim
end
end DD
set_option Elab.async false
set_option linter.all false
set_option maxRecDepth 100000
namespace DD
open PySem PySem.Spec L2 PyProof.Rows

theorem lawG {P : Program} {w : World} {K : PySem.W.Frag} {mg mb : MG} {k : Nat} {fa a : Addr} {fd : FuncData} {x : Str} {sp : Sp} {t : Shared} {vs : List Value} {ns : List Int}
    (KI : K.In t.heap) (gn : t.heap.Ns mainGlobals mg) (bn : t.heap.Ns builtinsNs mb) (bb : ∀ y : Str, y ≠ "__name__" → mb y = bootBuiltins y) (nl : t.heap.NoLimit) (g0 : t.gens = #[])
    (ha : t.heap.get? a = some { cls := .type "list", data := .seq vs.toArray }) (hi : IntsAre vs ns) (hl : ns.length ≤ sizeLine) (ro : Room k callerA)
    (F : ∀ base : Heap, K.In base → base.Ns mainGlobals mg → FnG P w K mg base k fa fd [x] sp) (bi : ∀ (s : Shared) (u : Value), BindsTo s fd ⟨[u], []⟩ [(x, u)])
    (hs : ∀ H : Hp, Only H → SqL K H a (ns.map V.int) → sp [.ref a] H (fun v _ => v = .bl true) fun _ _ _ => False) :
    codeAny (model P w) callerA (.call (.ref fa) ⟨[.ref a], []⟩) (fun r t' => r = .ok (.ret (.bool true)) ∧ OldK t.heap t'.heap ∧ t'.os = t.os ∧ AllBare t'.gens) t := by
  have rv := vals_ints hi
  have lv := hi.length
  have main : ∀ H : Hp, Only H → SqL K H a (ns.map V.int) → HOk P w H t.heap → (∀ b, H b ≠ none → b = a) → (H a ≠ none → K.lookup a = none) →
      codeAny (model P w) callerA (.call (.ref fa) ⟨[.ref a], []⟩) (fun r t' => r = .ok (.ret (.bool true)) ∧ OldK t.heap t'.heap ∧ t'.os = t.os ∧ AllBare t'.gens) t := by
    intro H oH sH hk oA kA
    have noD : ∀ {b : Addr} {o : Obj} {es : Array DictEntry} {ep : Nat}, t.heap.get? b = some o → o.data = .dict es ep → H b = none := fun {b o es ep} e d => by
      cases q : H b with
      | none => rfl
      | some u =>
        have z : b = a := oA b (by rw [q]; simp)
        subst z
        rw [ha] at e
        cases e
        have d2 : Data.seq vs.toArray _ = Data.dict es ep := d
        cases d2
    have nk : ∀ {b : Addr} {m : Str → Option Value}, t.heap.Ns b m → (hidT t.heap H).Ns b m := fun {b m} ⟨o, es, ep, e, d, r⟩ => ⟨o, es, ep, hidT_get e (noD e d), d, r⟩
    have kb : K.In (hidT t.heap H) := fun b o e => hidT_get (KI b o e) (by
      cases q : H b with
      | none => rfl
      | some u =>
        have z : b = a := oA b (by rw [q]; simp)
        subst z
        rw [kA (by rw [q]; simp)] at e
        cases e)
    have mo : Mod K mg (hidT t.heap H) := ⟨kb, nk gn, ⟨mb, nk bn, bb⟩, let ⟨mc, z1, z2⟩ := nl; ⟨mc, nk z1, z2⟩⟩
    have en : Env0 P w K mg (hidT t.heap H) callerA [] t H := ⟨rfl, mo, fun b o e => of_hidT e, Nat.le_of_eq (hidT_size _ _), trivial, fun b z => absurd (show b ∈ ([] : List Addr) from z) (by simp), hk, .of_eq g0⟩
    refine codeAny_mono ((F _ kb (nk gn)).run callerA [] t H ⟨[.ref a], []⟩ [.ref a] [.ref a] _ _ rfl ro en (bi t (.ref a)) (.cons rfl .nil) (hs H oH sH)) fun r t' hz => ?_
    cases r with
    | error e =>
      obtain ⟨_, _, _, _, _, _, _, _, _, _, _, _, z⟩ := hz
      exact z.elim
    | ok fl =>
      cases fl with
      | next => exact hz.elim
      | brk => exact hz.elim
      | cont => exact hz.elim
      | ret u =>
        obtain ⟨v, H2, os, bare, un, hk2, r2, q⟩ := hz
        have q2 : v = .bl true := q
        subst q2
        obtain rfl : u = Value.bool true := r2
        refine ⟨rfl, OldK.of_keep fun b o e => ?_, os, bare⟩
        cases q : H b with
        | none => exact un.keep b o e q (by intro z; exact absurd (show b ∈ ([] : List Addr) from z) (by simp)) (by simp)
        | some u =>
          rcases oH b with z | ⟨ob, xs, z⟩
          · rw [q] at z
            cases z
          · have z2 := un.frzs b ob _ z
            obtain ⟨e1, _⟩ := hk b _ z
            obtain ⟨e2, _⟩ := hk2 b _ z2
            rw [e] at e1
            cases e1
            exact e2
  cases kz : K.lookup a with
  | some o =>
    have e := KI a o kz
    rw [ha] at e
    cases e
    refine main (fun _ => none) (fun _ => .inl rfl) (.inr ⟨_, vs.toArray, _, kz, rfl, rfl, rfl, by rw [List.size_toArray, lv]; exact hl, by simpa using rv⟩) (fun b u z => ?_) (fun b z => absurd rfl z) fun z => absurd rfl z
    have z2 : (none : Option HO) = some u := z
    cases z2
  | none =>
    refine main (fun b => if b = a then some (.frz { cls := .type "list", data := .seq vs.toArray } (.lst (ns.map V.int))) else none) (fun b => ?_) (.inl (.inr ⟨{ cls := .type "list", data := .seq vs.toArray }, if_pos rfl⟩)) (fun b u z => ?_) (fun b z => ?_) fun _ => kz
    · by_cases hb : b = a
      · exact .inr ⟨_, _, if_pos hb⟩
      · exact .inl (if_neg hb)
    · by_cases hb : b = a
      · have z2 := (if_pos hb).symm.trans z
        cases z2
        subst hb
        exact ⟨ha, by rw [List.length_map]; exact hl, vs, _, rv, ha⟩
      · have z2 := (if_neg hb).symm.trans z
        cases z2
    · by_cases hb : b = a
      · exact hb
      · exact absurd (if_neg hb) z
/-- the script as data -/
abbrev scr (ns : List Int) : D := .fl (ns.map D.int)
theorem rps_ints {K : PySem.W.Frag} {H : Hp} {μ : List Addr} : ∀ ns : List Int, Rps K H μ (ns.map V.int) (ns.map D.int)
  | [] => .nil
  | n :: ns => .cons (.int n) (rps_ints ns)
theorem sp_law {mg : MG} {K : PySem.W.Frag} {m : List D → IH → Res D} {H : Hp} {a : Addr} {ns : List Int} (oH : Only H) (s : SqL K H a (ns.map V.int)) (hm : ∃ h', m [scr ns] [] = .val (.bl true) h') : spM mg K m 1 [.ref a] H (fun v _ => v = .bl true) fun _ _ _ => False := by
  have f : FrzL K H a (ns.map V.int) := by
    rcases s with (s | s) | s
    · rcases oH a with z | ⟨o, xs, z⟩
      · rw [s] at z
        cases z
      · rw [s] at z
        cases z
    · exact .inl s
    · exact .inr s
  refine ⟨rfl, [], [], [scr ns], ⟨List.nodup_nil, rfl, fun n a o e => by simp at e⟩, .cons (.fl f (rps_ints ns)) .nil, ?_⟩
  obtain ⟨h', e⟩ := hm
  rw [e]
  intro v μ' H' x rl r
  exact r.bl_inv
theorem walk_G {l : PySem.W.OpenLaw} {n k : Nat} {q : Program} {loose : List Str} {XP : MG → Heap → Prop} {YP : World → Heap → Prop} {d : DefRec} {x : Str}
    (hn : l.most = some n) (hn2 : n ≤ sizeLine) (hdf : d.params.defaults = []) (ro : Room k callerA)
    (F : ∀ (w : World) (mg : MG) (fa : Addr) (h : Heap), YP w h → h.Ns mainGlobals mg → mg d.name = some (.ref fa) →
      ∃ (K : PySem.W.Frag) (fd : FuncData) (m : List D → IH → Res D), K.In h ∧ (∀ (s : Shared) (u : Value), BindsTo s fd ⟨[u], []⟩ [(x, u)]) ∧ (∀ ns : List Int, ns.length ≤ n → ∃ h', m [scr ns] [] = .val (.bl true) h') ∧
        ∀ base : Heap, K.In base → base.Ns mainGlobals mg → FnG l.prog w K mg base k fa fd [x] (spM mg K m 1)) :
    PySem.W.WalkO q loose XP YP l.row.toRowW d [] (fun f vs => PySem.call f vs) := by
  refine Att.attach_call hn hdf fun w s0 s1 mg mb fa o pm cd doc a vs ns G Y ho hd hcd hmg hobj hints hlen hg => ?_
  obtain ⟨K, fd, m, KX, hb, hm, hF⟩ := F w mg fa _ Y G.T.g hmg
  exact lawG KX G.T.g G.T.b G.T.builtins G.T.nolimit hg hobj hints (Nat.le_trans hlen hn2) ro hF hb fun H hO hS => sp_law hO hS (hm ns hlen)
end DD
set_option Elab.async false
set_option linter.all false
set_option maxRecDepth 100000
namespace DD
open PySem PySem.Spec L2 PyProof.Rows
section
variable {P : Program} {w : World} {K : PySem.W.Frag} {mg : MG} {base : Heap} {k : Nat} {x : Str} {st : Stmt} {f : Addr} {fd : FuncData} {N ps : List Str} {m : MS}
theorem FunD.toFun (F : FunD K x x (defArgs st) (defBody st) (defScope st) [] [] f fd) : Fun K x x st f fd := by
  obtain ⟨oc, od, dV, kV, doc, pm, an, cdv, ct, osl, e, lk, hc, hD, hK⟩ := F.ex
  rcases hD with ⟨_, rfl⟩ | ⟨z, _⟩
  · exact ⟨⟨oc, od, kV, doc, pm, an, cdv, ct, osl, e, lk, hc⟩, F.kp⟩
  · exact absurd rfl z
theorem mk_fnG (F : FunD K x x (defArgs st) (defBody st) (defScope st) [] [] f fd) (S : FnScope N ps (defScope st))
    (hb : ∀ (cv : Value) (A : Around) (out : List Env) (s : Shared) (H : Hp) (E : XK), Ctx (cxOf (CX P w) P w K mg base N x (defScope st) f cv A out s H E) (fun c d _ H' => E c d H') k →
      QSs (cxOf (CX P w) P w K mg base N x (defScope st) f cv A out s H E) (fun c d _ H' => E c d H') (defBody st) m) :
    FnG P w K mg base (k + 1) f fd ps (spM mg K (mBody N.length m) ps.length) := fn_ok (FunD.toFun F) S hb
theorem mk_fn (F : FunD K x x (defArgs st) (defBody st) (defScope st) [] [] f fd) (S : FnScope N ps (defScope st)) (hm : mg x = some (.ref f))
    (h : ∀ (kV doc pm : Value) (an : Option Addr) (cdv ct : Value) (us : List Value), us.length = ps.length → bindArgs (PySem.W.fnOf x x (defArgs st) (defBody st) (defScope st) .none kV doc pm an cdv ct) ⟨us, []⟩ = pure (ps.zip us))
    (hb : ∀ (cv : Value) (A : Around) (out : List Env) (s : Shared) (H : Hp) (E : XK), Ctx (cxOf (CX P w) P w K mg base N x (defScope st) f cv A out s H E) (fun c d _ H' => E c d H') k →
      QSs (cxOf (CX P w) P w K mg base N x (defScope st) f cv A out s H E) (fun c d _ H' => E c d H') (defBody st) m) :
    Fn P w K mg base (k + 1) x (mBody N.length m) ps.length := ⟨⟨f, fd, ps, mk_fnG F S hb, hm, F.kp, FunD.bindsN F h⟩⟩
end
section
variable {X : Cx} {W : WX} {pos : Pos}
theorem qe_gint {x : Str} {i : Int} (h : ∃ t, X.mg x = some (.int i t)) (hg : Gl X x := by rfl) (hd : (x == ("__debug__" : Str)) = false := by decide) : QE X W (.Name x pos) (mC (.int i)) := by
  obtain ⟨t, h⟩ := h
  exact qe_glob (v := .int i) h ⟨t, rfl⟩ (fun _ _ => .int i) hg hd
theorem qe_gstr {x z : Str} (h : ∃ t, X.mg x = some (.str z t)) (hg : Gl X x := by rfl) (hd : (x == ("__debug__" : Str)) = false := by decide) : QE X W (.Name x pos) (mC (.str z)) := by
  obtain ⟨t, h⟩ := h
  exact qe_glob (v := .str z) h ⟨t, rfl⟩ (fun _ _ => .str z) hg hd
theorem qe_call0 {k j : Nat} {x : Str} {m : List D → IH → Res D} {p : Pos} (C : Ctx X W k) (F : Fn X.prog X.w X.K X.mg X.base j x m 0) (hj : j ≤ k := by decide) (hg : Gl X x := by rfl) (hdb : (x == ("__debug__" : Str)) = false := by decide) : QE X W (.Call (.Name x p) [] [] pos) (mCall m mNil) := by
  obtain ⟨f, fd, ps, G, hm, hk, hb⟩ := F.ex
  refine ⟨fun pins s σ H Q I ⟨μ, h, env, rl, er, po⟩ => ?_⟩
  refine wpAny_Call_Name_kw (ld_glob I hg hm ?_ hdb)
  have pa : spM X.mg X.K m 0 [] H Q (WE W σ) := by
    refine ⟨rfl, μ, h, [], rl, .nil, ?_⟩
    have po2 : Po X.mg X.K W (Rp X.K) σ H μ (m [] h) Q := po
    revert po2
    cases m [] h with
    | val d h2 => exact fun q => q
    | exc y h2 => exact fun q => q
    | stk => exact fun q => q
  exact PySem.W.callWith_K0 I.kIn hk (run_fnG G C.gd (C.room.mono hj) hb (passAt C.tk σ) I .nil pa)
/-- x += e: ints, texts -/
def pyIAdd : D → D → IH → Res D
  | .int i, .int j, h => .val (.int (i + j)) h
  | .str x, .str y, h => if x.length + y.length ≤ sizeLine then .val (.str (x ++ y)) h else .stk
  | _, _, _ => .stk
def rIAdd : R2 := fun x y H Q => rI0 (fun i j => .int (i + j)) x y H Q ∨ ∃ i j, x = .str i ∧ y = .str j ∧ i.length + j.length ≤ sizeLine ∧ Q (.str (i ++ j)) H
theorem ip_addD : PIp X .Add rIAdd := OpR.or iop_add iop_add_str
theorem sd_ipadd : Sd2 X rIAdd pyIAdd := by
  intro W σ x y a b H μ h Q rl ra rb p
  cases ra with
  | int i =>
    cases rb <;> first | exact p.elim | skip
    exact .inl ⟨_, _, rfl, rfl, p.at rl (.int _)⟩
  | str i =>
    cases rb <;> first | exact p.elim | skip
    simp only [pyIAdd] at p
    split at p
    · exact .inr ⟨_, _, rfl, rfl, by assumption, p.at rl (.str _)⟩
    · exact p.elim
  | _ => exact p.elim
theorem sd_ipsub : Sd2 X (ipI fun i j => i - j) pySub := by
  intro W σ x y a b H μ h Q rl ra rb p
  cases ra <;> first | exact p.elim | skip
  cases rb <;> first | exact p.elim | skip
  exact ⟨_, _, rfl, rfl, p.at rl (.int _)⟩
end
end DD
set_option Elab.async false
set_option linter.all false
set_option maxRecDepth 100000
/-! lemmas for running the data functions on letters -/
namespace DD
open PySem L2
theorem na10 : Int.natAbs 10 = 10 := rfl
theorem na2 : Int.natAbs 2 = 2 := rfl
theorem lstAt_last (h : IH) (ys : List D) : lstAt (h ++ [.lst ys]) h.length = some ys := by
  unfold lstAt
  rw [List.getElem?_append_right (Nat.le_refl _), Nat.sub_self]
  rfl
theorem getE_app {h : IH} {n : Nat} {o : IO} (e : h[n]? = some o) (g : IH) : (h ++ g)[n]? = some o := by
  rw [List.getElem?_append_left (List.getElem?_eq_some_iff.mp e).1]
  exact e
theorem lstAt_app {h : IH} {n : Nat} {ys : List D} (e : lstAt h n = some ys) (g : IH) : lstAt (h ++ g) n = some ys := by
  unfold lstAt at e ⊢
  split at e
  · rename_i ds z
    rw [getE_app z g]
    exact e
  · cases e
theorem mapO_map {α β γ : Type} {f : β → Option γ} {g : α → β} {k : α → γ} : ∀ {xs : List α}, (∀ x ∈ xs, f (g x) = some (k x)) → mapO f (xs.map g) = some (xs.map k)
  | [], _ => rfl
  | x :: xs, h => by
    show (match f (g x), mapO f (xs.map g) with
      | some a, some b => some (a :: b)
      | _, _ => none) = _
    rw [h x List.mem_cons_self, mapO_map fun y hy => h y (List.mem_cons_of_mem _ hy)]
    rfl
theorem intsD_map (ns : List Int) : intsD (ns.map D.int) = some ns := by
  have := mapO_map (f := fun d => match d with
    | D.int i => some i
    | _ => none) (g := D.int) (k := id) (xs := ns) fun x _ => rfl
  rw [List.map_id] at this
  exact this
theorem boolsD_map (ns : List Bool) : boolsD (ns.map D.bl) = some ns := by
  have := mapO_map (f := fun d => match d with
    | D.bl i => some i
    | _ => none) (g := D.bl) (k := id) (xs := ns) fun x _ => rfl
  rw [List.map_id] at this
  exact this
/-- a for loop by what holds between two turns: I of the items that are left -/
theorem forS_inv {t : MTg} {b : MS} (I : List D → En → IH → Prop)
    (step : ∀ d ds env h, I (d :: ds) env h → ∃ e1 h1 e2 h2, t d env h = some (e1, h1) ∧ (b e1 h1 = .nx e2 h2 ∨ b e1 h1 = .ct e2 h2) ∧ I ds e2 h2) : ∀ ds env h, I ds env h → ∃ e2 h2, forS t b ds env h = .nx e2 h2 ∧ I [] e2 h2
  | [], env, h, i => ⟨env, h, rfl, i⟩
  | d :: ds, env, h, i => by
    obtain ⟨e1, h1, e2, h2, z1, z2, i2⟩ := step d ds env h i
    obtain ⟨e3, h3, z3, i3⟩ := forS_inv I step ds e2 h2 i2
    refine ⟨e3, h3, ?_, i3⟩
    rcases z2 with z2 | z2 <;> simp only [forS, z1, z2, z3]
/-- a comprehension without ifs: J of the heap, R of an item and its value -/
theorem lcS_inv {t : MTg} {c : MT} {e : ME} {env : En} (J : IH → Prop) (R : D → D → Prop) {ds0 : List D}
    (step : ∀ d ∈ ds0, ∀ h, J h → ∃ e1 h1 h2 y h3, t d env h = some (e1, h1) ∧ c e1 h1 = .val true h2 ∧ e e1 h2 = .val y h3 ∧ R d y ∧ J h3) :
    ∀ (ds acc : List D) h, (∀ d ∈ ds, d ∈ ds0) → acc.length + ds.length ≤ sizeLine → J h → ∃ ys h2, lcS t c e env ds acc h = .val (acc ++ ys) h2 ∧ Paired R ds ys ∧ J h2
  | [], acc, h, _, _, j => ⟨[], h, by simp only [lcS, List.append_nil], .nil, j⟩
  | d :: ds, acc, h, hs, hl, j => by
    obtain ⟨e1, h1, h2, y, h3, z1, z2, z3, r, j3⟩ := step d (hs d List.mem_cons_self) h j
    rw [List.length_cons] at hl
    obtain ⟨ys, h4, z4, r4, j4⟩ := lcS_inv J R step ds (acc ++ [y]) h3 (fun x hx => hs x (List.mem_cons_of_mem _ hx)) (by rw [List.length_append, List.length_singleton]; omega) j3
    refine ⟨y :: ys, h4, ?_, .cons r r4, j4⟩
    have hlt : acc.length < sizeLine := by omega
    simp only [lcS, lcT, z1, z2, z3, if_pos hlt, z4, List.append_assoc, List.cons_append, List.nil_append]
/-- .. where each item's value is told, the heap growing -/
theorem lcS_map {t : MTg} {c : MT} {e : ME} {env : En} {α : Type} (g : α → D) (f : α → D) {xs : List α} {h0 : IH}
    (step : ∀ x ∈ xs, ∀ q, ∃ e1 q', t (g x) env (h0 ++ q) = some (e1, h0 ++ q) ∧ c e1 (h0 ++ q) = .val true (h0 ++ q) ∧ e e1 (h0 ++ q) = .val (f x) (h0 ++ q')) (hl : xs.length ≤ sizeLine) :
    ∃ q', lcS t c e env (xs.map g) [] h0 = .val (xs.map f) (h0 ++ q') := by
  have key : ∀ (ys : List α) (acc : List D) (q : IH), (∀ y ∈ ys, y ∈ xs) → acc.length + ys.length ≤ sizeLine → ∃ q', lcS t c e env (ys.map g) acc (h0 ++ q) = .val (acc ++ ys.map f) (h0 ++ q') := by
    intro ys
    induction ys with
    | nil => exact fun acc q _ _ => ⟨q, by simp only [List.map_nil, lcS, List.append_nil]⟩
    | cons y ys ih =>
      intro acc q hs hz
      rw [List.length_cons] at hz
      obtain ⟨e1, q1, z1, z2, z3⟩ := step y (hs y List.mem_cons_self) q
      obtain ⟨q2, z4⟩ := ih (acc ++ [f y]) q1 (fun x hx => hs x (List.mem_cons_of_mem _ hx)) (by rw [List.length_append, List.length_singleton]; omega)
      refine ⟨q2, ?_⟩
      have hlt : acc.length < sizeLine := by omega
      simp only [List.map_cons, lcS, lcT, z1, z2, z3, if_pos hlt, z4, List.append_assoc, List.cons_append, List.nil_append]
  obtain ⟨q', z⟩ := key xs [] [] (fun _ h => h) (by simpa using hl)
  rw [List.append_nil, List.nil_append] at z
  exact ⟨q', z⟩
theorem rangeD_map (lo : Int) (n : Nat) : rangeD lo n = (List.range n).map (fun i : Nat => D.int (lo + (i : Int))) := rfl
/-! ### pairs of ints by order -/
abbrev prD (a b : Int) : PyData := .tuple [.int a, .int b]
theorem lt_prD (a b c d : Int) : PySem.W.dataLt (prD a b) (prD c d) = (decide (a < c) || (decide (a = c) && decide (b < d))) := by
  rw [PySem.W.dataLt_tuple]
  by_cases h : a = c
  · subst h
    rw [PySem.W.dataLt_all_yes (by simp [PySem.W.alike]) (by simp [PyData.eqv])]
    by_cases h2 : b = d
    · subst h2
      rw [PySem.W.dataLt_all_yes (by simp [PySem.W.alike]) (by simp [PyData.eqv])]
      simp [PySem.W.keyToksAll]
      rfl
    · rw [PySem.W.dataLt_all_no (by simp [PySem.W.alike]) (by simp [PyData.eqv, h2]), PySem.W.dataLt_int]
      simp
  · rw [PySem.W.dataLt_all_no (by simp [PySem.W.alike]) (by simp [PyData.eqv, h]), PySem.W.dataLt_int]
    simp [h]
/-- the least begin with the least value -/
def IsFirst (f : Int → Int) (lo hi b : Int) : Prop := lo ≤ b ∧ b ≤ hi ∧ (∀ c, lo ≤ c → c ≤ hi → f b ≤ f c) ∧ ∀ c, lo ≤ c → c < b → f b < f c
theorem IsFirst.uniq {f : Int → Int} {lo hi b c : Int} (x : IsFirst f lo hi b) (y : IsFirst f lo hi c) : b = c := by
  obtain ⟨a1, a2, a3, a4⟩ := x
  obtain ⟨b1, b2, b3, b4⟩ := y
  rcases Int.lt_trichotomy b c with h | h | h
  · have := b4 b a1 h
    have := a3 c b1 b2
    omega
  · exact h
  · have := a4 c b1 h
    have := b3 b a1 a2
    omega
theorem minD_first (f : Int → Int) (lo : Int) : ∀ (n : Nat), ∃ b, PySem.W.minD (prD (f lo) lo) ((List.range n).map fun i : Nat => prD (f (lo + 1 + (i : Int))) (lo + 1 + (i : Int))) = prD (f b) b ∧ IsFirst f lo (lo + n) b
  | 0 => ⟨lo, rfl, Int.le_refl _, by omega, fun c h1 h2 => by
      have : c = lo := by omega
      rw [this]
      exact Int.le_refl _, fun c h1 h2 => by omega⟩
  | n + 1 => by
    obtain ⟨b, e, h1, h2, h3, h4⟩ := minD_first f lo n
    unfold PySem.W.minD at e ⊢
    rw [List.range_succ, List.map_append, List.foldl_append, e, List.map_singleton, List.foldl_cons, List.foldl_nil, lt_prD]
    have e3 : lo + 1 + (n : Int) = lo + ((n + 1 : Nat) : Int) := by omega
    by_cases h : f (lo + 1 + (n : Int)) < f b
    · refine ⟨lo + 1 + (n : Int), by simp [h], by omega, by omega, fun c c1 c2 => ?_, fun c c1 c2 => ?_⟩
      · by_cases z : c ≤ lo + n
        · have := h3 c c1 z
          omega
        · have : c = lo + 1 + (n : Int) := by omega
          rw [this]
          exact Int.le_refl _
      · have := h3 c c1 (by omega)
        omega
    · refine ⟨b, ?_, h1, by omega, fun c c1 c2 => ?_, h4⟩
      · have z : ¬ (f (lo + 1 + (n : Int)) = f b ∧ lo + 1 + (n : Int) < b) := by omega
        have z2 : (decide (f (lo + 1 + (n : Int)) < f b) || (decide (f (lo + 1 + (n : Int)) = f b) && decide (lo + 1 + (n : Int) < b))) = false := by
          simp only [Bool.or_eq_false_iff, Bool.and_eq_false_iff, decide_eq_false_iff_not]
          omega
        rw [z2]
        rfl
      · by_cases z : c ≤ lo + n
        · exact h3 c c1 z
        · have : c = lo + 1 + (n : Int) := by omega
          rw [this]
          omega
theorem alikeB_pairs {α : Type} (f g : α → Int) (xs : List α) : alikeB (xs.map fun x => prD (f x) (g x)) = true := by
  unfold alikeB
  rw [Bool.and_eq_true]
  refine ⟨List.all_eq_true.mpr fun x hx => List.all_eq_true.mpr fun y hy => ?_, List.all_eq_true.mpr fun x hx => ?_⟩
  · obtain ⟨a, _, rfl⟩ := List.mem_map.mp hx
    obtain ⟨b, _, rfl⟩ := List.mem_map.mp hy
    simp [PySem.W.alike, PySem.W.alikeAll]
  · obtain ⟨a, _, rfl⟩ := List.mem_map.mp hx
    rfl
theorem canLay_pairs {α : Type} (f g : α → Int) : ∀ xs : List α, PyData.canLayAll0 (xs.map fun x => prD (f x) (g x)) = true
  | [] => rfl
  | x :: xs => by
    rw [List.map_cons, PyData.canLayAll0, canLay_pairs f g xs]
    simp [PyData.canLay0, PyData.canLayAll0]
theorem depth_pairs {α : Type} (f g : α → Int) : ∀ xs : List α, PyData.depthAll (xs.map fun x => prD (f x) (g x)) ≤ 60
  | [] => by simp [PyData.depthAll]
  | x :: xs => by
    have ih := depth_pairs f g xs
    rw [List.map_cons, PyData.depthAll]
    simp only [PyData.depth, PyData.depthAll]
    omega
/-- min of a list of pairs (f b, b), b going up by ones -/
theorem bestO_first (f : Int → Int) (lo : Int) (n : Nat) (h : IH) : ∃ b, bestO PySem.W.minD h ((List.range (n + 1)).map fun i : Nat => D.tup [.int (f (lo + (i : Int))), .int (lo + (i : Int))]) = some (.tup [.int (f b), .int b]) ∧ IsFirst f lo (lo + n) b := by
  obtain ⟨b, e, hb⟩ := minD_first f lo n
  refine ⟨b, ?_, hb⟩
  unfold bestO
  have e1 : mapO (toPy 12 h) ((List.range (n + 1)).map fun i : Nat => D.tup [.int (f (lo + (i : Int))), .int (lo + (i : Int))]) = some ((List.range (n + 1)).map fun i : Nat => prD (f (lo + (i : Int))) (lo + (i : Int))) := mapO_map fun x _ => rfl
  have e2 : (List.range (n + 1)).map (fun i : Nat => prD (f (lo + (i : Int))) (lo + (i : Int))) = prD (f lo) lo :: (List.range n).map fun i : Nat => prD (f (lo + 1 + (i : Int))) (lo + 1 + (i : Int)) := by
    rw [List.range_succ_eq_map, List.map_cons, List.map_map]
    congr 1
    · simp
    · apply List.map_congr_left
      intro i _
      have : lo + ((i + 1 : Nat) : Int) = lo + 1 + (i : Int) := by omega
      show prD (f (lo + ((i + 1 : Nat) : Int))) (lo + ((i + 1 : Nat) : Int)) = _
      rw [this]
  rw [e1]
  have a1 := alikeB_pairs (fun i : Nat => f (lo + (i : Int))) (fun i : Nat => lo + (i : Int)) (List.range (n + 1))
  have a2 := canLay_pairs (fun i : Nat => f (lo + (i : Int))) (fun i : Nat => lo + (i : Int)) (List.range (n + 1))
  have a3 := depth_pairs (fun i : Nat => f (lo + (i : Int))) (fun i : Nat => lo + (i : Int)) (List.range (n + 1))
  rw [e2] at a1 a2 a3
  rw [e2]
  simp only [a1, a2, a3, decide_true, Bool.and_self, if_true, e]
  rfl
end DD
set_option linter.all false
/-! tariffs: plain mathematics -/
namespace Tar
open DD
def A (ns : List Int) (m : Int) : Int := m / (ns.length : Int) * ns.sum + (ns.take (m % (ns.length : Int)).toNat).sum
def price (ns : List Int) (k : Int) : Int := ns.getD (k % (ns.length : Int)).toNat 0
def C (ns : List Int) (n b : Int) : Int := A ns (b + n) - A ns b
theorem sum_take_succ : ∀ (ns : List Int) (i : Nat), i < ns.length → (ns.take (i + 1)).sum = (ns.take i).sum + ns.getD i 0
  | [], i, h => by simp at h
  | x :: ns, 0, h => by simp
  | x :: ns, i + 1, h => by
    rw [List.length_cons] at h
    have ih := sum_take_succ ns i (by omega)
    rw [List.take_succ_cons, List.sum_cons, ih, List.take_succ_cons, List.sum_cons, List.getD_cons_succ]
    omega
theorem A_succ (ns : List Int) (m : Int) (h : 0 < ns.length) (hm : 0 ≤ m) : A ns (m + 1) = A ns m + price ns m := by
  have hL : (0 : Int) < (ns.length : Int) := by omega
  have d1 := Int.emod_add_mul_ediv m (ns.length : Int)
  have d2 := Int.emod_nonneg m (Int.ne_of_gt hL)
  have d3 := Int.emod_lt_of_pos m hL
  unfold A price
  generalize hq : m / (ns.length : Int) = q at *
  generalize hr : m % (ns.length : Int) = r at *
  by_cases z : r + 1 < (ns.length : Int)
  · have e1 : m + 1 = (r + 1) + (ns.length : Int) * q := by omega
    rw [e1, Int.add_mul_ediv_left _ _ (Int.ne_of_gt hL), Int.add_mul_emod_self_left, Int.ediv_eq_zero_of_lt (by omega) z, Int.emod_eq_of_lt (by omega) z, Int.zero_add]
    have e2 : (r + 1).toNat = r.toNat + 1 := by omega
    rw [e2, sum_take_succ ns r.toNat (by omega)]
    omega
  · have e1 : m + 1 = 0 + (ns.length : Int) * (q + 1) := by
      rw [Int.mul_add, Int.mul_one]
      omega
    rw [e1, Int.add_mul_ediv_left _ _ (Int.ne_of_gt hL), Int.add_mul_emod_self_left]
    have e2 : r.toNat + 1 = ns.length := by omega
    have e3 := sum_take_succ ns r.toNat (by omega)
    rw [e2, List.take_length] at e3
    simp only [Int.zero_ediv, Int.zero_emod, Int.toNat_zero, List.take_zero, List.sum_nil, Int.zero_add, Int.add_zero]
    rw [Int.add_mul, Int.one_mul]
    omega
theorem C_sum (ns : List Int) (b : Int) (h : 0 < ns.length) (hb : 0 ≤ b) : ∀ n : Nat, C ns n b = ((List.range n).map fun i : Nat => price ns (b + (i : Int))).sum
  | 0 => by
    unfold C
    simp
  | n + 1 => by
    have ih := C_sum ns b h hb n
    rw [List.range_succ, List.map_append, List.sum_append, ← ih]
    unfold C
    have e := A_succ ns (b + (n : Int)) h (by omega)
    have e2 : b + ((n + 1 : Nat) : Int) = b + (n : Int) + 1 := by omega
    rw [e2, e]
    simp
    omega
theorem A_period (ns : List Int) (m k : Int) (h : 0 < ns.length) : A ns (m + (ns.length : Int) * k) = A ns m + k * ns.sum := by
  have hL : (ns.length : Int) ≠ 0 := by omega
  unfold A
  rw [Int.add_mul_ediv_left _ _ hL, Int.add_mul_emod_self_left, Int.add_mul]
  omega
theorem C_period (ns : List Int) (n b k : Int) (h : 0 < ns.length) : C ns n (b + (ns.length : Int) * k) = C ns n b := by
  unfold C
  have e : b + (ns.length : Int) * k + n = (b + n) + (ns.length : Int) * k := by omega
  rw [e, A_period ns _ k h, A_period ns _ k h]
  omega
theorem C_more (ns : List Int) (n b k : Int) (h : 0 < ns.length) : C ns (n + (ns.length : Int) * k) b = C ns n b + k * ns.sum := by
  unfold C
  have e : b + (n + (ns.length : Int) * k) = (b + n) + (ns.length : Int) * k := by omega
  rw [e, A_period ns _ k h]
  omega
theorem C_zero (ns : List Int) (b : Int) : C ns 0 b = 0 := by
  unfold C
  rw [Int.add_zero]
  omega
theorem first_shift {f g : Int → Int} {lo hi b c : Int} (e : ∀ x, f x = g x + c) (x : IsFirst g lo hi b) : IsFirst f lo hi b := by
  obtain ⟨h1, h2, h3, h4⟩ := x
  refine ⟨h1, h2, fun y y1 y2 => ?_, fun y y1 y2 => ?_⟩
  · have := h3 y y1 y2
    rw [e, e]
    omega
  · have := h4 y y1 y2
    rw [e, e]
    omega
/-- within a day all is told -/
theorem first_wide {ns : List Int} {n lo hi b : Int} (h : 0 < ns.length) (x : IsFirst (C ns n) lo (if lo + (ns.length : Int) - 1 < hi then lo + (ns.length : Int) - 1 else hi) b) : IsFirst (C ns n) lo hi b := by
  obtain ⟨h1, h2, h3, h4⟩ := x
  refine ⟨h1, by split at h2 <;> omega, fun c c1 c2 => ?_, h4⟩
  have hL : (0 : Int) < (ns.length : Int) := by omega
  have d1 := Int.emod_add_mul_ediv (c - lo) (ns.length : Int)
  have d2 := Int.emod_nonneg (c - lo) (Int.ne_of_gt hL)
  have d3 := Int.emod_lt_of_pos (c - lo) hL
  have d4 : 0 ≤ (c - lo) / (ns.length : Int) := Int.ediv_nonneg (by omega) (by omega)
  have e : c = (lo + (c - lo) % (ns.length : Int)) + (ns.length : Int) * ((c - lo) / (ns.length : Int)) := by omega
  have e2 : 0 ≤ (ns.length : Int) * ((c - lo) / (ns.length : Int)) := Int.mul_nonneg (by omega) d4
  rw [e, C_period ns n _ _ h]
  refine h3 _ (by omega) ?_
  split <;> omega
theorem first_day {ns : List Int} {n hi b : Int} (h : 0 < ns.length) (hh : (ns.length : Int) - 1 ≤ hi) (x : IsFirst (C ns n) 0 ((ns.length : Int) - 1) b) : IsFirst (C ns n) 0 hi b := by
  refine first_wide h ?_
  split
  · have e : (0 : Int) + (ns.length : Int) - 1 = (ns.length : Int) - 1 := by omega
    rw [e]
    exact x
  · have e : hi = (ns.length : Int) - 1 := by omega
    rw [e]
    exact x
theorem first_move {ns : List Int} {n lo hi b k : Int} (h : 0 < ns.length) (x : IsFirst (C ns n) lo hi b) : IsFirst (C ns n) (lo + (ns.length : Int) * k) (hi + (ns.length : Int) * k) (b + (ns.length : Int) * k) := by
  obtain ⟨h1, h2, h3, h4⟩ := x
  refine ⟨by omega, by omega, fun c c1 c2 => ?_, fun c c1 c2 => ?_⟩
  · have e : c = (c - (ns.length : Int) * k) + (ns.length : Int) * k := by omega
    rw [C_period ns n b k h, e, C_period ns n _ k h]
    exact h3 _ (by omega) (by omega)
  · have e : c = (c - (ns.length : Int) * k) + (ns.length : Int) * k := by omega
    rw [C_period ns n b k h, e, C_period ns n _ k h]
    exact h4 _ (by omega) (by omega)
theorem first_const {f : Int → Int} {lo hi c : Int} (e : ∀ x, f x = c) (h : lo ≤ hi) : IsFirst f lo hi lo := ⟨Int.le_refl _, h, fun x _ _ => by rw [e, e]; exact Int.le_refl _, fun x h1 h2 => by omega⟩
theorem C_whole (ns : List Int) (k b : Int) (h : 0 < ns.length) : C ns ((ns.length : Int) * k) b = k * ns.sum := by
  have := C_more ns 0 b k h
  rw [Int.zero_add, C_zero, Int.zero_add] at this
  exact this
theorem C_rest (ns : List Int) (n b : Int) (h : 0 < ns.length) : C ns n b = C ns (n % (ns.length : Int)) b + n / (ns.length : Int) * ns.sum := by
  have d1 := Int.emod_add_mul_ediv n (ns.length : Int)
  conv => lhs; rw [← d1]
  exact C_more ns _ b _ h
end Tar
set_option Elab.async false
set_option linter.all false
set_option maxRecDepth 100000
set_option maxHeartbeats 4000000
namespace LW
open PySem PySem.Spec L2 PyProof.Rows DD
/-! ### the text -/
def top (i : Nat) : Stmt := PySem.Challenge.pw_faxhouse_k82_whole_tariffs_of_any_length.main.body.getD i (.Pass ⟨0, 0, 0, 0⟩)
structure Gs (mg : MG) : Prop where
  z_bool : mg "bool" = none
  z_enumerate : mg "enumerate" = none
  z_int : mg "int" = none
  z_isinstance : mg "isinstance" = none
  z_len : mg "len" = none
  z_list : mg "list" = none
  z_min : mg "min" = none
  z_range : mg "range" = none
  z_repr : mg "repr" = none
  z_sum : mg "sum" = none
  z_tuple : mg "tuple" = none
  c_MOST_DAY : ∃ t, mg "MOST_DAY" = some (.int 24 t)
  c_MOST_PRICE : ∃ t, mg "MOST_PRICE" = some (.int 1000000 t)
  c_MOST_MOMENT : ∃ t, mg "MOST_MOMENT" = some (.int 1000000000000000000000000000000 t)
/-! _law_begun -/
abbrev s_law_begun : Stmt := top 17
abbrev N_law_begun : List Str := ["_law_script", "_law_some", "_law_cell"]
theorem sc_law_begun : FnScope N_law_begun ["_law_script"] (defScope s_law_begun) := ⟨rfl, rfl, rfl, by decide +kernel, rfl, by decide +kernel, by decide +kernel⟩
def E_law_begun_1 : ME := mIf (mTst (mBin pyGe (mVar 2) (mBin pyPow (mC (.int 10)) (mC (.int 18))))) (mVar 2) (mC (.int 0))
def b_law_begun : MS := sSeq (sAsg (mIf (mTst (mBin pyNe (mVar 0) (mLst (mNil)))) (mCall pyList (mCons (mVar 0) (mNil))) (mLst (mCons (mC (.int 0)) (mNil)))) (gN 1))
    (sRet (mDic (pCons (mC (.str "cells")) (mVar 1) (pCons (mC (.str "left")) (mLc (mIt (mVar 1)) (gN 2) (mYes) (E_law_begun_1) [2]) (pCons (mC (.str "spot")) (mC (.int 0)) (pNil))))))
def m_law_begun : List D → IH → Res D := mBody 3 b_law_begun
theorem ok_law_begun {P : Program} {w : World} {K : PySem.W.Frag} {mg : MG} {base : Heap} {f : Addr} {fd : FuncData} (G : Gs mg) (F : FunD K "_law_begun" "_law_begun" (defArgs s_law_begun) (defBody s_law_begun) (defScope s_law_begun) [] [] f fd) (hm : mg "_law_begun" = some (.ref f))
    : Fn P w K mg base 1 "_law_begun" m_law_begun 1 := mk_fn F sc_law_begun hm (fun _ _ _ _ _ _ us hl => match us, hl with | [_], _ => rfl) fun cv A out s H E C =>
  qss_cons (qs_set 1 C.nd (qe_if (qt_cmp (op_neA (units_of C)) sd_ne (qe_var 0) (qe_lst (qa_nil)) (nomark _)) (qe_callT call_list_of sd_list G.z_list (by decide +kernel) (qa_cons (qe_var 0) (qa_nil))) (qe_lst (qa_cons (qe_int) (qa_nil)))))
    (qss_one (qs_ret (qe_dic (qp_cons (qe_str) (qe_var 1) (qp_cons (qe_str) (qe_lc [("_law_cell", 2)] C (qi_val (qe_var 1)) (blkOk_by (own := [("_law_cell", 2)]) (N := N_law_begun) (sc := defScope s_law_begun) (by decide +kernel)) (fun _ _ _ _ _ C => qx_name 2 C.nd) (fun _ _ _ _ _ C => qts_nil) (fun _ _ _ _ _ C => qe_if (qt_cmp op_ge sd_cmp (qe_var 2) (qe_bin op_pow sd_pow (qe_int) (qe_int)) (nomark _)) (qe_var 2) (qe_int))) (qp_cons (qe_str) (qe_int) (qp_nil)))))))
/-! is_whole -/
abbrev s_is_whole : Stmt := top 4
abbrev N_is_whole : List Str := ["thing", "least", "most"]
theorem sc_is_whole : FnScope N_is_whole ["thing", "least", "most"] (defScope s_is_whole) := ⟨rfl, rfl, rfl, by decide +kernel, rfl, by decide +kernel, by decide +kernel⟩
def b_is_whole : MS := sSeq (sIf (mOr (mNot (mTru (mCall pyIsi (mCons (mVar 0) (mCons (mC (.op (.ty "int"))) (mNil)))))) (mOr (mTru (mCall pyIsi (mCons (mVar 0) (mCons (mC (.op (.ty "bool"))) (mNil))))) (mTst (mBin pyLt (mVar 0) (mVar 1))))) (sRet (mC (.bl false))) (sNil))
    (sRet (mOrV (mBin pyIs (mVar 2) (mC .non)) (mBin pyLe (mVar 0) (mVar 2))))
def m_is_whole : List D → IH → Res D := mBody 3 b_is_whole
theorem ok_is_whole {P : Program} {w : World} {K : PySem.W.Frag} {mg : MG} {base : Heap} {f : Addr} {fd : FuncData} (G : Gs mg) (F : FunD K "is_whole" "is_whole" (defArgs s_is_whole) (defBody s_is_whole) (defScope s_is_whole) [] [] f fd) (hm : mg "is_whole" = some (.ref f))
    : Fn P w K mg base 1 "is_whole" m_is_whole 3 := mk_fn F sc_is_whole hm (fun _ _ _ _ _ _ us hl => match us, hl with | [_, _, _], _ => rfl) fun cv A out s H E C =>
  qss_cons (qs_if (QW.qt (qw_or (qt_not (qt_tru (qe_callB call_isi sd_isi G.z_isinstance (by decide +kernel) (qa_cons (qe_var 0) (qa_cons (qe_ty G.z_int (by decide +kernel)) (qa_nil)))))) (qw_or (qt_tru (qe_callB call_isi sd_isi G.z_isinstance (by decide +kernel) (qa_cons (qe_var 0) (qa_cons (qe_ty G.z_bool (by decide +kernel)) (qa_nil))))) (qw_or1 (qt_cmp op_lt sd_cmp (qe_var 0) (qe_var 1) (nomark _)))))) (qss_one (qs_ret (qe_bl))) (qss_nil))
    (qss_one (qs_ret (qe_or (qe_cmp op_isN sd_is (qe_var 2) (qe_non) (nomark _)) (qe_one (qe_cmp op_le sd_cmp (qe_var 0) (qe_var 2) (nomark _))))))
/-! need_tariff -/
abbrev s_need_tariff : Stmt := top 9
abbrev N_need_tariff : List Str := ["thing", "number", "price"]
theorem sc_need_tariff : FnScope N_need_tariff ["thing"] (defScope s_need_tariff) := ⟨rfl, rfl, rfl, by decide +kernel, rfl, by decide +kernel, by decide +kernel⟩
def B_need_tariff_1 : MS := sIf (mNot (mTru (mCall m_is_whole (mCons (mVar 2) (mCons (mC (.int 0)) (mCons (mC (.int 1000000)) (mNil))))))) ((fun _ _ => .stk)) (sNil)
def b_need_tariff : MS := sSeq (sIf (mOr (mNot (mTru (mCall pyIsi (mCons (mVar 0) (mCons (mC (.op (.ty "tuple"))) (mNil)))))) (mNot (mTst (mChain pyLe pyLe (mC (.int 1)) (mCall pyLen (mCons (mVar 0) (mNil))) (mC (.int 24)))))) ((fun _ _ => .stk)) (sNil))
    (sSeq (sFor (mEn (mVar 0)) (gT 2 (gsCons (gN 1) (gsCons (gN 2) (gsNil)))) (B_need_tariff_1))
    (sRet (mVar 0)))
def m_need_tariff : List D → IH → Res D := mBody 3 b_need_tariff
theorem ok_need_tariff {P : Program} {w : World} {K : PySem.W.Frag} {mg : MG} {base : Heap} {f : Addr} {fd : FuncData} (G : Gs mg) (F : FunD K "need_tariff" "need_tariff" (defArgs s_need_tariff) (defBody s_need_tariff) (defScope s_need_tariff) [] [] f fd) (hm : mg "need_tariff" = some (.ref f))
    (F_is_whole : Fn P w K mg base 1 "is_whole" m_is_whole 3)
    : Fn P w K mg base 2 "need_tariff" m_need_tariff 1 := mk_fn F sc_need_tariff hm (fun _ _ _ _ _ _ us hl => match us, hl with | [_], _ => rfl) fun cv A out s H E C =>
  qss_cons (qs_if (QW.qt (qw_or (qt_not (qt_tru (qe_callB call_isi sd_isi G.z_isinstance (by decide +kernel) (qa_cons (qe_var 0) (qa_cons (qe_ty G.z_tuple (by decide +kernel)) (qa_nil)))))) (qw_or1 (qt_not (qt_chain op_le sd_cmp op_le sd_cmp (qe_int) (qe_callB call_len sd_len G.z_len (by decide +kernel) (qa_cons (qe_var 0) (qa_nil))) (qe_gint G.c_MOST_DAY)))))) (qss_one (qs_never)) (qss_nil))
    (qss_cons (qs_for C (qi_enum G.z_enumerate (qe_var 0)) (qg_tup C.calm (qgs_cons (qg_name 1 C.nd) (qgs_cons (qg_name 2 C.nd) (qgs_nil)))) (qss_one (qs_if (qt_not (qt_tru (qe_call C F_is_whole (qa_cons (qe_var 2) (qa_cons (qe_int) (qa_cons (qe_gint G.c_MOST_PRICE) (qa_nil))))))) (qss_one (qs_never)) (qss_nil))))
    (qss_one (qs_ret (qe_var 0))))
/-! ahead_of -/
abbrev s_ahead_of : Stmt := top 10
abbrev N_ahead_of : List Str := ["tariff", "moment", "day"]
theorem sc_ahead_of : FnScope N_ahead_of ["tariff", "moment"] (defScope s_ahead_of) := ⟨rfl, rfl, rfl, by decide +kernel, rfl, by decide +kernel, by decide +kernel⟩
def b_ahead_of : MS := sSeq (sAsg (mCall pyLen (mCons (mVar 0) (mNil))) (gN 2))
    (sRet (mBin pyAdd (mBin pyMul (mBin pyDiv (mVar 1) (mVar 2)) (mCall pySum (mCons (mVar 0) (mNil)))) (mCall pySum (mCons (mSl (mVar 0) (moN) (moS (mBin pyMod (mCall pyInt (mCons (mVar 1) (mNil))) (mVar 2)))) (mNil)))))
def m_ahead_of : List D → IH → Res D := mBody 3 b_ahead_of
theorem ok_ahead_of {P : Program} {w : World} {K : PySem.W.Frag} {mg : MG} {base : Heap} {f : Addr} {fd : FuncData} (G : Gs mg) (F : FunD K "ahead_of" "ahead_of" (defArgs s_ahead_of) (defBody s_ahead_of) (defScope s_ahead_of) [] [] f fd) (hm : mg "ahead_of" = some (.ref f))
    : Fn P w K mg base 1 "ahead_of" m_ahead_of 2 := mk_fn F sc_ahead_of hm (fun _ _ _ _ _ _ us hl => match us, hl with | [_, _], _ => rfl) fun cv A out s H E C =>
  qss_cons (qs_set 2 C.nd (qe_callB call_len sd_len G.z_len (by decide +kernel) (qa_cons (qe_var 0) (qa_nil))))
    (qss_one (qs_ret (qe_bin op_addD sd_add (qe_bin op_mulD sd_mul (qe_bin op_fdiv sd_div (qe_var 1) (qe_var 2)) (qe_callB (cr_sumD C.calm) sd_sum G.z_sum (by decide +kernel) (qa_cons (qe_var 0) (qa_nil)))) (qe_callB (cr_sumD C.calm) sd_sum G.z_sum (by decide +kernel) (qa_cons (qe_slice (qe_var 0) (qo_none) (qo_some (qe_bin op_mod sd_mod (qe_callT call_int1 sd_int G.z_int (by decide +kernel) (qa_cons (qe_var 1) (qa_nil))) (qe_var 2)))) (qa_nil))))))
/-! cost_of -/
abbrev s_cost_of : Stmt := top 11
abbrev N_cost_of : List Str := ["tariff", "begin", "moments"]
theorem sc_cost_of : FnScope N_cost_of ["tariff", "begin", "moments"] (defScope s_cost_of) := ⟨rfl, rfl, rfl, by decide +kernel, rfl, by decide +kernel, by decide +kernel⟩
def b_cost_of : MS := sRet (mBin pySub (mCall m_ahead_of (mCons (mVar 0) (mCons (mBin pyAdd (mVar 1) (mVar 2)) (mNil)))) (mCall m_ahead_of (mCons (mVar 0) (mCons (mVar 1) (mNil)))))
def m_cost_of : List D → IH → Res D := mBody 3 b_cost_of
theorem ok_cost_of {P : Program} {w : World} {K : PySem.W.Frag} {mg : MG} {base : Heap} {f : Addr} {fd : FuncData} (G : Gs mg) (F : FunD K "cost_of" "cost_of" (defArgs s_cost_of) (defBody s_cost_of) (defScope s_cost_of) [] [] f fd) (hm : mg "cost_of" = some (.ref f))
    (F_ahead_of : Fn P w K mg base 1 "ahead_of" m_ahead_of 2)
    : Fn P w K mg base 2 "cost_of" m_cost_of 3 := mk_fn F sc_cost_of hm (fun _ _ _ _ _ _ us hl => match us, hl with | [_, _, _], _ => rfl) fun cv A out s H E C =>
  qss_one (qs_ret (qe_bin op_sub sd_sub (qe_call C F_ahead_of (qa_cons (qe_var 0) (qa_cons (qe_bin op_addD sd_add (qe_var 1) (qe_var 2)) (qa_nil)))) (qe_call C F_ahead_of (qa_cons (qe_var 0) (qa_cons (qe_var 1) (qa_nil))))))
/-! cost -/
abbrev s_cost : Stmt := top 12
abbrev N_cost : List Str := ["tariff", "begin", "moments"]
theorem sc_cost : FnScope N_cost ["tariff", "begin", "moments"] (defScope s_cost) := ⟨rfl, rfl, rfl, by decide +kernel, rfl, by decide +kernel, by decide +kernel⟩
def b_cost : MS := sSeq (sExpr (mCall m_need_tariff (mCons (mVar 0) (mNil))))
    (sSeq (sIf (mOr (mNot (mTru (mCall m_is_whole (mCons (mVar 1) (mCons (mC (.int 0)) (mCons (mC (.int 1000000000000000000000000000000)) (mNil))))))) (mNot (mTru (mCall m_is_whole (mCons (mVar 2) (mCons (mC (.int 1)) (mCons (mC (.int 1000000000000000000000000000000)) (mNil)))))))) ((fun _ _ => .stk)) (sNil))
    (sRet (mCall m_cost_of (mCons (mVar 0) (mCons (mVar 1) (mCons (mVar 2) (mNil)))))))
def m_cost : List D → IH → Res D := mBody 3 b_cost
theorem ok_cost {P : Program} {w : World} {K : PySem.W.Frag} {mg : MG} {base : Heap} {f : Addr} {fd : FuncData} (G : Gs mg) (F : FunD K "cost" "cost" (defArgs s_cost) (defBody s_cost) (defScope s_cost) [] [] f fd) (hm : mg "cost" = some (.ref f))
    (F_need_tariff : Fn P w K mg base 2 "need_tariff" m_need_tariff 1)
    (F_cost_of : Fn P w K mg base 2 "cost_of" m_cost_of 3)
    (F_is_whole : Fn P w K mg base 1 "is_whole" m_is_whole 3)
    : Fn P w K mg base 3 "cost" m_cost 3 := mk_fn F sc_cost hm (fun _ _ _ _ _ _ us hl => match us, hl with | [_, _, _], _ => rfl) fun cv A out s H E C =>
  qss_cons (qs_expr (qe_call C F_need_tariff (qa_cons (qe_var 0) (qa_nil))))
    (qss_cons (qs_if (QW.qt (qw_or (qt_not (qt_tru (qe_call C F_is_whole (qa_cons (qe_var 1) (qa_cons (qe_int) (qa_cons (qe_gint G.c_MOST_MOMENT) (qa_nil))))))) (qw_or1 (qt_not (qt_tru (qe_call C F_is_whole (qa_cons (qe_var 2) (qa_cons (qe_int) (qa_cons (qe_gint G.c_MOST_MOMENT) (qa_nil)))))))))) (qss_one (qs_never)) (qss_nil))
    (qss_one (qs_ret (qe_call C F_cost_of (qa_cons (qe_var 0) (qa_cons (qe_var 1) (qa_cons (qe_var 2) (qa_nil))))))))
/-! cheapest -/
abbrev s_cheapest : Stmt := top 13
abbrev N_cheapest : List Str := ["tariff", "moments", "low", "high", "last", "begin"]
theorem sc_cheapest : FnScope N_cheapest ["tariff", "moments", "low", "high"] (defScope s_cheapest) := ⟨rfl, rfl, rfl, by decide +kernel, rfl, by decide +kernel, by decide +kernel⟩
def E_cheapest_1 : ME := mTup (mCons (mCall m_cost_of (mCons (mVar 0) (mCons (mVar 5) (mCons (mVar 1) (mNil))))) (mCons (mVar 5) (mNil)))
def b_cheapest : MS := sSeq (sExpr (mCall m_need_tariff (mCons (mVar 0) (mNil))))
    (sSeq (sIf (mOr (mNot (mTru (mCall m_is_whole (mCons (mVar 1) (mCons (mC (.int 1)) (mCons (mC (.int 1000000000000000000000000000000)) (mNil))))))) (mNot (mTru (mCall m_is_whole (mCons (mVar 2) (mCons (mC (.int 0)) (mCons (mC (.int 1000000000000000000000000000000)) (mNil)))))))) ((fun _ _ => .stk)) (sNil))
    (sSeq (sIf (mNot (mTru (mCall m_is_whole (mCons (mVar 3) (mCons (mVar 2) (mCons (mC (.int 1000000000000000000000000000000)) (mNil))))))) ((fun _ _ => .stk)) (sNil))
    (sSeq (sAsg (mCall pyMin (mCons (mVar 3) (mCons (mBin pySub (mBin pyAdd (mVar 2) (mCall pyLen (mCons (mVar 0) (mNil)))) (mC (.int 1))) (mNil)))) (gN 4))
    (sRet (mBin pyIx (mCall pyMin (mCons (mLc (mRng2 (mVar 2) (mBin pyAdd (mVar 4) (mC (.int 1)))) (gN 5) (mYes) (E_cheapest_1) [5]) (mNil))) (mC (.int 1)))))))
def m_cheapest : List D → IH → Res D := mBody 6 b_cheapest
theorem ok_cheapest {P : Program} {w : World} {K : PySem.W.Frag} {mg : MG} {base : Heap} {f : Addr} {fd : FuncData} (G : Gs mg) (F : FunD K "cheapest" "cheapest" (defArgs s_cheapest) (defBody s_cheapest) (defScope s_cheapest) [] [] f fd) (hm : mg "cheapest" = some (.ref f))
    (F_need_tariff : Fn P w K mg base 2 "need_tariff" m_need_tariff 1)
    (F_is_whole : Fn P w K mg base 1 "is_whole" m_is_whole 3)
    (F_cost_of : Fn P w K mg base 2 "cost_of" m_cost_of 3)
    : Fn P w K mg base 3 "cheapest" m_cheapest 4 := mk_fn F sc_cheapest hm (fun _ _ _ _ _ _ us hl => match us, hl with | [_, _, _, _], _ => rfl) fun cv A out s H E C =>
  qss_cons (qs_expr (qe_call C F_need_tariff (qa_cons (qe_var 0) (qa_nil))))
    (qss_cons (qs_if (QW.qt (qw_or (qt_not (qt_tru (qe_call C F_is_whole (qa_cons (qe_var 1) (qa_cons (qe_int) (qa_cons (qe_gint G.c_MOST_MOMENT) (qa_nil))))))) (qw_or1 (qt_not (qt_tru (qe_call C F_is_whole (qa_cons (qe_var 2) (qa_cons (qe_int) (qa_cons (qe_gint G.c_MOST_MOMENT) (qa_nil)))))))))) (qss_one (qs_never)) (qss_nil))
    (qss_cons (qs_if (qt_not (qt_tru (qe_call C F_is_whole (qa_cons (qe_var 3) (qa_cons (qe_var 2) (qa_cons (qe_gint G.c_MOST_MOMENT) (qa_nil))))))) (qss_one (qs_never)) (qss_nil))
    (qss_cons (qs_set 4 C.nd (qe_callB (cr_minA C) sd_min G.z_min (by decide +kernel) (qa_cons (qe_var 3) (qa_cons (qe_bin op_sub sd_sub (qe_bin op_addD sd_add (qe_var 2) (qe_callB call_len sd_len G.z_len (by decide +kernel) (qa_cons (qe_var 0) (qa_nil)))) (qe_int)) (qa_nil)))))
    (qss_one (qs_ret (qe_ix (ix_any C) sd_ix (qe_callB (cr_minA C) sd_min G.z_min (by decide +kernel) (qa_cons (qe_lc [("begin", 5)] C (qi_range2 G.z_range (qe_var 2) (qe_bin op_addD sd_add (qe_var 4) (qe_int))) (blkOk_by (own := [("begin", 5)]) (N := N_cheapest) (sc := defScope s_cheapest) (by decide +kernel)) (fun _ _ _ _ _ C => qx_name 5 C.nd) (fun _ _ _ _ _ C => qts_nil) (fun _ _ _ _ _ C => qe_tup (qa_cons (qe_call C F_cost_of (qa_cons (qe_var 0) (qa_cons (qe_var 5) (qa_cons (qe_var 1) (qa_nil))))) (qa_cons (qe_var 5) (qa_nil))))) (qa_nil))) (qe_int) (fun _ _ => rfl)))))))
/-! table -/
abbrev s_table : Stmt := top 14
abbrev N_table : List Str := ["tariff", "found", "moments", "begin"]
theorem sc_table : FnScope N_table ["tariff"] (defScope s_table) := ⟨rfl, rfl, rfl, by decide +kernel, rfl, by decide +kernel, by decide +kernel⟩
def E_table_1 : ME := mTup (mCons (mCall m_cost_of (mCons (mVar 0) (mCons (mVar 3) (mCons (mVar 2) (mNil))))) (mCons (mVar 3) (mNil)))
def B_table_2 : MS := sExpr (mMeth "list" pyAppend (mVar 1) (mCons (mBin pyIx (mCall pyMin (mCons (mLc (mRng1 (mCall pyLen (mCons (mVar 0) (mNil)))) (gN 3) (mYes) (E_table_1) [3]) (mNil))) (mC (.int 1))) mNil))
def b_table : MS := sSeq (sExpr (mCall m_need_tariff (mCons (mVar 0) (mNil))))
    (sSeq (sAsg (mLst (mNil)) (gN 1))
    (sSeq (sFor (mRng1 (mCall pyLen (mCons (mVar 0) (mNil)))) (gN 2) (B_table_2))
    (sRet (mCall pyTuple (mCons (mVar 1) (mNil))))))
def m_table : List D → IH → Res D := mBody 4 b_table
theorem ok_table {P : Program} {w : World} {K : PySem.W.Frag} {mg : MG} {base : Heap} {f : Addr} {fd : FuncData} (G : Gs mg) (F : FunD K "table" "table" (defArgs s_table) (defBody s_table) (defScope s_table) [] [] f fd) (hm : mg "table" = some (.ref f))
    (F_need_tariff : Fn P w K mg base 2 "need_tariff" m_need_tariff 1)
    (F_cost_of : Fn P w K mg base 2 "cost_of" m_cost_of 3)
    : Fn P w K mg base 3 "table" m_table 1 := mk_fn F sc_table hm (fun _ _ _ _ _ _ us hl => match us, hl with | [_], _ => rfl) fun cv A out s H E C =>
  qss_cons (qs_expr (qe_call C F_need_tariff (qa_cons (qe_var 0) (qa_nil))))
    (qss_cons (qs_set 1 C.nd (qe_lst (qa_nil)))
    (qss_cons (qs_for C (qi_range1 G.z_range (qe_callB call_len sd_len G.z_len (by decide +kernel) (qa_cons (qe_var 0) (qa_nil)))) (qg_name 2 C.nd) (qss_one (qs_expr (qe_append (qe_var 1) (qe_ix (ix_any C) sd_ix (qe_callB (cr_minA C) sd_min G.z_min (by decide +kernel) (qa_cons (qe_lc [("begin", 3)] C (qi_range1 G.z_range (qe_callB call_len sd_len G.z_len (by decide +kernel) (qa_cons (qe_var 0) (qa_nil)))) (blkOk_by (own := [("begin", 3)]) (N := N_table) (sc := defScope s_table) (by decide +kernel)) (fun _ _ _ _ _ C => qx_name 3 C.nd) (fun _ _ _ _ _ C => qts_nil) (fun _ _ _ _ _ C => qe_tup (qa_cons (qe_call C F_cost_of (qa_cons (qe_var 0) (qa_cons (qe_var 3) (qa_cons (qe_var 2) (qa_nil))))) (qa_cons (qe_var 3) (qa_nil))))) (qa_nil))) (qe_int) (fun _ _ => rfl))))))
    (qss_one (qs_ret (qe_callT call_tuple_of sd_tuple G.z_tuple (by decide +kernel) (qa_cons (qe_var 1) (qa_nil)))))))
/-! _law_cost -/
abbrev s_law_cost : Stmt := top 19
abbrev N_law_cost : List Str := ["_law_rates_here", "_law_begin", "_law_many", "_law_k"]
theorem sc_law_cost : FnScope N_law_cost ["_law_rates_here", "_law_begin", "_law_many"] (defScope s_law_cost) := ⟨rfl, rfl, rfl, by decide +kernel, rfl, by decide +kernel, by decide +kernel⟩
def E_law_cost_1 : ME := mBin pyIx (mVar 0) (mBin pyMod (mCall pyInt (mCons (mVar 3) (mNil))) (mCall pyLen (mCons (mVar 0) (mNil))))
def b_law_cost : MS := sRet (mCall pySum (mCons (mLc (mRng2 (mVar 1) (mBin pyAdd (mVar 1) (mVar 2))) (gN 3) (mYes) (E_law_cost_1) [3]) (mNil)))
def m_law_cost : List D → IH → Res D := mBody 4 b_law_cost
theorem ok_law_cost {P : Program} {w : World} {K : PySem.W.Frag} {mg : MG} {base : Heap} {f : Addr} {fd : FuncData} (G : Gs mg) (F : FunD K "_law_cost" "_law_cost" (defArgs s_law_cost) (defBody s_law_cost) (defScope s_law_cost) [] [] f fd) (hm : mg "_law_cost" = some (.ref f))
    : Fn P w K mg base 1 "_law_cost" m_law_cost 3 := mk_fn F sc_law_cost hm (fun _ _ _ _ _ _ us hl => match us, hl with | [_, _, _], _ => rfl) fun cv A out s H E C =>
  qss_one (qs_ret (qe_callB (cr_sumD C.calm) sd_sum G.z_sum (by decide +kernel) (qa_cons (qe_lc [("_law_k", 3)] C (qi_range2 G.z_range (qe_var 1) (qe_bin op_addD sd_add (qe_var 1) (qe_var 2))) (blkOk_by (own := [("_law_k", 3)]) (N := N_law_cost) (sc := defScope s_law_cost) (by decide +kernel)) (fun _ _ _ _ _ C => qx_name 3 C.nd) (fun _ _ _ _ _ C => qts_nil) (fun _ _ _ _ _ C => qe_ix (ix_any C) sd_ix (qe_var 0) (qe_bin op_mod sd_mod (qe_callT call_int1 sd_int G.z_int (by decide +kernel) (qa_cons (qe_var 3) (qa_nil))) (qe_callB call_len sd_len G.z_len (by decide +kernel) (qa_cons (qe_var 0) (qa_nil)))) (fun _ _ => rfl))) (qa_nil))))
/-! _law_first -/
abbrev s_law_first : Stmt := top 21
abbrev N_law_first : List Str := ["_law_rates_here", "_law_many", "_law_low", "_law_high", "_law_some", "_law_begin"]
theorem sc_law_first : FnScope N_law_first ["_law_rates_here", "_law_many", "_law_low", "_law_high"] (defScope s_law_first) := ⟨rfl, rfl, rfl, by decide +kernel, rfl, by decide +kernel, by decide +kernel⟩
def E_law_first_1 : ME := mTup (mCons (mCall m_law_cost (mCons (mVar 0) (mCons (mVar 5) (mCons (mVar 1) (mNil))))) (mCons (mVar 5) (mNil)))
def b_law_first : MS := sSeq (sAsg (mLc (mRng2 (mVar 2) (mBin pyAdd (mVar 3) (mC (.int 1)))) (gN 5) (mYes) (E_law_first_1) [5]) (gN 4))
    (sRet (mBin pyIx (mCall pyMin (mCons (mVar 4) (mNil))) (mC (.int 1))))
def m_law_first : List D → IH → Res D := mBody 6 b_law_first
theorem ok_law_first {P : Program} {w : World} {K : PySem.W.Frag} {mg : MG} {base : Heap} {f : Addr} {fd : FuncData} (G : Gs mg) (F : FunD K "_law_first" "_law_first" (defArgs s_law_first) (defBody s_law_first) (defScope s_law_first) [] [] f fd) (hm : mg "_law_first" = some (.ref f))
    (F_law_cost : Fn P w K mg base 1 "_law_cost" m_law_cost 3)
    : Fn P w K mg base 2 "_law_first" m_law_first 4 := mk_fn F sc_law_first hm (fun _ _ _ _ _ _ us hl => match us, hl with | [_, _, _, _], _ => rfl) fun cv A out s H E C =>
  qss_cons (qs_setLc 4 [("_law_begin", 5)] C (qi_range2 G.z_range (qe_var 2) (qe_bin op_addD sd_add (qe_var 3) (qe_int))) (blkOk_by (own := [("_law_begin", 5)]) (N := N_law_first) (sc := defScope s_law_first) (by decide +kernel)) (fun _ _ _ _ _ C => qx_name 5 C.nd) (fun _ _ _ _ _ C => qts_nil) (fun _ _ _ _ _ C => qe_tup (qa_cons (qe_call C F_law_cost (qa_cons (qe_var 0) (qa_cons (qe_var 5) (qa_cons (qe_var 1) (qa_nil))))) (qa_cons (qe_var 5) (qa_nil)))))
    (qss_one (qs_ret (qe_ix (ix_any C) sd_ix (qe_callB (cr_minA C) sd_min G.z_min (by decide +kernel) (qa_cons (qe_var 4) (qa_nil))) (qe_int) (fun _ _ => rfl))))
/-! _law_mix -/
abbrev s_law_mix : Stmt := top 16
abbrev N_law_mix : List Str := ["_law_cell", "_law_spot", "_law_first_here", "_law_second"]
theorem sc_law_mix : FnScope N_law_mix ["_law_cell", "_law_spot"] (defScope s_law_mix) := ⟨rfl, rfl, rfl, by decide +kernel, rfl, by decide +kernel, by decide +kernel⟩
def b_law_mix : MS := sSeq (sAsg (mBin pyMod (mCall pyInt (mCons (mBin pyAdd (mBin pyAdd (mBin pyMul (mVar 0) (mC (.int 40503))) (mBin pyMul (mVar 1) (mC (.int 69069)))) (mC (.int 12345))) (mNil))) (mC (.int 2147483647))) (gN 2))
    (sSeq (sAsg (mBin pyMod (mCall pyInt (mCons (mBin pyAdd (mBin pyAdd (mBin pyMul (mVar 2) (mC (.int 48271))) (mVar 0)) (mVar 1)) (mNil))) (mC (.int 2147483647))) (gN 3))
    (sRet (mBin pyMod (mCall pyInt (mCons (mBin pyAdd (mBin pyMul (mVar 3) (mC (.int 16807))) (mBin pyMul (mBin pyMul (mVar 1) (mVar 1)) (mC (.int 7919)))) (mNil))) (mC (.int 2147483647)))))
def m_law_mix : List D → IH → Res D := mBody 4 b_law_mix
theorem ok_law_mix {P : Program} {w : World} {K : PySem.W.Frag} {mg : MG} {base : Heap} {f : Addr} {fd : FuncData} (G : Gs mg) (F : FunD K "_law_mix" "_law_mix" (defArgs s_law_mix) (defBody s_law_mix) (defScope s_law_mix) [] [] f fd) (hm : mg "_law_mix" = some (.ref f))
    : Fn P w K mg base 1 "_law_mix" m_law_mix 2 := mk_fn F sc_law_mix hm (fun _ _ _ _ _ _ us hl => match us, hl with | [_, _], _ => rfl) fun cv A out s H E C =>
  qss_cons (qs_set 2 C.nd (qe_bin op_mod sd_mod (qe_callT call_int1 sd_int G.z_int (by decide +kernel) (qa_cons (qe_bin op_addD sd_add (qe_bin op_addD sd_add (qe_bin op_mulD sd_mul (qe_var 0) (qe_int)) (qe_bin op_mulD sd_mul (qe_var 1) (qe_int))) (qe_int)) (qa_nil))) (qe_int)))
    (qss_cons (qs_set 3 C.nd (qe_bin op_mod sd_mod (qe_callT call_int1 sd_int G.z_int (by decide +kernel) (qa_cons (qe_bin op_addD sd_add (qe_bin op_addD sd_add (qe_bin op_mulD sd_mul (qe_var 2) (qe_int)) (qe_var 0)) (qe_var 1)) (qa_nil))) (qe_int)))
    (qss_one (qs_ret (qe_bin op_mod sd_mod (qe_callT call_int1 sd_int G.z_int (by decide +kernel) (qa_cons (qe_bin op_addD sd_add (qe_bin op_mulD sd_mul (qe_var 3) (qe_int)) (qe_bin op_mulD sd_mul (qe_bin op_mulD sd_mul (qe_var 1) (qe_var 1)) (qe_int))) (qa_nil))) (qe_int)))))
/-! _law_draw -/
abbrev s_law_draw : Stmt := top 18
abbrev N_law_draw : List Str := ["_law_m", "_law_limit", "_law_spot", "_law_here", "_law_left"]
theorem sc_law_draw : FnScope N_law_draw ["_law_m", "_law_limit"] (defScope s_law_draw) := ⟨rfl, rfl, rfl, by decide +kernel, rfl, by decide +kernel, by decide +kernel⟩
def b_law_draw : MS := sSeq (sAsg (mBin pyIx (mVar 0) (mC (.str "spot"))) (gN 2))
    (sSeq (sAsg (mBin pyAdd (mVar 2) (mC (.int 1))) (gSubM (mVar 0) (mC (.str "spot"))))
    (sSeq (sAsg (mBin pyMod (mCall pyInt (mCons (mVar 2) (mNil))) (mCall pyLen (mCons (mBin pyIx (mVar 0) (mC (.str "cells"))) (mNil)))) (gN 3))
    (sSeq (sAsg (mBin pyIx (mBin pyIx (mVar 0) (mC (.str "left"))) (mVar 3)) (gN 4))
    (sSeq (sIf (mTst (mBin pyGt (mVar 4) (mC (.int 0)))) (sSeq (sAsg (mBin pyDiv (mVar 4) (mVar 1)) (gSubM (mBin pyIx (mVar 0) (mC (.str "left"))) (mVar 3)))
    (sRet (mBin pyMod (mCall pyInt (mCons (mVar 4) (mNil))) (mVar 1)))) (sNil))
    (sRet (mBin pyMod (mCall pyInt (mCons (mBin pyDiv (mCall m_law_mix (mCons (mBin pyIx (mBin pyIx (mVar 0) (mC (.str "cells"))) (mVar 3)) (mCons (mVar 2) (mNil)))) (mC (.int 97))) (mNil))) (mVar 1)))))))
def m_law_draw : List D → IH → Res D := mBody 5 b_law_draw
theorem ok_law_draw {P : Program} {w : World} {K : PySem.W.Frag} {mg : MG} {base : Heap} {f : Addr} {fd : FuncData} (G : Gs mg) (F : FunD K "_law_draw" "_law_draw" (defArgs s_law_draw) (defBody s_law_draw) (defScope s_law_draw) [] [] f fd) (hm : mg "_law_draw" = some (.ref f))
    (F_law_mix : Fn P w K mg base 1 "_law_mix" m_law_mix 2)
    : Fn P w K mg base 2 "_law_draw" m_law_draw 2 := mk_fn F sc_law_draw hm (fun _ _ _ _ _ _ us hl => match us, hl with | [_, _], _ => rfl) fun cv A out s H E C =>
  qss_cons (qs_set 2 C.nd (qe_ix (ix_any C) sd_ix (qe_var 0) (qe_str) (fun _ _ => rfl)))
    (qss_cons (qs_asg (qe_bin op_addD sd_add (qe_var 2) (qe_int)) (qg_sub C (qe_var 0) (qe_str)))
    (qss_cons (qs_set 3 C.nd (qe_bin op_mod sd_mod (qe_callT call_int1 sd_int G.z_int (by decide +kernel) (qa_cons (qe_var 2) (qa_nil))) (qe_callB call_len sd_len G.z_len (by decide +kernel) (qa_cons (qe_ix (ix_any C) sd_ix (qe_var 0) (qe_str) (fun _ _ => rfl)) (qa_nil)))))
    (qss_cons (qs_set 4 C.nd (qe_ix (ix_any C) sd_ix (qe_ix (ix_any C) sd_ix (qe_var 0) (qe_str) (fun _ _ => rfl)) (qe_var 3) (fun _ _ => rfl)))
    (qss_cons (qs_if (qt_cmp op_gt sd_cmp (qe_var 4) (qe_int) (nomark _)) (qss_cons (qs_asg (qe_bin op_fdiv sd_div (qe_var 4) (qe_var 1)) (qg_sub C (qe_ix (ix_any C) sd_ix (qe_var 0) (qe_str) (fun _ _ => rfl)) (qe_var 3)))
    (qss_one (qs_ret (qe_bin op_mod sd_mod (qe_callT call_int1 sd_int G.z_int (by decide +kernel) (qa_cons (qe_var 4) (qa_nil))) (qe_var 1))))) (qss_nil))
    (qss_one (qs_ret (qe_bin op_mod sd_mod (qe_callT call_int1 sd_int G.z_int (by decide +kernel) (qa_cons (qe_bin op_fdiv sd_div (qe_call C F_law_mix (qa_cons (qe_ix (ix_any C) sd_ix (qe_ix (ix_any C) sd_ix (qe_var 0) (qe_str) (fun _ _ => rfl)) (qe_var 3) (fun _ _ => rfl)) (qa_cons (qe_var 2) (qa_nil)))) (qe_int)) (qa_nil))) (qe_var 1))))))))
/-! _law_right -/
abbrev s_law_right : Stmt := top 22
abbrev N_law_right : List Str := ["_law_m", "_law_rates_here", "_law_day", "_law_whole", "_law_low", "_law_many", "_law_high", "_law_first_here", "_law_due", "_law_days", "_law_later", "_law_rest", "_law_far", "_law_k"]
theorem sc_law_right : FnScope N_law_right ["_law_m", "_law_rates_here"] (defScope s_law_right) := ⟨rfl, rfl, rfl, by decide +kernel, rfl, by decide +kernel, by decide +kernel⟩
def E_law_right_1 : ME := mCall m_law_first (mCons (mVar 1) (mCons (mVar 13) (mCons (mC (.int 0)) (mCons (mBin pySub (mVar 2) (mC (.int 1))) (mNil)))))
def b_law_right : MS := sSeq (sAsg (mTup (mCons (mCall pyLen (mCons (mVar 1) (mNil))) (mCons (mCall pySum (mCons (mVar 1) (mNil))) (mNil)))) (gT 2 (gsCons (gN 2) (gsCons (gN 3) (gsNil)))))
    (sSeq (sPar 4 5 (mCons (mCall m_law_draw (mCons (mVar 0) (mCons (mC (.int 90)) (mNil)))) (mCons (mBin pyAdd (mC (.int 1)) (mCall m_law_draw (mCons (mVar 0) (mCons (mC (.int 120)) (mNil))))) (mNil))))
    (sSeq (sAsg (mBin pyAdd (mVar 4) (mCall m_law_draw (mCons (mVar 0) (mCons (mC (.int 40)) (mNil))))) (gN 6))
    (sSeq (sAsg (mCall m_law_first (mCons (mVar 1) (mCons (mVar 5) (mCons (mVar 4) (mCons (mVar 6) (mNil)))))) (gN 7))
    (sSeq (sIf (mOr (mTst (mBin pyNe (mCall m_cost (mCons (mVar 1) (mCons (mVar 4) (mCons (mVar 5) (mNil))))) (mCall m_law_cost (mCons (mVar 1) (mCons (mVar 4) (mCons (mVar 5) (mNil))))))) (mTst (mBin pyNe (mCall m_cheapest (mCons (mVar 1) (mCons (mVar 5) (mCons (mVar 4) (mCons (mVar 6) (mNil)))))) (mVar 7)))) (sRet (mC (.bl false))) (sNil))
    (sSeq (sAsg (mBin pyAdd (mLst (mCons (mC (.int 0)) (mNil))) (mLc (mRng2 (mC (.int 1)) (mVar 2)) (gN 13) (mYes) (E_law_right_1) [13])) (gN 8))
    (sSeq (sIf (mTst (mBin pyNe (mCall pyRepr (mCons (mCall m_table (mCons (mVar 1) (mNil))) (mNil))) (mCall pyRepr (mCons (mCall pyTuple (mCons (mVar 8) (mNil))) (mNil))))) (sRet (mC (.bl false))) (sNil))
    (sSeq (sAsg (mBin pyIx (mLst (mCons (mCall m_law_draw (mCons (mVar 0) (mCons (mC (.int 1000)) (mNil)))) (mCons (mBin pyAdd (mBin pyPow (mC (.int 10)) (mC (.int 9))) (mCall m_law_draw (mCons (mVar 0) (mCons (mC (.int 1000)) (mNil))))) (mCons (mBin pySub (mBin pyPow (mC (.int 10)) (mC (.int 28))) (mCall m_law_draw (mCons (mVar 0) (mCons (mC (.int 1000)) (mNil))))) (mNil))))) (mCall m_law_draw (mCons (mVar 0) (mCons (mC (.int 3)) (mNil))))) (gN 9))
    (sSeq (sIf (mTst (mBin pyNe (mCall m_cost (mCons (mVar 1) (mCons (mVar 4) (mCons (mBin pyAdd (mVar 5) (mBin pyMul (mVar 9) (mVar 2))) (mNil))))) (mBin pyAdd (mCall m_cost (mCons (mVar 1) (mCons (mVar 4) (mCons (mVar 5) (mNil))))) (mBin pyMul (mVar 9) (mVar 3))))) (sRet (mC (.bl false))) (sNil))
    (sSeq (sAsg (mBin pyMul (mVar 9) (mVar 2)) (gN 10))
    (sSeq (sIf (mTst (mBin pyNe (mCall m_cost (mCons (mVar 1) (mCons (mBin pyAdd (mVar 4) (mVar 10)) (mCons (mVar 5) (mNil))))) (mCall m_cost (mCons (mVar 1) (mCons (mVar 4) (mCons (mVar 5) (mNil))))))) (sRet (mC (.bl false))) (sNil))
    (sSeq (sIf (mTst (mBin pyNe (mCall m_cheapest (mCons (mVar 1) (mCons (mBin pyAdd (mVar 5) (mBin pyMul (mVar 9) (mVar 2))) (mCons (mVar 4) (mCons (mVar 6) (mNil)))))) (mCall m_cheapest (mCons (mVar 1) (mCons (mVar 5) (mCons (mVar 4) (mCons (mVar 6) (mNil)))))))) (sRet (mC (.bl false))) (sNil))
    (sSeq (sIf (mTst (mBin pyNe (mCall m_cheapest (mCons (mVar 1) (mCons (mVar 5) (mCons (mBin pyAdd (mVar 4) (mVar 10)) (mCons (mBin pyAdd (mVar 6) (mVar 10)) (mNil)))))) (mBin pyAdd (mCall m_cheapest (mCons (mVar 1) (mCons (mVar 5) (mCons (mVar 4) (mCons (mVar 6) (mNil)))))) (mVar 10)))) (sRet (mC (.bl false))) (sNil))
    (sSeq (sIf (mTst (mBin pyNe (mCall m_cheapest (mCons (mVar 1) (mCons (mBin pyAdd (mBin pyMul (mVar 9) (mVar 2)) (mVar 2)) (mCons (mBin pyAdd (mVar 4) (mVar 10)) (mCons (mBin pyAdd (mBin pyAdd (mVar 6) (mVar 10)) (mBin pyPow (mC (.int 10)) (mC (.int 5)))) (mNil)))))) (mBin pyAdd (mVar 4) (mVar 10)))) (sRet (mC (.bl false))) (sNil))
    (sSeq (sAsg (mBin pyMod (mCall pyInt (mCons (mVar 5) (mNil))) (mVar 2)) (gN 11))
    (sSeq (sAsg (mCall m_cheapest (mCons (mVar 1) (mCons (mBin pyAdd (mVar 5) (mBin pyMul (mVar 9) (mVar 2))) (mCons (mC (.int 0)) (mCons (mBin pyPow (mC (.int 10)) (mC (.int 30))) (mNil)))))) (gN 12))
    (sRet (mAndV (mBin pyEq (mVar 12) (mBin pyIx (mVar 8) (mVar 11))) (mBin pyEq (mCall m_cheapest (mCons (mVar 1) (mCons (mVar 5) (mCons (mC (.int 0)) (mCons (mBin pySub (mVar 2) (mC (.int 1))) (mNil)))))) (mBin pyIx (mVar 8) (mVar 11))))))))))))))))))))
def m_law_right : List D → IH → Res D := mBody 14 b_law_right
theorem ok_law_right {P : Program} {w : World} {K : PySem.W.Frag} {mg : MG} {base : Heap} {f : Addr} {fd : FuncData} (G : Gs mg) (F : FunD K "_law_right" "_law_right" (defArgs s_law_right) (defBody s_law_right) (defScope s_law_right) [] [] f fd) (hm : mg "_law_right" = some (.ref f))
    (F_law_first : Fn P w K mg base 2 "_law_first" m_law_first 4)
    (F_cheapest : Fn P w K mg base 3 "cheapest" m_cheapest 4)
    (F_law_draw : Fn P w K mg base 2 "_law_draw" m_law_draw 2)
    (F_cost : Fn P w K mg base 3 "cost" m_cost 3)
    (F_law_cost : Fn P w K mg base 1 "_law_cost" m_law_cost 3)
    (F_table : Fn P w K mg base 3 "table" m_table 1)
    : Fn P w K mg base 4 "_law_right" m_law_right 2 := mk_fn F sc_law_right hm (fun _ _ _ _ _ _ us hl => match us, hl with | [_, _], _ => rfl) fun cv A out s H E C =>
  qss_cons (qs_asg (qe_tup (qa_cons (qe_callB call_len sd_len G.z_len (by decide +kernel) (qa_cons (qe_var 1) (qa_nil))) (qa_cons (qe_callB (cr_sumD C.calm) sd_sum G.z_sum (by decide +kernel) (qa_cons (qe_var 1) (qa_nil))) (qa_nil)))) (qg_tup C.calm (qgs_cons (qg_name 2 C.nd) (qgs_cons (qg_name 3 C.nd) (qgs_nil)))))
    (qss_cons (qs_par 4 5 C.calm C.nd (qa_cons (qe_call C F_law_draw (qa_cons (qe_var 0) (qa_cons (qe_int) (qa_nil)))) (qa_cons (qe_bin op_addD sd_add (qe_int) (qe_call C F_law_draw (qa_cons (qe_var 0) (qa_cons (qe_int) (qa_nil))))) (qa_nil))))
    (qss_cons (qs_set 6 C.nd (qe_bin op_addD sd_add (qe_var 4) (qe_call C F_law_draw (qa_cons (qe_var 0) (qa_cons (qe_int) (qa_nil))))))
    (qss_cons (qs_set 7 C.nd (qe_call C F_law_first (qa_cons (qe_var 1) (qa_cons (qe_var 5) (qa_cons (qe_var 4) (qa_cons (qe_var 6) (qa_nil)))))))
    (qss_cons (qs_if (QW.qt (qw_or (qt_cmp (op_neA (units_of C)) sd_ne (qe_call C F_cost (qa_cons (qe_var 1) (qa_cons (qe_var 4) (qa_cons (qe_var 5) (qa_nil))))) (qe_call C F_law_cost (qa_cons (qe_var 1) (qa_cons (qe_var 4) (qa_cons (qe_var 5) (qa_nil))))) (nomark _)) (qw_or1 (qt_cmp (op_neA (units_of C)) sd_ne (qe_call C F_cheapest (qa_cons (qe_var 1) (qa_cons (qe_var 5) (qa_cons (qe_var 4) (qa_cons (qe_var 6) (qa_nil)))))) (qe_var 7) (nomark _))))) (qss_one (qs_ret (qe_bl))) (qss_nil))
    (qss_cons (qs_set 8 C.nd (qe_bin op_addD sd_add (qe_lst (qa_cons (qe_int) (qa_nil))) (qe_lc [("_law_k", 13)] C (qi_range2 G.z_range (qe_int) (qe_var 2)) (blkOk_by (own := [("_law_k", 13)]) (N := N_law_right) (sc := defScope s_law_right) (by decide +kernel)) (fun _ _ _ _ _ C => qx_name 13 C.nd) (fun _ _ _ _ _ C => qts_nil) (fun _ _ _ _ _ C => qe_call C F_law_first (qa_cons (qe_var 1) (qa_cons (qe_var 13) (qa_cons (qe_int) (qa_cons (qe_bin op_sub sd_sub (qe_var 2) (qe_int)) (qa_nil)))))))))
    (qss_cons (qs_if (qt_cmp (op_neA (units_of C)) sd_ne (qe_callB (cr_repr C) sd_repr G.z_repr (by decide +kernel) (qa_cons (qe_call C F_table (qa_cons (qe_var 1) (qa_nil))) (qa_nil))) (qe_callB (cr_repr C) sd_repr G.z_repr (by decide +kernel) (qa_cons (qe_callT call_tuple_of sd_tuple G.z_tuple (by decide +kernel) (qa_cons (qe_var 8) (qa_nil))) (qa_nil))) (nomark _)) (qss_one (qs_ret (qe_bl))) (qss_nil))
    (qss_cons (qs_set 9 C.nd (qe_ix (ix_any C) sd_ix (qe_lst (qa_cons (qe_call C F_law_draw (qa_cons (qe_var 0) (qa_cons (qe_int) (qa_nil)))) (qa_cons (qe_bin op_addD sd_add (qe_bin op_pow sd_pow (qe_int) (qe_int)) (qe_call C F_law_draw (qa_cons (qe_var 0) (qa_cons (qe_int) (qa_nil))))) (qa_cons (qe_bin op_sub sd_sub (qe_bin op_pow sd_pow (qe_int) (qe_int)) (qe_call C F_law_draw (qa_cons (qe_var 0) (qa_cons (qe_int) (qa_nil))))) (qa_nil))))) (qe_call C F_law_draw (qa_cons (qe_var 0) (qa_cons (qe_int) (qa_nil)))) (fun _ _ => rfl)))
    (qss_cons (qs_if (qt_cmp (op_neA (units_of C)) sd_ne (qe_call C F_cost (qa_cons (qe_var 1) (qa_cons (qe_var 4) (qa_cons (qe_bin op_addD sd_add (qe_var 5) (qe_bin op_mulD sd_mul (qe_var 9) (qe_var 2))) (qa_nil))))) (qe_bin op_addD sd_add (qe_call C F_cost (qa_cons (qe_var 1) (qa_cons (qe_var 4) (qa_cons (qe_var 5) (qa_nil))))) (qe_bin op_mulD sd_mul (qe_var 9) (qe_var 3))) (nomark _)) (qss_one (qs_ret (qe_bl))) (qss_nil))
    (qss_cons (qs_set 10 C.nd (qe_bin op_mulD sd_mul (qe_var 9) (qe_var 2)))
    (qss_cons (qs_if (qt_cmp (op_neA (units_of C)) sd_ne (qe_call C F_cost (qa_cons (qe_var 1) (qa_cons (qe_bin op_addD sd_add (qe_var 4) (qe_var 10)) (qa_cons (qe_var 5) (qa_nil))))) (qe_call C F_cost (qa_cons (qe_var 1) (qa_cons (qe_var 4) (qa_cons (qe_var 5) (qa_nil))))) (nomark _)) (qss_one (qs_ret (qe_bl))) (qss_nil))
    (qss_cons (qs_if (qt_cmp (op_neA (units_of C)) sd_ne (qe_call C F_cheapest (qa_cons (qe_var 1) (qa_cons (qe_bin op_addD sd_add (qe_var 5) (qe_bin op_mulD sd_mul (qe_var 9) (qe_var 2))) (qa_cons (qe_var 4) (qa_cons (qe_var 6) (qa_nil)))))) (qe_call C F_cheapest (qa_cons (qe_var 1) (qa_cons (qe_var 5) (qa_cons (qe_var 4) (qa_cons (qe_var 6) (qa_nil)))))) (nomark _)) (qss_one (qs_ret (qe_bl))) (qss_nil))
    (qss_cons (qs_if (qt_cmp (op_neA (units_of C)) sd_ne (qe_call C F_cheapest (qa_cons (qe_var 1) (qa_cons (qe_var 5) (qa_cons (qe_bin op_addD sd_add (qe_var 4) (qe_var 10)) (qa_cons (qe_bin op_addD sd_add (qe_var 6) (qe_var 10)) (qa_nil)))))) (qe_bin op_addD sd_add (qe_call C F_cheapest (qa_cons (qe_var 1) (qa_cons (qe_var 5) (qa_cons (qe_var 4) (qa_cons (qe_var 6) (qa_nil)))))) (qe_var 10)) (nomark _)) (qss_one (qs_ret (qe_bl))) (qss_nil))
    (qss_cons (qs_if (qt_cmp (op_neA (units_of C)) sd_ne (qe_call C F_cheapest (qa_cons (qe_var 1) (qa_cons (qe_bin op_addD sd_add (qe_bin op_mulD sd_mul (qe_var 9) (qe_var 2)) (qe_var 2)) (qa_cons (qe_bin op_addD sd_add (qe_var 4) (qe_var 10)) (qa_cons (qe_bin op_addD sd_add (qe_bin op_addD sd_add (qe_var 6) (qe_var 10)) (qe_bin op_pow sd_pow (qe_int) (qe_int))) (qa_nil)))))) (qe_bin op_addD sd_add (qe_var 4) (qe_var 10)) (nomark _)) (qss_one (qs_ret (qe_bl))) (qss_nil))
    (qss_cons (qs_set 11 C.nd (qe_bin op_mod sd_mod (qe_callT call_int1 sd_int G.z_int (by decide +kernel) (qa_cons (qe_var 5) (qa_nil))) (qe_var 2)))
    (qss_cons (qs_set 12 C.nd (qe_call C F_cheapest (qa_cons (qe_var 1) (qa_cons (qe_bin op_addD sd_add (qe_var 5) (qe_bin op_mulD sd_mul (qe_var 9) (qe_var 2))) (qa_cons (qe_int) (qa_cons (qe_bin op_pow sd_pow (qe_int) (qe_int)) (qa_nil)))))))
    (qss_one (qs_ret (qe_and (qe_cmp (op_eqA (units_of C)) sd_eq (qe_var 12) (qe_ix (ix_any C) sd_ix (qe_var 8) (qe_var 11) (fun _ _ => rfl)) (nomark _)) (qe_one (qe_cmp (op_eqA (units_of C)) sd_eq (qe_call C F_cheapest (qa_cons (qe_var 1) (qa_cons (qe_var 5) (qa_cons (qe_int) (qa_cons (qe_bin op_sub sd_sub (qe_var 2) (qe_int)) (qa_nil)))))) (qe_ix (ix_any C) sd_ix (qe_var 8) (qe_var 11) (fun _ _ => rfl)) (nomark _)))))))))))))))))))))
/-! _law_rates -/
abbrev s_law_rates : Stmt := top 20
abbrev N_law_rates : List Str := ["_law_m", "_law_kind", "_law_k"]
theorem sc_law_rates : FnScope N_law_rates ["_law_m"] (defScope s_law_rates) := ⟨rfl, rfl, rfl, by decide +kernel, rfl, by decide +kernel, by decide +kernel⟩
def E_law_rates_1 : ME := mBin pyIx (mVar 1) (mCall m_law_draw (mCons (mVar 0) (mCons (mCall pyLen (mCons (mVar 1) (mNil))) (mNil))))
def b_law_rates : MS := sSeq (sAsg (mBin pyIx (mLst (mCons (mLst (mCons (mC (.int 0)) (mCons (mC (.int 1)) (mNil)))) (mCons (mLst (mCons (mC (.int 0)) (mCons (mC (.int 3)) (mCons (mC (.int 5)) (mCons (mC (.int 5)) (mNil)))))) (mCons (mLst (mCons (mC (.int 0)) (mCons (mBin pyPow (mC (.int 10)) (mC (.int 6))) (mCons (mC (.int 7)) (mCons (mBin pySub (mBin pyPow (mC (.int 10)) (mC (.int 6))) (mC (.int 1))) (mNil)))))) (mCons (mLst (mCons (mC (.int 2)) (mNil))) (mNil)))))) (mCall m_law_draw (mCons (mVar 0) (mCons (mC (.int 4)) (mNil))))) (gN 1))
    (sRet (mCall pyTuple (mCons (mLc (mRng1 (mBin pyAdd (mC (.int 1)) (mCall m_law_draw (mCons (mVar 0) (mCons (mC (.int 24)) (mNil)))))) (gN 2) (mYes) (E_law_rates_1) [2]) (mNil))))
def m_law_rates : List D → IH → Res D := mBody 3 b_law_rates
theorem ok_law_rates {P : Program} {w : World} {K : PySem.W.Frag} {mg : MG} {base : Heap} {f : Addr} {fd : FuncData} (G : Gs mg) (F : FunD K "_law_rates" "_law_rates" (defArgs s_law_rates) (defBody s_law_rates) (defScope s_law_rates) [] [] f fd) (hm : mg "_law_rates" = some (.ref f))
    (F_law_draw : Fn P w K mg base 2 "_law_draw" m_law_draw 2)
    : Fn P w K mg base 3 "_law_rates" m_law_rates 1 := mk_fn F sc_law_rates hm (fun _ _ _ _ _ _ us hl => match us, hl with | [_], _ => rfl) fun cv A out s H E C =>
  qss_cons (qs_set 1 C.nd (qe_ix (ix_any C) sd_ix (qe_lst (qa_cons (qe_lst (qa_cons (qe_int) (qa_cons (qe_int) (qa_nil)))) (qa_cons (qe_lst (qa_cons (qe_int) (qa_cons (qe_int) (qa_cons (qe_int) (qa_cons (qe_int) (qa_nil)))))) (qa_cons (qe_lst (qa_cons (qe_int) (qa_cons (qe_bin op_pow sd_pow (qe_int) (qe_int)) (qa_cons (qe_int) (qa_cons (qe_bin op_sub sd_sub (qe_bin op_pow sd_pow (qe_int) (qe_int)) (qe_int)) (qa_nil)))))) (qa_cons (qe_lst (qa_cons (qe_int) (qa_nil))) (qa_nil)))))) (qe_call C F_law_draw (qa_cons (qe_var 0) (qa_cons (qe_int) (qa_nil)))) (fun _ _ => rfl)))
    (qss_one (qs_ret (qe_callT call_tuple_of sd_tuple G.z_tuple (by decide +kernel) (qa_cons (qe_lc [("_law_k", 2)] C (qi_range1 G.z_range (qe_bin op_addD sd_add (qe_int) (qe_call C F_law_draw (qa_cons (qe_var 0) (qa_cons (qe_int) (qa_nil)))))) (blkOk_by (own := [("_law_k", 2)]) (N := N_law_rates) (sc := defScope s_law_rates) (by decide +kernel)) (fun _ _ _ _ _ C => qx_name 2 C.nd) (fun _ _ _ _ _ C => qts_nil) (fun _ _ _ _ _ C => qe_ix (ix_any C) sd_ix (qe_var 1) (qe_call C F_law_draw (qa_cons (qe_var 0) (qa_cons (qe_callB call_len sd_len G.z_len (by decide +kernel) (qa_cons (qe_var 1) (qa_nil))) (qa_nil)))) (fun _ _ => rfl))) (qa_nil)))))
/-! law -/
abbrev s_law : Stmt := top 23
abbrev N_law : List Str := ["_law_script", "_law_m", "_law_turn", "_law_night", "_law_said"]
theorem sc_law : FnScope N_law ["_law_script"] (defScope s_law) := ⟨rfl, rfl, rfl, by decide +kernel, rfl, by decide +kernel, by decide +kernel⟩
def B_law_1 : MS := sIf (mNot (mTru (mCall m_law_right (mCons (mVar 1) (mCons (mCall m_law_rates (mCons (mVar 1) (mNil))) (mNil)))))) (sRet (mC (.bl false))) (sNil)
def b_law : MS := sSeq (sAsg (mCall m_law_begun (mCons (mVar 0) (mNil))) (gN 1))
    (sSeq (sFor (mRng1 (mBin pyAdd (mC (.int 6)) (mCall pyMin (mCons (mC (.int 12)) (mCons (mCall pyLen (mCons (mVar 0) (mNil))) (mNil)))))) (gN 2) (B_law_1))
    (sSeq (sAsg (mTup (mCons (mC (.int 9)) (mCons (mC (.int 9)) (mCons (mC (.int 1)) (mCons (mC (.int 1)) (mCons (mC (.int 9)) (mNil))))))) (gN 3))
    (sSeq (sAsg (mLst (mCons (mCall m_cost (mCons (mVar 3) (mCons (mC (.int 3)) (mCons (mC (.int 4)) (mNil))))) (mCons (mCall m_cheapest (mCons (mVar 3) (mCons (mC (.int 2)) (mCons (mC (.int 0)) (mCons (mC (.int 9)) (mNil)))))) (mCons (mCall m_cheapest (mCons (mVar 3) (mCons (mC (.int 7)) (mCons (mC (.int 3)) (mCons (mC (.int 20)) (mNil)))))) (mCons (mCall m_table (mCons (mVar 3) (mNil))) (mNil)))))) (gN 4))
    (sRet (mBin pyEq (mVar 4) (mLst (mCons (mC (.int 28)) (mCons (mC (.int 2)) (mCons (mC (.int 7)) (mCons (mTup (mCons (mC (.int 0)) (mCons (mC (.int 2)) (mCons (mC (.int 2)) (mCons (mC (.int 1)) (mCons (mC (.int 0)) (mNil))))))) (mNil)))))))))))
def m_law : List D → IH → Res D := mBody 5 b_law
theorem ok_law {P : Program} {w : World} {K : PySem.W.Frag} {mg : MG} {base : Heap} {f : Addr} {fd : FuncData} (G : Gs mg) (F : FunD K "law" "law" (defArgs s_law) (defBody s_law) (defScope s_law) [] [] f fd) (hm : mg "law" = some (.ref f))
    (F_law_begun : Fn P w K mg base 1 "_law_begun" m_law_begun 1)
    (F_cost : Fn P w K mg base 3 "cost" m_cost 3)
    (F_cheapest : Fn P w K mg base 3 "cheapest" m_cheapest 4)
    (F_table : Fn P w K mg base 3 "table" m_table 1)
    (F_law_right : Fn P w K mg base 4 "_law_right" m_law_right 2)
    (F_law_rates : Fn P w K mg base 3 "_law_rates" m_law_rates 1)
    : FnG P w K mg base 5 f fd ["_law_script"] (spM mg K m_law 1) := mk_fnG F sc_law fun cv A out s H E C =>
  qss_cons (qs_set 1 C.nd (qe_call C F_law_begun (qa_cons (qe_var 0) (qa_nil))))
    (qss_cons (qs_for C (qi_range1 G.z_range (qe_bin op_addD sd_add (qe_int) (qe_callB (cr_minA C) sd_min G.z_min (by decide +kernel) (qa_cons (qe_int) (qa_cons (qe_callB call_len sd_len G.z_len (by decide +kernel) (qa_cons (qe_var 0) (qa_nil))) (qa_nil)))))) (qg_name 2 C.nd) (qss_one (qs_if (qt_not (qt_tru (qe_call C F_law_right (qa_cons (qe_var 1) (qa_cons (qe_call C F_law_rates (qa_cons (qe_var 1) (qa_nil))) (qa_nil)))))) (qss_one (qs_ret (qe_bl))) (qss_nil))))
    (qss_cons (qs_set 3 C.nd (qe_tup (qa_cons (qe_int) (qa_cons (qe_int) (qa_cons (qe_int) (qa_cons (qe_int) (qa_cons (qe_int) (qa_nil))))))))
    (qss_cons (qs_set 4 C.nd (qe_lst (qa_cons (qe_call C F_cost (qa_cons (qe_var 3) (qa_cons (qe_int) (qa_cons (qe_int) (qa_nil))))) (qa_cons (qe_call C F_cheapest (qa_cons (qe_var 3) (qa_cons (qe_int) (qa_cons (qe_int) (qa_cons (qe_int) (qa_nil)))))) (qa_cons (qe_call C F_cheapest (qa_cons (qe_var 3) (qa_cons (qe_int) (qa_cons (qe_int) (qa_cons (qe_int) (qa_nil)))))) (qa_cons (qe_call C F_table (qa_cons (qe_var 3) (qa_nil))) (qa_nil)))))))
    (qss_one (qs_ret (qe_cmp (op_eqA (units_of C)) sd_eq (qe_var 4) (qe_lst (qa_cons (qe_int) (qa_cons (qe_int) (qa_cons (qe_int) (qa_cons (qe_tup (qa_cons (qe_int) (qa_cons (qe_int) (qa_cons (qe_int) (qa_cons (qe_int) (qa_cons (qe_int) (qa_nil))))))) (qa_nil)))))) (nomark _)))))))
end LW
set_option Elab.async false
set_option linter.all false
set_option maxRecDepth 100000
set_option maxHeartbeats 1000000
namespace LW
open PySem L2 DD
local macro_rules | `(tactic| walk_at "dd") => `(tactic| simp only [mBody, enOf, sNil, sSeq, sIf, sRet, sRetN, sAsg, sExpr, sPar, sPar3, sAug, gN, gT, gsCons, gsNil, toOut, mOr, mAnd, mNot, mTru, mTst, mBin, mUn, mCall, mCons, mNil, mVar, mC, mTup, mLst, mIf, mChain, mOrV, mAndV, mNotV, mSl, moN, moS, mMeth, sFor, mEn, enSrc, mLc, lcRun, mIt, srcD, mRng1, mRng2, mYes, Res.bind, Res.bindS, Out.then, DD.pyIsi, tyD, knownT, isiB, pyCmp, DD.pyIs, DD.pyIsNot, isNon, truD, DD.pyAdd, DD.pySub, DD.pyMul, DD.pyDiv, DD.pyMod, DD.pyPow, DD.pyLen, lenD, DD.pyInt, DD.pySlice, DD.pySum, DD.pyTuple, DD.pyMin, DD.pyIx, seqD, seqL, wipeE, rangeD_map, List.map_cons, List.map_nil, List.length_cons, List.length_nil, List.length_map, List.replicate, List.append_nil, List.nil_append, List.cons_append, List.set_cons_zero, List.set_cons_succ, List.getElem?_cons_zero, List.getElem?_cons_succ, Nat.reduceAdd, Nat.reduceSub, Nat.zero_add, if_true, if_false, Bool.false_eq_true, Bool.not_true, Bool.not_false, decide_true, decide_false, reduceIte, String.reduceBEq, Bool.or_true, Bool.true_or, Bool.or_false, Bool.false_or, Bool.and_true, Bool.and_false, Bool.true_and, Bool.false_and, Bool.and_self, String.reduceBNe, decide_eq_true_eq, reduceCtorEq, intsD_map, and_self, lstAt_last, *])
abbrev tt (ns : List Int) : D := .tup (ns.map D.int)
structure Tf (ns : List Int) : Prop where
  l1 : 1 ≤ ns.length
  l2 : ns.length ≤ 24
  p : ∀ x ∈ ns, 0 ≤ x ∧ x ≤ 1000000
theorem sum_le : ∀ {ns : List Int}, (∀ x ∈ ns, 0 ≤ x ∧ x ≤ 1000000) → 0 ≤ ns.sum ∧ ns.sum ≤ 1000000 * (ns.length : Int)
  | [], _ => by simp
  | x :: ns, h => by
    have h1 := h x List.mem_cons_self
    have h2 := sum_le fun y hy => h y (List.mem_cons_of_mem _ hy)
    rw [List.sum_cons, List.length_cons]
    omega
theorem cut_take {α : Type} (xs : List α) (k : Int) (h : 0 ≤ k) : cutA xs none (some k) = xs.take k.toNat := by
  unfold cutA
  simp only [HT.sIx_none, List.drop_zero, Nat.sub_zero]
  have e : HT.sIx xs.length xs.length (some k) = min k.toNat xs.length := by
    show (if k < 0 then (k + (xs.length : Int)).toNat else min k.toNat xs.length) = _
    rw [if_neg (by omega)]
  rw [e]
  by_cases z : k.toNat ≤ xs.length
  · rw [Nat.min_eq_left z]
  · rw [Nat.min_eq_right (by omega), List.take_length, List.take_of_length_le (by omega)]
theorem is_whole_ok (i lo hi : Int) (h : IH) : m_is_whole [.int i, .int lo, .int hi] h = .val (.bl (decide (lo ≤ i) && decide (i ≤ hi))) h := by
  unfold m_is_whole b_is_whole
  by_cases h1 : i < lo
  · have h2 : ¬ lo ≤ i := by omega
    walk_at "dd"
  · have h2 : lo ≤ i := by omega
    walk_at "dd"
theorem need_tariff_ok {ns : List Int} (T : Tf ns) (h : IH) : m_need_tariff [tt ns] h = .val (tt ns) h := by
  obtain ⟨l1, l2, p⟩ := T
  have c1 : (1 : Int) ≤ (ns.length : Int) := by omega
  have c2 : (ns.length : Int) ≤ 24 := by omega
  obtain ⟨e2, h2, z, _, rfl, a, b, rfl⟩ := forS_inv (t := gT 2 (gsCons (gN 1) (gsCons (gN 2) gsNil))) (b := B_need_tariff_1) (fun ds env h' => (∃ k ms, ds = enumD k (ms.map D.int) ∧ ∀ x ∈ ms, 0 ≤ x ∧ x ≤ 1000000) ∧ h' = h ∧ ∃ a b, env = [some (tt ns), a, b])
    (fun d ds env h' ⟨⟨k, ms, e, pm⟩, e3, a, b, e4⟩ => by
      subst e3 e4
      cases ms with
      | nil => cases e
      | cons x ms =>
        cases e
        have px := pm x List.mem_cons_self
        refine ⟨[some (tt ns), some (.int k), some (.int x)], h', [some (tt ns), some (.int k), some (.int x)], h', rfl, .inl ?_, ⟨k + 1, ms, rfl, fun y hy => pm y (List.mem_cons_of_mem _ hy)⟩, rfl, _, _, rfl⟩
        unfold B_need_tariff_1
        have e1 := is_whole_ok x 0 1000000 h'
        have c3 := px.1
        have c4 := px.2
        walk_at "dd") _ [some (tt ns), none, none] h ⟨⟨0, ns, rfl, p⟩, rfl, _, _, rfl⟩
  unfold m_need_tariff b_need_tariff
  walk_at "dd"
theorem ahead_of_ok {ns : List Int} (T : Tf ns) {m : Int} (hm : 0 ≤ m) (h : IH) : m_ahead_of [tt ns, .int m] h = .val (.int (Tar.A ns m)) h := by
  obtain ⟨l1, l2, p⟩ := T
  have c1 : (0 : Int) < (ns.length : Int) := by omega
  have c2 : (ns.length : Int) < 1073741824 := by omega
  have s1 := sum_le p
  have c3 : (-(2 ^ 64) < m / (ns.length : Int) ∧ m / (ns.length : Int) < 2 ^ 64) ∨ (-(2 ^ 64) < ns.sum ∧ ns.sum < 2 ^ 64) := .inr (by omega)
  have c4 := Int.emod_nonneg m (Int.ne_of_gt c1)
  unfold m_ahead_of b_ahead_of Tar.A
  have c5 := cut_take (ns.map D.int) _ c4
  rw [← List.map_take] at c5
  walk_at "dd"
theorem cost_of_ok {ns : List Int} (T : Tf ns) {b n : Int} (hb : 0 ≤ b) (hn : 0 ≤ n) (h : IH) : m_cost_of [tt ns, .int b, .int n] h = .val (.int (Tar.C ns n b)) h := by
  have e1 := ahead_of_ok T (m := b + n) (by omega) h
  have e2 := ahead_of_ok T hb h
  unfold m_cost_of b_cost_of Tar.C
  walk_at "dd"
theorem cost_ok {ns : List Int} (T : Tf ns) {b n : Int} (hb : 0 ≤ b) (hb2 : b ≤ 1000000000000000000000000000000) (hn : 1 ≤ n) (hn2 : n ≤ 1000000000000000000000000000000) (h : IH) : m_cost [tt ns, .int b, .int n] h = .val (.int (Tar.C ns n b)) h := by
  have e1 := cost_of_ok T hb (n := n) (by omega) h
  have e2 := need_tariff_ok T h
  have e3 := is_whole_ok b 0 1000000000000000000000000000000 h
  have e4 := is_whole_ok n 1 1000000000000000000000000000000 h
  unfold m_cost b_cost
  walk_at "dd"
theorem cheapest_ok {ns : List Int} (T : Tf ns) {n lo hi : Int} (hn : 1 ≤ n) (hn2 : n ≤ 1000000000000000000000000000000) (hlo : 0 ≤ lo) (hlh : lo ≤ hi) (hhi : hi ≤ 1000000000000000000000000000000) (h : IH) :
    ∃ b q, m_cheapest [tt ns, .int n, .int lo, .int hi] h = .val (.int b) (h ++ q) ∧ IsFirst (Tar.C ns n) lo hi b := by
  have e2 := need_tariff_ok T h
  have e3 := is_whole_ok n 1 1000000000000000000000000000000 h
  have e4 := is_whole_ok lo 0 1000000000000000000000000000000 h
  have e5 := is_whole_ok hi lo 1000000000000000000000000000000 h
  have l1 := T.l1
  have l2 := T.l2
  generalize hl : (if lo + (ns.length : Int) - 1 < hi then lo + (ns.length : Int) - 1 else hi) = last
  have b1 : lo ≤ last := by
    rw [← hl]
    split <;> omega
  have b2 : last ≤ hi := by
    rw [← hl]
    split <;> omega
  have b3 : last ≤ lo + 23 := by
    rw [← hl]
    split <;> omega
  obtain ⟨N, hN⟩ : ∃ N : Nat, (last + 1 - lo).toNat = N + 1 := ⟨(last - lo).toNat, by omega⟩
  have hN2 : lo + (N : Int) = last := by omega
  have c6 : lo ≤ 1000000000000000000000000000000 := by omega
  obtain ⟨q, LC⟩ := lcS_map (t := gN 5) (c := mYes) (e := E_cheapest_1) (env := [some (tt ns), some (.int n), some (.int lo), some (.int hi), some (.int last), none]) (fun i : Nat => D.int (lo + (i : Int))) (fun i : Nat => D.tup [.int (Tar.C ns n (lo + (i : Int))), .int (lo + (i : Int))]) (xs := List.range (N + 1)) (h0 := h)
    (fun x _ q => ⟨[some (tt ns), some (.int n), some (.int lo), some (.int hi), some (.int last), some (.int (lo + (x : Int)))], q, rfl, rfl, by
      have e1 := cost_of_ok T (b := lo + (x : Int)) (n := n) (by omega) (by omega) (h ++ q)
      have e9 : 2 ≤ sizeLine := by decide
      unfold E_cheapest_1
      walk_at "dd"⟩) (by rw [List.length_range]; have : (24 : Nat) ≤ sizeLine := by decide
                         omega)
  obtain ⟨b, e7, e8⟩ := bestO_first (Tar.C ns n) lo N (h ++ q ++ [.lst ((List.range (N + 1)).map fun i : Nat => D.tup [.int (Tar.C ns n (lo + (i : Int))), .int (lo + (i : Int))])])
  refine ⟨b, q ++ [.lst ((List.range (N + 1)).map fun i : Nat => D.tup [.int (Tar.C ns n (lo + (i : Int))), .int (lo + (i : Int))])], ?_, Tar.first_wide l1 ?_⟩
  · unfold m_cheapest b_cheapest
    rw [← List.append_assoc]
    have e10 : atI [D.int (Tar.C ns n b), D.int b] 1 = some (.int b) := rfl
    clear e8 hN2 b1 b2 b3 l1 l2
    walk_at "dd"
  · rw [hl, ← hN2]
    exact e8
theorem get_mid (h : IH) (o : IO) (q : IH) : (h ++ o :: q)[h.length]? = some o := by
  rw [List.getElem?_append_right (Nat.le_refl _), Nat.sub_self]
  rfl
theorem lst_mid (h : IH) (xs : List D) (q : IH) : lstAt (h ++ .lst xs :: q) h.length = some xs := by
  unfold lstAt
  rw [get_mid]
theorem set_mid (h : IH) (o o' : IO) (q : IH) : (h ++ o :: q).set h.length o' = h ++ o' :: q := by
  rw [List.set_append_right _ _ (Nat.le_refl _), Nat.sub_self]
  rfl
theorem table_turn {ns : List Int} (T : Tf ns) (k : Nat) (x y : Option D) (p : Nat) (g : IH) : ∃ b q, mCall DD.pyMin (mCons (mLc (mRng1 (mCall DD.pyLen (mCons (mVar 0) (mNil)))) (gN 3) (mYes) (E_table_1) [3]) (mNil)) [some (tt ns), some (.ref p), some (.int k), y] g = .val (.tup [.int (Tar.C ns k b), .int b]) (g ++ q) ∧ IsFirst (Tar.C ns k) 0 ((ns.length : Int) - 1) b := by
  have l1 := T.l1
  have l2 := T.l2
  obtain ⟨N, hN⟩ : ∃ N : Nat, ns.length = N + 1 := ⟨ns.length - 1, by omega⟩
  obtain ⟨q, LC⟩ := lcS_map (t := gN 3) (c := mYes) (e := E_table_1) (env := [some (tt ns), some (.ref p), some (.int k), none]) (fun i : Nat => D.int (0 + (i : Int))) (fun i : Nat => D.tup [.int (Tar.C ns k (0 + (i : Int))), .int (0 + (i : Int))]) (xs := List.range (N + 1)) (h0 := g)
    (fun z _ q => ⟨[some (tt ns), some (.ref p), some (.int k), some (.int (0 + (z : Int)))], q, rfl, rfl, by
      have e1 := cost_of_ok T (b := 0 + (z : Int)) (n := k) (by omega) (by omega) (g ++ q)
      have e9 : 2 ≤ sizeLine := by decide
      unfold E_table_1
      clear l1 l2 hN
      walk_at "dd"⟩) (by rw [List.length_range]; have : (24 : Nat) ≤ sizeLine := by decide
                         omega)
  obtain ⟨b, e7, e8⟩ := bestO_first (Tar.C ns k) 0 N (g ++ q ++ [.lst ((List.range (N + 1)).map fun i : Nat => D.tup [.int (Tar.C ns k (0 + (i : Int))), .int (0 + (i : Int))])])
  refine ⟨b, q ++ [.lst ((List.range (N + 1)).map fun i : Nat => D.tup [.int (Tar.C ns k (0 + (i : Int))), .int (0 + (i : Int))])], ?_, ?_⟩
  · rw [← List.append_assoc]
    have e3 : ((ns.length : Nat) : Int).toNat = N + 1 := by omega
    clear e8 l1 l2 hN
    walk_at "dd"
  · have e : (ns.length : Int) - 1 = 0 + (N : Int) := by omega
    rw [e]
    exact e8
theorem table_ok {ns : List Int} (T : Tf ns) (h : IH) : ∃ fs q, m_table [tt ns] h = .val (tt fs) (h ++ q) ∧ fs.length = ns.length ∧ ∀ k b, fs[k]? = some b → IsFirst (Tar.C ns (k : Nat)) 0 ((ns.length : Int) - 1) b := by
  have l1 := T.l1
  have l2 := T.l2
  have e2 := need_tariff_ok T h
  obtain ⟨e3, h3, z, fs, q, hnil, rfl, hlen, hfs, a, b, rfl⟩ := forS_inv (t := gN 2) (b := B_table_2) (fun ds env h' => ∃ fs q, ds = (rangeD 0 ns.length).drop fs.length ∧ h' = h ++ .lst (fs.map D.int) :: q ∧ fs.length ≤ ns.length ∧ (∀ k b, fs[k]? = some b → IsFirst (Tar.C ns (k : Nat)) 0 ((ns.length : Int) - 1) b) ∧ ∃ a b, env = [some (tt ns), some (.ref h.length), a, b])
    (fun d ds env h' ⟨fs, q, e1, e3, e4, e5, a, b, e6⟩ => by
      subst e3 e6
      have hlt : fs.length < (rangeD 0 ns.length).length := by
        rcases Nat.lt_or_ge fs.length (rangeD 0 ns.length).length with z | z
        · exact z
        · rw [List.drop_eq_nil_of_le z] at e1
          cases e1
      rw [List.drop_eq_getElem_cons hlt] at e1
      injection e1 with e1 e7
      have hd := rangeD_get (lo := 0) (n := ns.length) (i := fs.length) (d := d) (by rw [List.getElem?_eq_getElem hlt, e1])
      obtain ⟨h8, e8⟩ := hd
      obtain ⟨bb, q2, t1, t2⟩ := table_turn T fs.length none b h.length (h ++ .lst (fs.map D.int) :: q)
      refine ⟨[some (tt ns), some (.ref h.length), some d, b], _, [some (tt ns), some (.ref h.length), some d, b], h ++ .lst ((fs ++ [bb]).map D.int) :: (q ++ q2), rfl, .inl ?_, fs ++ [bb], q ++ q2, ?_, rfl, ?_, ?_, _, _, rfl⟩
      · unfold B_table_2
        have t3 : ((h ++ IO.lst (fs.map D.int) :: q) ++ q2) = h ++ .lst (fs.map D.int) :: (q ++ q2) := by simp
        rw [t3] at t1
        have e10 : atI [D.int (Tar.C ns fs.length bb), D.int bb] 1 = some (.int bb) := rfl
        have e11 : fs.length < sizeLine := by
          have : (24 : Nat) ≤ sizeLine := by decide
          omega
        have e12 := get_mid h (.lst (fs.map D.int)) q
        have e13 := lst_mid h (fs.map D.int) (q ++ q2)
        have e14 := set_mid h (.lst (fs.map D.int)) (.lst (fs.map D.int ++ [.int bb])) (q ++ q2)
        have e15 : d = .int (fs.length : Nat) := by
          rw [e8]
          simp
        subst e15
        simp only [sExpr, mMeth, mVar, List.getElem?_cons_zero, List.getElem?_cons_succ, Res.bind, tyD, e12, if_true, mCons, mBin, t1, DD.pyIx, mC, e10, mNil, DD.pyAppend, e13, List.length_map, if_pos e11, e14, Res.bindS, List.map_append, List.map_cons, List.map_nil]
      · rw [List.length_append, List.length_singleton]
        exact e7
      · rw [List.length_append, List.length_singleton]
        omega
      · intro k c hk
        rcases Nat.lt_or_ge k fs.length with z | z
        · rw [List.getElem?_append_left z] at hk
          exact e5 k c hk
        · rw [List.getElem?_append_right z] at hk
          have z2 : k = fs.length := by
            have := (List.getElem?_eq_some_iff.mp hk).1
            rw [List.length_singleton] at this
            omega
          subst z2
          rw [Nat.sub_self] at hk
          cases hk
          exact t2) _ [some (tt ns), some (.ref h.length), none, none] (h ++ [.lst []]) ⟨[], [], rfl, rfl, Nat.zero_le _, fun k b hk => by simp at hk, _, _, rfl⟩
  have hl2 : fs.length = ns.length := by
    have := hlen
    have z2 := congrArg List.length hnil
    rw [List.length_drop, List.length_nil] at z2
    have z3 : (rangeD 0 ns.length).length = ns.length := by
      unfold rangeD
      rw [List.length_map, List.length_range]
    omega
  refine ⟨fs, .lst (fs.map D.int) :: q, ?_, hl2, hfs⟩
  have e13 := lst_mid h (fs.map D.int) q
  have e14 : ((ns.length : Nat) : Int).toNat = ns.length := by omega
  have e15 : 0 ≤ sizeLine := Nat.zero_le _
  unfold m_table b_table
  have z4 : (rangeD 0 ns.length).drop ([] : List Int).length = (List.range ns.length).map (fun i : Nat => D.int (0 + (i : Int))) := rfl
  rw [z4] at z
  clear hnil hlen l1 l2 hl2
  walk_at "dd"
end LW
set_option Elab.async false
set_option linter.all false
set_option maxRecDepth 100000
set_option maxHeartbeats 1000000
namespace LW
open PySem L2 DD
local macro_rules | `(tactic| walk_at "dd") => `(tactic| simp only [mBody, enOf, sNil, sSeq, sIf, sRet, sRetN, sAsg, sExpr, sPar, sPar3, sAug, gN, gT, gsCons, gsNil, gSubM, toOut, mOr, mAnd, mNot, mTru, mTst, mBin, mUn, mCall, mCons, mNil, mVar, mC, mTup, mLst, mIf, mChain, mOrV, mAndV, mNotV, mSl, moN, moS, mMeth, mDic, pCons, pNil, keysD, keyD, sFor, mEn, enSrc, mLc, lcRun, mIt, srcD, mRng1, mRng2, mYes, Res.bind, Res.bindS, Out.then, DD.pyIsi, tyD, knownT, isiB, pyCmp, DD.pyIs, DD.pyIsNot, isNon, truD, DD.pyAdd, DD.pySub, DD.pyMul, DD.pyDiv, DD.pyMod, DD.pyPow, DD.pyLen, lenD, DD.pyInt, DD.pySlice, DD.pySum, DD.pyTuple, DD.pyMin, DD.pyList, seqD, seqL, wipeE, rangeD_map, List.map_cons, List.map_nil, List.length_cons, List.length_nil, List.length_map, List.replicate, List.append_nil, List.nil_append, List.cons_append, List.set_cons_zero, List.set_cons_succ, List.getElem?_cons_zero, List.getElem?_cons_succ, Nat.reduceAdd, Nat.reduceSub, Nat.zero_add, if_true, if_false, Bool.false_eq_true, Bool.not_true, Bool.not_false, decide_true, decide_false, reduceIte, String.reduceBEq, Bool.or_true, Bool.true_or, Bool.or_false, Bool.false_or, Bool.and_true, Bool.and_false, Bool.true_and, Bool.false_and, Bool.and_self, String.reduceBNe, decide_eq_true_eq, reduceCtorEq, intsD_map, and_self, lstAt_last, Int.reducePow, Int.reduceNeg, Int.reduceLT, Int.reduceLE, na10, na2, Int.reduceToNat, Nat.reducePow, Nat.reduceLT, Nat.reduceLeDiff, true_and, and_true, or_true, true_or, Option.map_some, *])
abbrev kC : Key := .inr "cells"
abbrev kL : Key := .inr "left"
abbrev kS : Key := .inr "spot"
abbrev dM (s : Int) : List (Key × D) := [(kC, .ref 1), (kL, .ref 2), (kS, .int s)]
theorem nCS : ¬ kC = kS := by decide
theorem nLS : ¬ kL = kS := by decide
theorem nCL : ¬ kC = kL := by decide
theorem vC (s : Int) : valD (dM s) kC = some (.ref 1) := by simp only [valD, if_true]
theorem vL (s : Int) : valD (dM s) kL = some (.ref 2) := by simp only [valD, if_true, nCL, if_false]
theorem vS (s : Int) : valD (dM s) kS = some (.int s) := by simp only [valD, if_true, nCS, nLS, if_false]
theorem pS (s t : Int) : putD (dM s) kS (.int t) = dM t := by
  unfold putD hasD
  rw [vS]
  simp only [Option.isSome, if_true, setD, nCS, nLS, if_false]
structure St (h : IH) (cs ls : List Int) (s : Int) : Prop where
  c : h[1]? = some (.lst (cs.map D.int))
  l : h[2]? = some (.lst (ls.map D.int))
  m : h[3]? = some (.dic (dM s))
  e : cs.length = ls.length
  p : 0 < cs.length
  q : cs.length ≤ 63
  s0 : 0 ≤ s
def Sb (h : IH) (B : Nat) : Prop := ∃ cs ls s, St h cs ls s ∧ s ≤ (B : Int)
theorem Sb.app {h : IH} {B : Nat} (x : Sb h B) (g : IH) : Sb (h ++ g) B := by
  obtain ⟨cs, ls, s, y, hb⟩ := x
  exact ⟨cs, ls, s, ⟨getE_app y.c g, getE_app y.l g, getE_app y.m g, y.e, y.p, y.q, y.s0⟩, hb⟩
theorem Sb.mono {h : IH} {B B' : Nat} (x : Sb h B) (hb : B ≤ B') : Sb h B' := by
  obtain ⟨cs, ls, s, y, z⟩ := x
  exact ⟨cs, ls, s, y, by omega⟩
theorem mix_ok (c s : Int) (h0 : 0 ≤ s) (h1 : s < 2 ^ 64) (h : IH) : ∃ r, m_law_mix [.int c, .int s] h = .val (.int r) h := by
  have c1 : (-(2 ^ 64) < s ∧ s < 2 ^ 64) ∨ (-(2 ^ 64) < s ∧ s < 2 ^ 64) := .inl ⟨by omega, h1⟩
  simp only [Int.reducePow, Int.reduceNeg] at c1
  unfold m_law_mix b_law_mix
  clear h0 h1
  walk_at "dd"
  exact ⟨_, rfl⟩
theorem atI_map (ns : List Int) (i : Int) (h0 : 0 ≤ i) (h1 : i < (ns.length : Int)) : atI (ns.map D.int) i = some (.int (ns.getD i.toNat 0)) := by
  unfold atI ixN
  rw [List.length_map, if_pos h0, if_pos h1]
  show (ns.map D.int)[i.toNat]? = _
  have hi : i.toNat < ns.length := by omega
  rw [List.getElem?_map, List.getElem?_eq_getElem hi, List.getD_eq_getElem?_getD, List.getElem?_eq_getElem hi]
  rfl
theorem ixN_map (n : Nat) (i : Int) (h0 : 0 ≤ i) (h1 : i < (n : Int)) : ixN n i = some i.toNat := by
  unfold ixN
  rw [if_pos h0, if_pos h1]
theorem draw_ok {h : IH} {B : Nat} (x : Sb h B) (hB : B < 1000000) {lim : Int} (l0 : 0 < lim) (l1 : lim < 1073741824) : ∃ r h', m_law_draw [.ref 3, .int lim] h = .val (.int r) h' ∧ 0 ≤ r ∧ r < lim ∧ Sb h' (B + 1) ∧ h'.length = h.length ∧ ∀ n, 4 ≤ n → h'[n]? = h[n]? := by
  obtain ⟨cs, ls, s, ⟨c, l, m, e, p, q, s0⟩, hb⟩ := x
  have hL : (0 : Int) < (cs.length : Int) := by omega
  have i0 := Int.emod_nonneg s (Int.ne_of_gt hL)
  have i1 := Int.emod_lt_of_pos s hL
  generalize hi : s % (cs.length : Int) = i at *
  have hlen : 3 < h.length := (List.getElem?_eq_some_iff.mp m).1
  -- behind the first store
  have g1 : (h.set 3 (.dic (dM (s + 1))))[1]? = some (.lst (cs.map D.int)) := by
    rw [List.getElem?_set_ne (by decide)]
    exact c
  have g2 : (h.set 3 (.dic (dM (s + 1))))[2]? = some (.lst (ls.map D.int)) := by
    rw [List.getElem?_set_ne (by decide)]
    exact l
  have g3 : (h.set 3 (.dic (dM (s + 1))))[3]? = some (.dic (dM (s + 1))) := List.getElem?_set_self hlen
  have f1 : DD.pyIx (.ref 3) (.str "spot") h = .val (.int s) h := by
    simp only [DD.pyIx, m, keyD, vS]
  have f2 : DD.pySet (.ref 3) (.str "spot") (.int (s + 1)) h = some (h.set 3 (.dic (dM (s + 1)))) := by
    have z : [(kC, D.ref 1), (kL, D.ref 2), (kS, D.int s)].length < sizeLine := by
      show 3 < sizeLine
      decide
    simp only [DD.pySet, m, keyD, if_pos z, pS]
  have hz : (h.set 3 (.dic (dM (s + 1)))).length = h.length := List.length_set
  have hk : ∀ n, 4 ≤ n → (h.set 3 (.dic (dM (s + 1))))[n]? = h[n]? := fun n hn => List.getElem?_set_ne (by omega)
  generalize h.set 3 (.dic (dM (s + 1))) = h1 at *
  have f3 : DD.pyIx (.ref 3) (.str "cells") h1 = .val (.ref 1) h1 := by
    simp only [DD.pyIx, g3, keyD, vC]
  have f4 : DD.pyIx (.ref 3) (.str "left") h1 = .val (.ref 2) h1 := by
    simp only [DD.pyIx, g3, keyD, vL]
  have i2 : i < (ls.length : Int) := by omega
  have f5 : DD.pyIx (.ref 2) (.int i) h1 = .val (.int (ls.getD i.toNat 0)) h1 := by
    simp only [DD.pyIx, g2, atI_map ls i i0 i2]
  have f6 : DD.pyIx (.ref 1) (.int i) h1 = .val (.int (cs.getD i.toNat 0)) h1 := by
    simp only [DD.pyIx, g1, atI_map cs i i0 i1]
  have f7 : lstAt h1 1 = some (cs.map D.int) := by
    unfold lstAt
    rw [g1]
  generalize ls.getD i.toNat 0 = v at *
  by_cases hv0 : 0 < v
  · -- a digit of a great cell
    have f8 : DD.pySet (.ref 2) (.int i) (.int (v / lim)) h1 = some (h1.set 2 (.lst ((ls.set i.toNat (v / lim)).map D.int))) := by
      have z := ixN_map (ls.map D.int).length i i0 (by rw [List.length_map]; exact i2)
      simp only [DD.pySet, g2, z, List.map_set]
    refine ⟨v % lim, h1.set 2 (.lst ((ls.set i.toNat (v / lim)).map D.int)), ?_, Int.emod_nonneg _ (Int.ne_of_gt l0), Int.emod_lt_of_pos _ l0, ⟨cs, ls.set i.toNat (v / lim), s + 1, ⟨?_, ?_, ?_, ?_, p, q, by omega⟩, by omega⟩, ?_, fun n hn => ?_⟩
    · unfold m_law_draw b_law_draw
      clear hk g1 g2 g3 c l m e p q s0 hb hB i0 i1 i2 hlen hz
      walk_at "dd"
    · rw [List.getElem?_set_ne (by decide)]
      exact g1
    · exact List.getElem?_set_self (by omega)
    · rw [List.getElem?_set_ne (by decide)]
      exact g3
    · rw [List.length_set]
      exact e
    · rw [List.length_set]
      exact hz
    · rw [List.getElem?_set_ne (by omega)]
      exact hk n hn
  · obtain ⟨r, f9⟩ := mix_ok (cs.getD i.toNat 0) s s0 (by omega) h1
    refine ⟨r / 97 % lim, h1, ?_, Int.emod_nonneg _ (Int.ne_of_gt l0), Int.emod_lt_of_pos _ l0, ⟨cs, ls, s + 1, ⟨g1, g2, g3, e, p, q, by omega⟩, by omega⟩, hz, hk⟩
    unfold m_law_draw b_law_draw
    clear hk g1 g2 g3 c l m e p q s0 hb hB i0 i1 i2 hlen hz
    walk_at "dd"
end LW
set_option Elab.async false
set_option linter.all false
set_option maxRecDepth 100000
set_option maxHeartbeats 1000000
namespace LW
open PySem L2 DD
local macro_rules | `(tactic| walk_at "dd") => `(tactic| simp only [mBody, enOf, sNil, sSeq, sIf, sRet, sRetN, sAsg, sExpr, sPar, sPar3, sAug, gN, gT, gsCons, gsNil, gSubM, toOut, mOr, mAnd, mNot, mTru, mTst, mBin, mUn, mCall, mCons, mNil, mVar, mC, mTup, mLst, mIf, mChain, mOrV, mAndV, mNotV, mSl, moN, moS, mMeth, mDic, pCons, pNil, keysD, keyD, sFor, mEn, enSrc, mLc, lcRun, mIt, srcD, mRng1, mRng2, mYes, Res.bind, Res.bindS, Out.then, DD.pyIsi, tyD, knownT, isiB, pyCmp, DD.pyIs, DD.pyIsNot, isNon, truD, DD.pyAdd, DD.pySub, DD.pyMul, DD.pyDiv, DD.pyMod, DD.pyPow, DD.pyLen, lenD, DD.pyInt, DD.pySlice, DD.pySum, DD.pyTuple, DD.pyMin, DD.pyList, seqD, seqL, wipeE, rangeD_map, List.map_cons, List.map_nil, List.length_cons, List.length_nil, List.length_map, List.replicate, List.append_nil, List.nil_append, List.cons_append, List.set_cons_zero, List.set_cons_succ, List.getElem?_cons_zero, List.getElem?_cons_succ, Nat.reduceAdd, Nat.reduceSub, Nat.zero_add, if_true, if_false, Bool.false_eq_true, Bool.not_true, Bool.not_false, decide_true, decide_false, reduceIte, String.reduceBEq, Bool.or_true, Bool.true_or, Bool.or_false, Bool.false_or, Bool.and_true, Bool.and_false, Bool.true_and, Bool.false_and, Bool.and_self, String.reduceBNe, decide_eq_true_eq, reduceCtorEq, intsD_map, and_self, lstAt_last, Int.reducePow, Int.reduceNeg, Int.reduceLT, Int.reduceLE, na10, na2, Int.reduceToNat, Nat.reducePow, Nat.reduceLT, Nat.reduceLeDiff, true_and, and_true, or_true, true_or, Option.map_some, *])
theorem lcL_map {get : IH → Option (List D)} {t : MTg} {c : MT} {e : ME} {env : En} {α : Type} (g : α → D) (f : α → D) {xs : List α} {h0 : IH} (hg : ∀ q, get (h0 ++ q) = some (xs.map g))
    (step : ∀ x ∈ xs, ∀ q, ∃ e1 q', t (g x) env (h0 ++ q) = some (e1, h0 ++ q) ∧ c e1 (h0 ++ q) = .val true (h0 ++ q) ∧ e e1 (h0 ++ q) = .val (f x) (h0 ++ q')) (hl : xs.length ≤ sizeLine) :
    ∃ q', lcL get t c e env (xs.length + 1) 0 [] h0 = .val (xs.map f) (h0 ++ q') := by
  have key : ∀ (k i : Nat) (q : IH), i + k = xs.length → ∃ q', lcL get t c e env (k + 1) i ((xs.take i).map f) (h0 ++ q) = .val (xs.map f) (h0 ++ q') := by
    intro k
    induction k with
    | zero =>
      intro i q hi
      refine ⟨q, ?_⟩
      have z : (xs.map g)[i]? = none := List.getElem?_eq_none_iff.mpr (by rw [List.length_map]; omega)
      simp only [lcL, hg, z]
      rw [List.take_of_length_le (by omega)]
    | succ k ih =>
      intro i q hi
      have hlt : i < xs.length := by omega
      obtain ⟨e1, q1, z1, z2, z3⟩ := step xs[i] (List.getElem_mem hlt) q
      obtain ⟨q2, z4⟩ := ih (i + 1) q1 (by omega)
      refine ⟨q2, ?_⟩
      have z : (xs.map g)[i]? = some (g xs[i]) := by rw [List.getElem?_map, List.getElem?_eq_getElem hlt]; rfl
      have z5 : ((xs.take i).map f).length < sizeLine := by
        rw [List.length_map, List.length_take]
        omega
      have z6 : (xs.take i).map f ++ [f xs[i]] = (xs.take (i + 1)).map f := by
        rw [List.take_add_one, List.getElem?_eq_getElem hlt, List.map_append]
        rfl
      rw [lcL]
      simp only [hg, z, lcT, z1, z2, z3, if_pos z5, z6, z4]
  obtain ⟨q', z⟩ := key xs.length 0 [] (by omega)
  rw [List.append_nil, List.take_zero, List.map_nil] at z
  exact ⟨q', z⟩
theorem lcL_map0 {get : IH → Option (List D)} {t : MTg} {c : MT} {e : ME} {env : En} {α : Type} (g : α → D) (f : α → D) {xs : List α} {h0 : IH} (hg : get h0 = some (xs.map g))
    (step : ∀ x ∈ xs, ∃ e1, t (g x) env h0 = some (e1, h0) ∧ c e1 h0 = .val true h0 ∧ e e1 h0 = .val (f x) h0) (hl : xs.length ≤ sizeLine) : lcL get t c e env (xs.length + 1) 0 [] h0 = .val (xs.map f) h0 := by
  have key : ∀ (k i : Nat), i + k = xs.length → lcL get t c e env (k + 1) i ((xs.take i).map f) h0 = .val (xs.map f) h0 := by
    intro k
    induction k with
    | zero =>
      intro i hi
      have z : (xs.map g)[i]? = none := List.getElem?_eq_none_iff.mpr (by rw [List.length_map]; omega)
      simp only [lcL, hg, z]
      rw [List.take_of_length_le (by omega)]
    | succ k ih =>
      intro i hi
      have hlt : i < xs.length := by omega
      obtain ⟨e1, z1, z2, z3⟩ := step xs[i] (List.getElem_mem hlt)
      have z4 := ih (i + 1) (by omega)
      have z : (xs.map g)[i]? = some (g xs[i]) := by rw [List.getElem?_map, List.getElem?_eq_getElem hlt]; rfl
      have z5 : ((xs.take i).map f).length < sizeLine := by
        rw [List.length_map, List.length_take]
        omega
      have z6 : (xs.take i).map f ++ [f xs[i]] = (xs.take (i + 1)).map f := by
        rw [List.take_add_one, List.getElem?_eq_getElem hlt, List.map_append]
        rfl
      rw [lcL]
      simp only [hg, z, lcT, z1, z2, z3, if_pos z5, z6, z4]
  have z := key xs.length 0 (by omega)
  rw [List.take_zero, List.map_nil] at z
  exact z
theorem mrg (a b c : D) : mergeD [] [(kC, a), (kL, b), (kS, c)] = [(kC, a), (kL, b), (kS, c)] := by
  simp only [mergeD, List.foldl_cons, List.foldl_nil, putD, hasD, valD, nCL, nCS, nLS, if_false, Option.isSome, Bool.false_eq_true, List.nil_append, List.cons_append]
theorem canLay_ints : ∀ ns : List Int, PyData.canLayAll0 (ns.map PyData.int) = true
  | [] => rfl
  | n :: ns => by
    rw [List.map_cons, PyData.canLayAll0, canLay_ints ns]
    rfl
theorem toPy_ints (k : Nat) (h : IH) (ns : List Int) : mapO (toPy (k + 1) h) (ns.map D.int) = some (ns.map PyData.int) := mapO_map fun x _ => rfl
theorem depth_ints : ∀ ns : List Int, PyData.depthAll (ns.map PyData.int) = 0
  | [] => rfl
  | n :: ns => by
    rw [List.map_cons, PyData.depthAll, depth_ints ns]
    rfl
theorem shaped_ints (ns : List Int) : SeqAt.shaped (.list (ns.map PyData.int)) = true := by
  unfold SeqAt.shaped
  simp only [PyData.canLay0, canLay_ints, PyData.depth, depth_ints, Bool.true_and, decide_eq_true_eq]
  omega
theorem begun_ok {ns : List Int} (hn : ns.length ≤ 63) : ∃ h', m_law_begun [scr ns] [] = .val (.ref 3) h' ∧ Sb h' 0 := by
  have n0 : eqO [.lst []] (scr ns) (.ref 0) = some (decide (ns = [])) := by
    have e1 : toPy 12 [.lst []] (scr ns) = some (.list (ns.map PyData.int)) := by
      show (mapO (toPy 11 [.lst []]) (ns.map D.int)).map PyData.list = _
      rw [toPy_ints]
      rfl
    have e2 : toPy 12 [.lst []] (.ref 0) = some (.list []) := rfl
    show eqT _ _ _ = _
    unfold eqT
    rw [e1, e2]
    simp only [shaped_ints, show SeqAt.shaped (.list []) = true from rfl, Bool.and_self, if_true]
    cases ns with
    | nil => rfl
    | cons x xs => simp [PyData.eqv, PyData.eqvAll]
  have f0 : DD.pyNe (scr ns) (.ref 0) [.lst []] = .val (.bl (!decide (ns = []))) [.lst []] := by
    unfold DD.pyNe
    rw [n0]
  by_cases hz : ns = []
  · subst hz
    refine ⟨[.lst [], .lst [.int 0], .lst [.int 0], .dic (dM 0)], ?_, [0], [0], 0, ⟨rfl, rfl, rfl, rfl, by decide, by decide, by decide⟩, by decide⟩
    have e12 : mergeD [] [(kC, .ref 1), (kL, .ref 2), (kS, .int 0)] = dM 0 := mrg _ _ _
    have e13 : lcL (fun h => lstAt h 1) (gN 2) mYes E_law_begun_1 [some (scr []), some (.ref 1), none] 2 0 [] [.lst [], .lst [.int 0]] = .val [.int 0] [.lst [], .lst [.int 0]] := rfl
    have e14 : lstAt [.lst [], .lst [.int 0]] 1 = some [.int 0] := rfl
    have e9 : 0 ≤ sizeLine := Nat.zero_le _
    have e10 : 1 ≤ sizeLine := by decide
    have e11 : 3 ≤ 15 := by decide
    unfold m_law_begun b_law_begun
    clear n0 hn
    walk_at "dd"
  · have hl : 0 < ns.length := List.length_pos_iff.mpr hz
    have LC := lcL_map0 (get := fun h => lstAt h 1) (t := gN 2) (c := mYes) (e := E_law_begun_1) (env := [some (scr ns), some (.ref 1), none]) D.int (fun x => D.int (if 1000000000000000000 ≤ x then x else 0)) (xs := ns) (h0 := [.lst [], .lst (ns.map D.int)]) rfl
      (fun x _ => ⟨[some (scr ns), some (.ref 1), some (.int x)], rfl, rfl, by
        unfold E_law_begun_1
        by_cases hx : (1000000000000000000 : Int) ≤ x
        · clear n0 f0 hz hl hn
          walk_at "dd"
        · clear n0 f0 hz hl hn
          walk_at "dd"⟩) (by have : (63 : Nat) ≤ sizeLine := by decide
                             omega)
    refine ⟨[.lst [], .lst (ns.map D.int), .lst (ns.map fun x => D.int (if 1000000000000000000 ≤ x then x else 0)), .dic (dM 0)], ?_, ns, ns.map (fun x => if 1000000000000000000 ≤ x then x else 0), 0, ⟨rfl, ?_, rfl, by rw [List.length_map], hl, hn, by decide⟩, by decide⟩
    · have e12 : mergeD [] [(kC, .ref 1), (kL, .ref 2), (kS, .int 0)] = dM 0 := mrg _ _ _
      have e14 : lstAt [.lst [], .lst (ns.map D.int)] 1 = some (ns.map D.int) := rfl
      have e9 : 0 ≤ sizeLine := Nat.zero_le _
      have e11 : 3 ≤ 15 := by decide
      have e15 : decide (ns = []) = false := decide_eq_false hz
      rw [e15] at f0
      unfold m_law_begun b_law_begun
      clear n0 hn hl hz
      walk_at "dd"
    · show some (IO.lst (ns.map fun x => D.int (if 1000000000000000000 ≤ x then x else 0))) = some (IO.lst ((ns.map fun x => if 1000000000000000000 ≤ x then x else 0).map D.int))
      rw [List.map_map]
      rfl
theorem law_cost_ok {ns : List Int} (T : Tf ns) {b : Int} {n : Nat} (hb : 0 ≤ b) (hn : n ≤ 1000) (h : IH) : ∃ q, m_law_cost [tt ns, .int b, .int n] h = .val (.int (Tar.C ns n b)) (h ++ q) := by
  have l1 := T.l1
  have c1 : (0 : Int) < (ns.length : Int) := by omega
  obtain ⟨q, LC⟩ := lcS_map (t := gN 3) (c := mYes) (e := E_law_cost_1) (env := [some (tt ns), some (.int b), some (.int n), none]) (fun i : Nat => D.int (b + (i : Int))) (fun i : Nat => D.int (Tar.price ns (b + (i : Int)))) (xs := List.range n) (h0 := h)
    (fun x _ q => ⟨[some (tt ns), some (.int b), some (.int n), some (.int (b + (x : Int)))], q, rfl, rfl, by
      have e1 : DD.pyIx (tt ns) (.int ((b + (x : Int)) % (ns.length : Int))) (h ++ q) = .val (.int (Tar.price ns (b + (x : Int)))) (h ++ q) := by
        have z := atI_map ns ((b + (x : Int)) % (ns.length : Int)) (Int.emod_nonneg _ (Int.ne_of_gt c1)) (Int.emod_lt_of_pos _ c1)
        simp only [DD.pyIx, z]
        rfl
      unfold E_law_cost_1
      clear hb hn l1 T
      walk_at "dd"⟩) (by rw [List.length_range]; have : (1000 : Nat) ≤ sizeLine := by decide
                         omega)
  have e2 := Tar.C_sum ns b l1 hb n
  have e3 : (List.range n).map (fun i : Nat => D.int (Tar.price ns (b + (i : Int)))) = ((List.range n).map fun i : Nat => Tar.price ns (b + (i : Int))).map D.int := by
    rw [List.map_map]
    rfl
  rw [e3] at LC
  refine ⟨q ++ [.lst (((List.range n).map fun i : Nat => Tar.price ns (b + (i : Int))).map D.int)], ?_⟩
  rw [e2, ← List.append_assoc]
  have e4 : (b + (n : Int) - b).toNat = n := by omega
  unfold m_law_cost b_law_cost
  clear e2 e3 hb hn l1 c1 T
  walk_at "dd"
theorem law_first_ok {ns : List Int} (T : Tf ns) {n : Nat} {lo : Int} {N : Nat} (hn : n ≤ 1000) (hlo : 0 ≤ lo) (hN : N ≤ 1000) (h : IH) :
    ∃ b q, m_law_first [tt ns, .int n, .int lo, .int (lo + N)] h = .val (.int b) (h ++ q) ∧ IsFirst (Tar.C ns n) lo (lo + N) b := by
  obtain ⟨q, LC⟩ := lcS_map (t := gN 5) (c := mYes) (e := E_law_first_1) (env := [some (tt ns), some (.int n), some (.int lo), some (.int (lo + N)), none, none]) (fun i : Nat => D.int (lo + (i : Int))) (fun i : Nat => D.tup [.int (Tar.C ns n (lo + (i : Int))), .int (lo + (i : Int))]) (xs := List.range (N + 1)) (h0 := h)
    (fun x _ q => by
      obtain ⟨q2, e1⟩ := law_cost_ok T (b := lo + (x : Int)) (n := n) (by omega) hn (h ++ q)
      refine ⟨[some (tt ns), some (.int n), some (.int lo), some (.int (lo + N)), none, some (.int (lo + (x : Int)))], q ++ q2, rfl, rfl, ?_⟩
      have e9 : 2 ≤ sizeLine := by decide
      rw [← List.append_assoc]
      unfold E_law_first_1
      clear hn hlo hN T
      walk_at "dd") (by rw [List.length_range]; have : (1001 : Nat) ≤ sizeLine := by decide
                        omega)
  obtain ⟨b, e7, e8⟩ := bestO_first (Tar.C ns n) lo N (h ++ q ++ [.lst ((List.range (N + 1)).map fun i : Nat => D.tup [.int (Tar.C ns n (lo + (i : Int))), .int (lo + (i : Int))])])
  refine ⟨b, q ++ [.lst ((List.range (N + 1)).map fun i : Nat => D.tup [.int (Tar.C ns n (lo + (i : Int))), .int (lo + (i : Int))])], ?_, e8⟩
  rw [← List.append_assoc]
  have e10 : ∀ g, DD.pyIx (.tup [D.int (Tar.C ns n b), D.int b]) (.int 1) g = .val (.int b) g := fun g => rfl
  have e4 : (lo + (N : Int) + 1 - lo).toNat = N + 1 := by omega
  unfold m_law_first b_law_first
  clear hn hlo hN T e8
  walk_at "dd"
end LW
set_option Elab.async false
set_option linter.all false
set_option maxRecDepth 100000
set_option maxHeartbeats 4000000
namespace LW
open PySem L2 DD
local macro_rules | `(tactic| walk_at "dd") => `(tactic| simp only [mBody, enOf, sNil, sSeq, sIf, sRet, sRetN, sAsg, sExpr, sPar, sPar3, sAug, gN, gT, gsCons, gsNil, gSubM, toOut, mOr, mAnd, mNot, mTru, mTst, mBin, mUn, mCall, mCons, mNil, mVar, mC, mTup, mLst, mIf, mChain, mOrV, mAndV, mNotV, mSl, moN, moS, mMeth, mDic, pCons, pNil, keysD, keyD, sFor, mEn, enSrc, mLc, lcRun, mIt, srcD, mRng1, mRng2, mYes, Res.bind, Res.bindS, Out.then, DD.pyIsi, tyD, knownT, isiB, pyCmp, DD.pyIs, DD.pyIsNot, isNon, truD, DD.pyAdd, DD.pySub, DD.pyMul, DD.pyDiv, DD.pyMod, DD.pyPow, DD.pyLen, lenD, DD.pyInt, DD.pySlice, DD.pySum, DD.pyTuple, DD.pyMin, DD.pyList, DD.pyEq, DD.pyNe, eqO, seqD, seqL, wipeE, rangeD_map, List.map_cons, List.map_nil, List.length_cons, List.length_nil, List.length_map, List.replicate, List.append_nil, List.nil_append, List.cons_append, List.set_cons_zero, List.set_cons_succ, List.getElem?_cons_zero, List.getElem?_cons_succ, Nat.reduceAdd, Nat.reduceSub, Nat.zero_add, if_true, if_false, Bool.false_eq_true, Bool.not_true, Bool.not_false, decide_true, decide_false, reduceIte, String.reduceBEq, Bool.or_true, Bool.true_or, Bool.or_false, Bool.false_or, Bool.and_true, Bool.and_false, Bool.true_and, Bool.false_and, Bool.and_self, String.reduceBNe, decide_eq_true_eq, reduceCtorEq, intsD_map, and_self, lstAt_last, Int.reducePow, Int.reduceNeg, Int.reduceSub, Int.reduceAdd, Int.reduceLT, Int.reduceLE, na10, na2, Int.reduceToNat, Nat.reducePow, Nat.reduceLT, Nat.reduceLeDiff, true_and, and_true, or_true, true_or, Option.map_some, *])
theorem lcS_invN {t : MTg} {c : MT} {e : ME} {env : En} (J : Nat → IH → Prop) (R : D → D → Prop) :
    ∀ (ds acc : List D) (i : Nat) h, (∀ j d, ds[j]? = some d → ∀ h, J (i + j) h → ∃ e1 h1 h2 y h3, t d env h = some (e1, h1) ∧ c e1 h1 = .val true h2 ∧ e e1 h2 = .val y h3 ∧ R d y ∧ J (i + j + 1) h3) → acc.length + ds.length ≤ sizeLine → J i h →
      ∃ ys h2, lcS t c e env ds acc h = .val (acc ++ ys) h2 ∧ Paired R ds ys ∧ J (i + ds.length) h2
  | [], acc, i, h, _, _, j => ⟨[], h, by simp only [lcS, List.append_nil], .nil, j⟩
  | d :: ds, acc, i, h, step, hl, j => by
    obtain ⟨e1, h1, h2, y, h3, z1, z2, z3, r, j3⟩ := step 0 d rfl h j
    rw [List.length_cons] at hl
    obtain ⟨ys, h4, z4, r4, j4⟩ := lcS_invN J R ds (acc ++ [y]) (i + 1) h3 (fun k x hx g jg => by
      have := step (k + 1) x (by simpa using hx) g (by rw [show i + (k + 1) = i + 1 + k by omega]; exact jg)
      rw [show i + (k + 1) = i + 1 + k by omega] at this
      exact this) (by rw [List.length_append, List.length_singleton]; omega) j3
    refine ⟨y :: ys, h4, ?_, .cons r r4, by rw [List.length_cons, show i + (ds.length + 1) = i + 1 + ds.length by omega]; exact j4⟩
    have hlt : acc.length < sizeLine := by omega
    simp only [lcS, lcT, z1, z2, z3, if_pos hlt, z4, List.append_assoc, List.cons_append, List.nil_append]
theorem Paired.len {α β : Type} {R : α → β → Prop} {xs : List α} {ys : List β} (h : Paired R xs ys) : xs.length = ys.length := PySem.Paired.length h
theorem Paired.at {α β : Type} {R : α → β → Prop} : ∀ {xs : List α} {ys : List β} {i : Nat} {y : β}, Paired R xs ys → ys[i]? = some y → ∃ x, xs[i]? = some x ∧ R x y
  | _, _, _, _, .nil, e => by simp at e
  | _, _, 0, _, .cons r _, e => by
    simp at e
    subst e
    exact ⟨_, rfl, r⟩
  | _, _, i + 1, _, .cons _ q, e => by
    obtain ⟨x, h1, h2⟩ := Paired.at (i := i) q (by simpa using e)
    exact ⟨x, by simpa using h1, h2⟩
theorem law_cost_okI {ns : List Int} (T : Tf ns) {b n : Int} (hb : 0 ≤ b) (hn0 : 0 ≤ n) (hn : n ≤ 1000) (h : IH) : ∃ q, m_law_cost [tt ns, .int b, .int n] h = .val (.int (Tar.C ns n b)) (h ++ q) := by
  obtain ⟨k, rfl⟩ := Int.eq_ofNat_of_zero_le hn0
  exact law_cost_ok T hb (by omega) h
theorem law_first_okI {ns : List Int} (T : Tf ns) {n lo hi : Int} (hn0 : 0 ≤ n) (hn : n ≤ 1000) (hlo : 0 ≤ lo) (h1 : lo ≤ hi) (h2 : hi ≤ lo + 1000) (h : IH) : ∃ b q, m_law_first [tt ns, .int n, .int lo, .int hi] h = .val (.int b) (h ++ q) ∧ IsFirst (Tar.C ns n) lo hi b := by
  obtain ⟨k, rfl⟩ := Int.eq_ofNat_of_zero_le hn0
  obtain ⟨N, e⟩ := Int.eq_ofNat_of_zero_le (show 0 ≤ hi - lo by omega)
  have e2 : hi = lo + N := by omega
  subst e2
  exact law_first_ok T (by omega) hlo (by omega) h
theorem lstAt_same {g h : IH} {n : Nat} (e : g[n]? = h[n]?) : lstAt g n = lstAt h n := by
  unfold lstAt
  rw [e]
theorem rates_ok {h : IH} {B : Nat} (x : Sb h B) (hB : B + 30 < 1000000) (h4 : 4 ≤ h.length) : ∃ ns h', m_law_rates [.ref 3] h = .val (tt ns) h' ∧ Tf ns ∧ Sb h' (B + 30) ∧ 4 ≤ h'.length := by
  let l0 : IO := .lst ([0, 1].map D.int)
  let l1 : IO := .lst ([0, 3, 5, 5].map D.int)
  let l2 : IO := .lst ([0, 1000000, 7, 999999].map D.int)
  let l3 : IO := .lst ([2].map D.int)
  let l4 : IO := .lst [.ref h.length, .ref (h ++ [l0]).length, .ref (h ++ [l0] ++ [l1]).length, .ref (h ++ [l0] ++ [l1] ++ [l2]).length]
  obtain ⟨r, h6, d1, r0, r1, x6, z6, k6⟩ := draw_ok (x.app [l0] |>.app [l1] |>.app [l2] |>.app [l3] |>.app [l4]) (by omega) (lim := 4) (by decide) (by decide)
  have eh : h ++ [l0] ++ [l1] ++ [l2] ++ [l3] ++ [l4] = h ++ [l0, l1, l2, l3, l4] := by simp
  have gt : ∀ j : Nat, h6[h.length + j]? = [l0, l1, l2, l3, l4][j]? := fun j => by
    rw [k6 _ (by omega), eh, List.getElem?_append_right (by omega), Nat.add_sub_cancel_left]
  have z6' : h6.length = h.length + 5 := by
    rw [z6]
    simp
  have len4 : (h ++ [l0] ++ [l1] ++ [l2] ++ [l3]).length = h.length + 4 := by simp
  have sel : ∃ p kd, DD.pyIx (.ref (h ++ [l0] ++ [l1] ++ [l2] ++ [l3]).length) (.int r) h6 = .val (.ref p) h6 ∧ lstAt h6 p = some (List.map D.int kd) ∧ 4 ≤ p ∧ 0 < kd.length ∧ kd.length ≤ 4 ∧ ∀ y ∈ kd, 0 ≤ y ∧ y ≤ 1000000 := by
    have e1 : h6[h.length + 4]? = some l4 := gt 4
    rw [len4]
    have lt : ∀ (j : Nat) kd, [l0, l1, l2, l3, l4][j]? = some (IO.lst (List.map D.int kd)) → lstAt h6 (h.length + j) = some (List.map D.int kd) := fun j kd e => by
      unfold lstAt
      rw [gt j, e]
    have rc : r = 0 ∨ r = 1 ∨ r = 2 ∨ r = 3 := by omega
    rcases rc with rfl | rfl | rfl | rfl
    · refine ⟨h.length, [0, 1], ?_, lt 0 _ rfl, h4, by decide, by decide, by decide⟩
      simp only [DD.pyIx, e1]
      rfl
    · refine ⟨(h ++ [l0]).length, [0, 3, 5, 5], ?_, by rw [show (h ++ [l0]).length = h.length + 1 by simp]; exact lt 1 _ rfl, by simp; omega, by decide, by decide, by decide⟩
      simp only [DD.pyIx, e1]
      rfl
    · refine ⟨(h ++ [l0] ++ [l1]).length, [0, 1000000, 7, 999999], ?_, by rw [show (h ++ [l0] ++ [l1]).length = h.length + 2 by simp]; exact lt 2 _ rfl, by simp; omega, by decide, by decide, by decide⟩
      simp only [DD.pyIx, e1]
      rfl
    · refine ⟨(h ++ [l0] ++ [l1] ++ [l2]).length, [2], ?_, by rw [show (h ++ [l0] ++ [l1] ++ [l2]).length = h.length + 3 by simp]; exact lt 3 _ rfl, by simp; omega, by decide, by decide, by decide⟩
      simp only [DD.pyIx, e1]
      rfl
  obtain ⟨p, kd, s1, s2, s3, s4, s5, s6⟩ := sel
  obtain ⟨r2, h7, d2, q0, q1, x7, z7, k7⟩ := draw_ok x6 (by omega) (lim := 24) (by decide) (by decide)
  have hl7 : lstAt h7 p = some (kd.map D.int) := by
    rw [lstAt_same (k7 p s3)]
    exact s2
  obtain ⟨N, hN⟩ := Int.eq_ofNat_of_zero_le q0
  obtain ⟨ys, h8, LC, pr, x8, l8, _⟩ := lcS_invN (t := gN 2) (c := mYes) (e := E_law_rates_1) (env := [some (.ref 3), some (.ref p), none]) (fun i g => Sb g (B + 1 + 1 + i) ∧ lstAt g p = some (kd.map D.int) ∧ 4 ≤ g.length) (fun _ y => ∃ v : Int, y = .int v ∧ 0 ≤ v ∧ v ≤ 1000000) (rangeD 0 (N + 1)) [] 0 h7
    (fun j d hd g ⟨xg, lg, gl⟩ => by
      obtain ⟨jl, rfl⟩ := rangeD_get hd
      obtain ⟨r3, g2, d3, t0, t1, x9, z9, k9⟩ := draw_ok xg (by omega) (lim := (kd.length : Int)) (by omega) (by omega)
      have lg2 : lstAt g2 p = some (kd.map D.int) := by
        rw [lstAt_same (k9 p s3)]
        exact lg
      have f1 : DD.pyIx (.ref p) (.int r3) g2 = .val (.int (kd.getD r3.toNat 0)) g2 := by
        have a := atI_map kd r3 t0 t1
        unfold lstAt at lg2
        split at lg2
        · rename_i ds zz
          cases lg2
          simp only [DD.pyIx, zz, a]
        · cases lg2
      refine ⟨[some (.ref 3), some (.ref p), some (.int (0 + (j : Int)))], g, g, .int (kd.getD r3.toNat 0), g2, rfl, rfl, ?_, ⟨_, rfl, ?_⟩, ?_, lg2, by omega⟩
      · unfold E_law_rates_1
        clear x x6 x7 x9 xg k6 k7 k9 gt s1 s2 s3 s4 s5 s6 d1 d2 eh hl7 lg2 z6 z7 z9 r0 r1 q0 q1 t0 t1 hN h4 hB len4 gl jl hd
        walk_at "dd"
      · have hi : r3.toNat < kd.length := by omega
        rw [List.getD_eq_getElem?_getD, List.getElem?_eq_getElem hi]
        exact s6 _ (List.getElem_mem hi)
      · rw [show B + 1 + 1 + (0 + j + 1) = B + 1 + 1 + (0 + j) + 1 by omega]
        exact x9) (by
      unfold rangeD
      rw [List.length_map, List.length_range, List.length_nil]
      have : (63 : Nat) ≤ sizeLine := by decide
      omega) ⟨x7, hl7, by omega⟩
  have hlen := Paired.len pr
  have hrl : (rangeD 0 (N + 1)).length = N + 1 := by
    unfold rangeD
    rw [List.length_map, List.length_range]
  obtain ⟨ns, hns, hp⟩ : ∃ ns : List Int, ys = ns.map D.int ∧ ∀ v ∈ ns, 0 ≤ v ∧ v ≤ 1000000 := by
    clear LC hlen hrl
    generalize rangeD 0 (N + 1) = rs at pr
    induction pr with
    | nil => exact ⟨[], rfl, by simp⟩
    | cons a b ih =>
      obtain ⟨v, rfl, v0, v1⟩ := a
      obtain ⟨ns, rfl, q⟩ := ih
      refine ⟨v :: ns, rfl, fun w hw => ?_⟩
      rcases List.mem_cons.mp hw with rfl | hw
      · exact ⟨v0, v1⟩
      · exact q w hw
  subst hns
  rw [List.length_map] at hlen
  refine ⟨ns, h8 ++ [.lst (ns.map D.int)], ?_, ⟨by omega, by omega, hp⟩, (x8.mono (by omega)).app _, by rw [List.length_append]; omega⟩
  have e1 : (1 + r2).toNat = N + 1 := by omega
  have e9 : 2 ≤ sizeLine := by decide
  have e10 : 4 ≤ sizeLine := by decide
  have e11 : 1 ≤ sizeLine := by decide
  rw [List.nil_append, rangeD_map] at LC
  unfold m_law_rates b_law_rates
  have d1' : m_law_draw [.ref 3, .int 4] (h ++ [IO.lst [D.int 0, D.int 1]] ++ [IO.lst [D.int 0, D.int 3, D.int 5, D.int 5]] ++ [IO.lst [D.int 0, D.int 1000000, D.int 7, D.int 999999]] ++ [IO.lst [D.int 2]] ++ [IO.lst [.ref h.length, .ref (h ++ [IO.lst [D.int 0, D.int 1]]).length, .ref (h ++ [IO.lst [D.int 0, D.int 1]] ++ [IO.lst [D.int 0, D.int 3, D.int 5, D.int 5]]).length, .ref (h ++ [IO.lst [D.int 0, D.int 1]] ++ [IO.lst [D.int 0, D.int 3, D.int 5, D.int 5]] ++ [IO.lst [D.int 0, D.int 1000000, D.int 7, D.int 999999]]).length]]) = .val (.int r) h6 := d1
  have s1' : DD.pyIx (.ref (h ++ [IO.lst [D.int 0, D.int 1]] ++ [IO.lst [D.int 0, D.int 3, D.int 5, D.int 5]] ++ [IO.lst [D.int 0, D.int 1000000, D.int 7, D.int 999999]] ++ [IO.lst [D.int 2]]).length) (.int r) h6 = .val (.ref p) h6 := s1
  clear d1 s1 pr hlen hrl hp x x6 x7 x8 l8 k6 k7 gt s2 s3 s4 s5 s6 eh hl7 z6 z7 r0 r1 q0 q1 hN h4 hB len4
  walk_at "dd"
end LW
set_option Elab.async false
set_option linter.all false
set_option maxRecDepth 100000
set_option maxHeartbeats 4000000
namespace LW
open PySem L2 DD
local macro_rules | `(tactic| walk_at "dd") => `(tactic| simp only [mBody, enOf, sNil, sSeq, sIf, sRet, sRetN, sAsg, sExpr, sPar, sPar3, sAug, gN, gT, gsCons, gsNil, gSubM, toOut, mOr, mAnd, mNot, mTru, mTst, mBin, mUn, mCall, mCons, mNil, mVar, mC, mTup, mLst, mIf, mChain, mOrV, mAndV, mNotV, mSl, moN, moS, mMeth, mDic, pCons, pNil, keysD, keyD, sFor, mEn, enSrc, mLc, lcRun, mIt, srcD, mRng1, mRng2, mYes, Res.bind, Res.bindS, Out.then, DD.pyIsi, tyD, knownT, isiB, pyCmp, DD.pyIs, DD.pyIsNot, isNon, truD, DD.pyAdd, DD.pySub, DD.pyMul, DD.pyDiv, DD.pyMod, DD.pyPow, DD.pyLen, lenD, DD.pyInt, DD.pySlice, DD.pySum, DD.pyTuple, DD.pyMin, DD.pyList, DD.pyEq, DD.pyNe, eqO, seqD, seqL, wipeE, rangeD_map, List.map_cons, List.map_nil, List.length_cons, List.length_nil, List.length_map, List.replicate, List.append_nil, List.nil_append, List.cons_append, List.set_cons_zero, List.set_cons_succ, List.getElem?_cons_zero, List.getElem?_cons_succ, Nat.reduceAdd, Nat.reduceSub, Nat.zero_add, if_true, if_false, Bool.false_eq_true, Bool.not_true, Bool.not_false, decide_true, decide_false, reduceIte, String.reduceBEq, Bool.or_true, Bool.true_or, Bool.or_false, Bool.false_or, Bool.and_true, Bool.and_false, Bool.true_and, Bool.false_and, Bool.and_self, String.reduceBNe, decide_eq_true_eq, reduceCtorEq, intsD_map, and_self, lstAt_last, Int.reducePow, Int.reduceNeg, Int.reduceSub, Int.reduceAdd, Int.reduceLT, Int.reduceLE, na10, na2, Int.reduceToNat, Nat.reducePow, Nat.reduceLT, Nat.reduceLeDiff, true_and, and_true, or_true, true_or, Option.map_some, *])
/-! ### repr of a tuple of small ints -/
theorem showable_ints : ∀ ns : List Int, (∀ n ∈ ns, n.natAbs < 10 ^ 12) → PyData.showableAll (ns.map PyData.int) = true
  | [], _ => rfl
  | n :: ns, h => by
    have h1 := h n List.mem_cons_self
    rw [List.map_cons, PyData.showableAll, showable_ints ns fun m hm => h m (List.mem_cons_of_mem _ hm), Bool.and_true, PyData.showable, decide_eq_true_eq]
    by_cases z : n.natAbs = 0
    · rw [z]
      decide
    · rw [Nat.log2_lt z]
      exact Nat.lt_of_lt_of_le h1 (by decide)
theorem noDict_ints : ∀ ns : List Int, PyData.hasDictAll (ns.map PyData.int) = false
  | [] => rfl
  | n :: ns => by
    rw [List.map_cons, PyData.hasDictAll, noDict_ints ns]
    rfl
theorem weight_ints : ∀ ns : List Int, (∀ n ∈ ns, n.natAbs < 10 ^ 12) → PyData.weightAll (ns.map PyData.int) ≤ 50 * ns.length
  | [], _ => by decide
  | n :: ns, h => by
    have h1 := h n List.mem_cons_self
    have ih := weight_ints ns fun m hm => h m (List.mem_cons_of_mem _ hm)
    rw [List.map_cons, PyData.weightAll, List.length_cons]
    have z : PyData.weight (.int n) ≤ 41 := by
      rw [PyData.weight]
      split
      · omega
      · by_cases y : n.natAbs = 0
        · rw [y]
          decide
        · have : n.natAbs.log2 < 40 := (Nat.log2_lt y).mpr (Nat.lt_of_lt_of_le h1 (by decide))
          omega
    omega
theorem repr_ints {ns : List Int} (hl : ns.length ≤ 1000) (hp : ∀ n ∈ ns, n.natAbs < 10 ^ 12) (h : IH) : DD.pyRepr [tt ns] h = .val (.str (PyData.tuple (ns.map PyData.int)).shown) h := by
  have e1 : toPy 12 h (tt ns) = some (.tuple (ns.map PyData.int)) := by
    show (mapO (toPy 11 h) (ns.map D.int)).map PyData.tuple = _
    rw [toPy_ints]
    rfl
  have w := weight_ints ns hp
  have e2 : (PyData.tuple (ns.map PyData.int)).showable = true := by
    rw [PyData.showable]
    exact showable_ints ns hp
  have e3 : (PyData.tuple (ns.map PyData.int)).hasDict = false := by
    rw [PyData.hasDict]
    exact noDict_ints ns
  have e4 : (PyData.tuple (ns.map PyData.int)).depth ≤ 60 := by
    rw [PyData.depth, depth_ints]
    decide
  have e5 : (PyData.tuple (ns.map PyData.int)).shown.length ≤ sizeLine := by
    refine PyData.shown_fits_of_layable0 (B := 13) (by decide) (by decide) ?_ ?_
    · unfold PyData.layable0
      simp only [PyData.canLay0, canLay_ints, PyData.weight, Bool.true_and, Bool.and_eq_true, decide_eq_true_eq]
      refine ⟨Nat.le_trans e4 (by decide), ?_⟩
      have w2 := Nat.le_trans w (Nat.mul_le_mul_left 50 hl)
      have w3 : (1 + 50 * 1000 : Nat) ≤ 2 ^ 20 := by decide
      refine decide_eq_true (Nat.le_trans ?_ w3)
      omega
    · rw [PyData.intsShort]
      exact PyData.intsShortAll_ints ns hp
  unfold DD.pyRepr
  simp only [e1, e2, e3, e4, e5, decide_true, Bool.not_false, Bool.and_self, if_true]
theorem first_small {f : Int → Int} {hi b : Int} (x : IsFirst f 0 hi b) (h : hi ≤ 100) : b.natAbs < 10 ^ 12 := by
  obtain ⟨h1, h2, _⟩ := x
  have : b.natAbs ≤ 100 := by omega
  exact Nat.lt_of_le_of_lt this (by decide)
/-- two lists of firsts are one -/
theorem firsts_one {ns fs gs : List Int} (h1 : fs.length = gs.length) (h2 : ∀ (k : Nat) b, fs[k]? = some b → IsFirst (Tar.C ns (k : Nat)) 0 ((ns.length : Int) - 1) b) (h3 : ∀ (k : Nat) b, gs[k]? = some b → IsFirst (Tar.C ns (k : Nat)) 0 ((ns.length : Int) - 1) b) : fs = gs := by
  apply List.ext_getElem h1
  intro k k1 k2
  exact (h2 k _ (List.getElem?_eq_getElem k1)).uniq (h3 k _ (List.getElem?_eq_getElem k2))
theorem due_ok {ns : List Int} (T : Tf ns) (e : En) (h5 : IH) (he : e = e) (x0 x3 x4 x5 x6 x7 : D) : ∃ gs q, lcS (gN 13) mYes E_law_right_1 [some x0, some (tt ns), some (.int ns.length), some x3, some x4, some x5, some x6, some x7, none, none, none, none, none, none] (rangeD 1 (ns.length - 1)) [] h5 = .val (gs.map D.int) (h5 ++ q) ∧ (0 :: gs).length = ns.length ∧ ∀ (k : Nat) b, (0 :: gs)[k]? = some b → IsFirst (Tar.C ns (k : Nat)) 0 ((ns.length : Int) - 1) b := by
  have l1 := T.l1
  have l2 := T.l2
  obtain ⟨ys, h8, LC, pr, q, rfl⟩ := lcS_inv (t := gN 13) (c := mYes) (e := E_law_right_1) (env := [some x0, some (tt ns), some (.int ns.length), some x3, some x4, some x5, some x6, some x7, none, none, none, none, none, none]) (fun g => ∃ q, g = h5 ++ q) (fun d y => ∃ k b, d = .int k ∧ y = .int b ∧ IsFirst (Tar.C ns k) 0 ((ns.length : Int) - 1) b) (ds0 := rangeD 1 (ns.length - 1))
    (fun d hd g ⟨q, hg⟩ => by
      obtain ⟨i, hi, e1⟩ := List.mem_iff_getElem.mp hd
      obtain ⟨i2, e2⟩ := rangeD_get (lo := 1) (n := ns.length - 1) (i := i) (d := d) (by rw [List.getElem?_eq_getElem hi, e1])
      subst e2 hg
      obtain ⟨b, q2, f1, f2⟩ := law_first_okI T (n := 1 + (i : Int)) (lo := 0) (hi := (ns.length : Int) - 1) (by omega) (by omega) (by omega) (by omega) (by omega) (h5 ++ q)
      refine ⟨[some x0, some (tt ns), some (.int ns.length), some x3, some x4, some x5, some x6, some x7, none, none, none, none, none, some (.int (1 + (i : Int)))], _, _, .int b, h5 ++ q ++ q2, rfl, rfl, ?_, ⟨_, b, rfl, rfl, f2⟩, q ++ q2, by rw [List.append_assoc]⟩
      unfold E_law_right_1
      clear l1 l2 T f2
      walk_at "dd") (rangeD 1 (ns.length - 1)) [] h5 (fun _ z => z) (by
      unfold rangeD
      rw [List.length_map, List.length_range, List.length_nil]
      have : (63 : Nat) ≤ sizeLine := by decide
      omega) ⟨[], by rw [List.append_nil]⟩
  have hl := Paired.len pr
  have hrl : (rangeD 1 (ns.length - 1)).length = ns.length - 1 := by
    unfold rangeD
    rw [List.length_map, List.length_range]
  obtain ⟨gs, rfl⟩ : ∃ gs : List Int, ys = gs.map D.int := by
    clear LC hl hrl
    generalize rangeD 1 (ns.length - 1) = rs at pr
    induction pr with
    | nil => exact ⟨[], rfl⟩
    | cons a b ih =>
      obtain ⟨_, v, _, rfl, _⟩ := a
      obtain ⟨gs, rfl⟩ := ih
      exact ⟨v :: gs, rfl⟩
  rw [List.length_map] at hl
  refine ⟨gs, q, by rw [List.nil_append] at LC; exact LC, by rw [List.length_cons]; omega, fun k b hk => ?_⟩
  cases k with
  | zero =>
    cases hk
    exact Tar.first_const (c := 0) (fun x => Tar.C_zero ns x) (by omega)
  | succ k =>
    have hk2 : gs[k]? = some b := by simpa using hk
    have hk3 : (gs.map D.int)[k]? = some (.int b) := by
      rw [List.getElem?_map, hk2]
      rfl
    obtain ⟨d, e1, k2, b2, e2, e3, e4⟩ := Paired.at pr hk3
    cases e3
    obtain ⟨e5, e6⟩ := rangeD_get e1
    rw [e2] at e6
    cases e6
    have e7 : ((k + 1 : Nat) : Int) = 1 + (k : Int) := by omega
    rw [e7]
    exact e4
end LW
set_option Elab.async false
set_option linter.all false
set_option maxRecDepth 100000
set_option maxHeartbeats 4000000
namespace LW
open PySem L2 DD
local macro_rules | `(tactic| walk_at "dd") => `(tactic| simp only [mBody, enOf, sNil, sSeq, sIf, sRet, sRetN, sAsg, sExpr, sPar, sPar3, sAug, gN, gT, gsCons, gsNil, gSubM, toOut, mOr, mAnd, mNot, mTru, mTst, mBin, mUn, mCall, mCons, mNil, mVar, mC, mTup, mLst, mIf, mChain, mOrV, mAndV, mNotV, mSl, moN, moS, mMeth, mDic, pCons, pNil, keysD, keyD, sFor, mEn, enSrc, mLc, lcRun, mIt, srcD, mRng1, mRng2, mYes, Res.bind, Res.bindS, Out.then, DD.pyIsi, tyD, knownT, isiB, pyCmp, DD.pyIs, DD.pyIsNot, isNon, truD, DD.pyAdd, DD.pySub, DD.pyMul, DD.pyDiv, DD.pyMod, DD.pyPow, DD.pyLen, lenD, DD.pyInt, DD.pySlice, DD.pySum, DD.pyTuple, DD.pyMin, DD.pyList, DD.pyEq, DD.pyNe, eqO, seqD, seqL, wipeE, rangeD_map, List.map_cons, List.map_nil, List.length_cons, List.length_nil, List.length_map, List.replicate, List.append_nil, List.nil_append, List.cons_append, List.set_cons_zero, List.set_cons_succ, List.getElem?_cons_zero, List.getElem?_cons_succ, Nat.reduceAdd, Nat.reduceSub, Nat.zero_add, if_true, if_false, Bool.false_eq_true, Bool.not_true, Bool.not_false, decide_true, decide_false, reduceIte, String.reduceBEq, Bool.or_true, Bool.true_or, Bool.or_false, Bool.false_or, Bool.and_true, Bool.and_false, Bool.true_and, Bool.false_and, Bool.and_self, String.reduceBNe, decide_eq_true_eq, reduceCtorEq, intsD_map, and_self, lstAt_last, Int.reducePow, Int.reduceNeg, Int.reduceSub, Int.reduceAdd, Int.reduceLT, Int.reduceLE, na10, na2, Int.reduceToNat, Nat.reducePow, Nat.reduceLT, Nat.reduceLeDiff, true_and, and_true, or_true, true_or, Option.map_some, *])
/-- the own heap went on from g to g' -/
structure On (g g' : IH) (B : Nat) : Prop where
  s : Sb g' B
  l : 4 ≤ g'.length
  k : ∀ n xs, 4 ≤ n → lstAt g n = some xs → lstAt g' n = some xs
theorem lstAt_app {g : IH} {n : Nat} {xs : List D} (q : IH) (e : lstAt g n = some xs) : lstAt (g ++ q) n = some xs := by
  have : n < g.length := by
    apply Classical.byContradiction
    intro hn
    unfold lstAt at e
    rw [List.getElem?_eq_none (by omega)] at e
    cases e
  unfold lstAt at e ⊢
  rw [List.getElem?_append_left this]
  exact e
theorem On.app {g : IH} {B : Nat} (x : Sb g B) (h4 : 4 ≤ g.length) (q : IH) : On g (g ++ q) B := ⟨x.app q, by rw [List.length_append]; omega, fun n xs _ e => lstAt_app q e⟩
theorem drawS {h : IH} {B : Nat} (x : Sb h B) (h4 : 4 ≤ h.length) (hB : B < 1000000) {lim : Int} (l0 : 0 < lim) (l1 : lim < 1073741824) : ∃ r h', m_law_draw [.ref 3, .int lim] h = .val (.int r) h' ∧ 0 ≤ r ∧ r < lim ∧ On h h' (B + 1) := by
  obtain ⟨r, h', a, b, c, d, e, f⟩ := draw_ok x hB l0 l1
  exact ⟨r, h', a, b, c, d, by omega, fun n xs hn z => by rw [lstAt_same (f n hn)]; exact z⟩
theorem cheapS {ns : List Int} (T : Tf ns) {n lo hi : Int} (hn : 1 ≤ n) (hn2 : n ≤ 1000000000000000000000000000000) (hlo : 0 ≤ lo) (hlh : lo ≤ hi) (hhi : hi ≤ 1000000000000000000000000000000) {g : IH} {B : Nat} (x : Sb g B) (h4 : 4 ≤ g.length) {b : Int} (hb : IsFirst (Tar.C ns n) lo hi b) : ∃ g', m_cheapest [tt ns, .int n, .int lo, .int hi] g = .val (.int b) g' ∧ On g g' B := by
  obtain ⟨c, q, e, f⟩ := cheapest_ok T hn hn2 hlo hlh hhi g
  cases f.uniq hb
  exact ⟨_, e, On.app x h4 q⟩
theorem right_ok {ns : List Int} (T : Tf ns) {h : IH} {B : Nat} (x : Sb h B) (h4 : 4 ≤ h.length) (hB : B + 7 < 1000000) : ∃ h', m_law_right [.ref 3, tt ns] h = .val (.bl true) h' ∧ Sb h' (B + 7) ∧ 4 ≤ h'.length := by
  have l1 := T.l1
  have l2 := T.l2
  have sl := sum_le T.p
  obtain ⟨r1, h1, d1, a1, b1, o1⟩ := drawS x h4 (by omega) (lim := 90) (by decide) (by decide)
  obtain ⟨r2, h2, d2, a2, b2, o2⟩ := drawS o1.s o1.l (by omega) (lim := 120) (by decide) (by decide)
  obtain ⟨r3, h3, d3, a3, b3, o3⟩ := drawS o2.s o2.l (by omega) (lim := 40) (by decide) (by decide)
  obtain ⟨b, q1, f1, F⟩ := law_first_okI T (n := 1 + r2) (lo := r1) (hi := r1 + r3) (by omega) (by omega) (by omega) (by omega) (by omega) h3
  have p1 := On.app o3.s o3.l q1
  generalize h3 ++ q1 = g1 at f1 p1
  have kc : ∀ g, m_cost [tt ns, .int r1, .int (1 + r2)] g = .val (.int (Tar.C ns (1 + r2) r1)) g := fun g => cost_ok T (by omega) (by omega) (by omega) (by omega) g
  obtain ⟨q2, f2⟩ := law_cost_okI T (b := r1) (n := 1 + r2) (by omega) (by omega) (by omega) g1
  have p2 := On.app p1.s p1.l q2
  generalize g1 ++ q2 = g2 at f2 p2
  obtain ⟨g3, f3, p3⟩ := cheapS T (by omega) (by omega) (by omega) (by omega) (by omega) p2.s p2.l F
  obtain ⟨gs, q4, f4, gl, gf⟩ := due_ok T [] (g3 ++ [.lst [.int 0]]) rfl (.ref 3) (.int ns.sum) (.int r1) (.int (1 + r2)) (.int (r1 + r3)) (.int b)
  have rl : ((ns.length : Int) - 1).toNat = ns.length - 1 := by omega
  have p4 := On.app p3.s p3.l ([.lst [.int 0]] ++ q4)
  have m4 : lstAt (g3 ++ [.lst [.int 0]] ++ q4) g3.length = some [.int 0] := lstAt_app q4 (lstAt_last g3 _)
  have n4 : g3.length < (g3 ++ [IO.lst [.int 0]] ++ q4).length := by
    rw [List.length_append, List.length_append, List.length_singleton]
    omega
  rw [← List.append_assoc] at p4
  generalize hg4 : g3 ++ [IO.lst [.int 0]] ++ q4 = g4 at f4 p4 m4 n4
  have m4' : lstAt (g4 ++ [.lst (gs.map D.int)]) g3.length = some [.int 0] := lstAt_app _ m4
  have sz : 1 + gs.length ≤ sizeLine := by
    rw [List.length_cons] at gl
    have : (63 : Nat) ≤ sizeLine := by decide
    omega
  have p5 := On.app p4.s p4.l ([.lst (gs.map D.int)] ++ [.lst (.int 0 :: gs.map D.int)])
  have P5 : lstAt (g4 ++ [.lst (gs.map D.int)] ++ [.lst (.int 0 :: gs.map D.int)]) (g4 ++ [IO.lst (gs.map D.int)]).length = some ((0 :: gs).map D.int) := lstAt_last _ _
  rw [← List.append_assoc] at p5
  have hP : 4 ≤ (g4 ++ [IO.lst (gs.map D.int)]).length := by
    rw [List.length_append]
    have := p4.l
    omega
  generalize hg5 : g4 ++ [.lst (gs.map D.int)] ++ [.lst (.int 0 :: gs.map D.int)] = g5 at p5 P5
  generalize hPP : (g4 ++ [IO.lst (gs.map D.int)]).length = P at P5 hP
  obtain ⟨fs, q6, f6, fl, ff⟩ := table_ok T g5
  cases firsts_one (fl.trans gl.symm) ff gf
  have p6 := On.app p5.s p5.l q6
  generalize g5 ++ q6 = g6 at f6 p6
  have P6 := p6.k _ _ hP P5
  have RP := fun g => repr_ints (ns := 0 :: gs) (by omega) (fun n hn => by
    obtain ⟨k, hk, e⟩ := List.mem_iff_getElem.mp hn
    exact first_small (gf k n (by rw [List.getElem?_eq_getElem hk, e])) (by omega)) g
  obtain ⟨s1, g7, d7, a7, b7, o7⟩ := drawS p6.s p6.l (by omega) (lim := 1000) (by decide) (by decide)
  obtain ⟨s2, g8, d8, a8, b8, o8⟩ := drawS o7.s o7.l (by omega) (lim := 1000) (by decide) (by decide)
  obtain ⟨s3, g9, d9, a9, b9, o9⟩ := drawS o8.s o8.l (by omega) (lim := 1000) (by decide) (by decide)
  have p9 := On.app o9.s o9.l [IO.lst [.int s1, .int (1000000000 + s2), .int (10000000000000000000000000000 - s3)]]
  have P9 : lstAt (g9 ++ [IO.lst [.int s1, .int (1000000000 + s2), .int (10000000000000000000000000000 - s3)]]) g9.length = some ([s1, 1000000000 + s2, 10000000000000000000000000000 - s3].map D.int) := lstAt_last _ _
  obtain ⟨t, g10, d10, a10, b10, o10⟩ := drawS p9.s p9.l (by omega) (lim := 3) (by decide) (by decide)
  have P10 := o10.k _ _ o9.l P9
  obtain ⟨dy, f10, dy0, dy1⟩ : ∃ dy, DD.pyIx (.ref g9.length) (.int t) g10 = .val (.int dy) g10 ∧ 0 ≤ dy ∧ dy ≤ 10000000000000000000000000000 := by
    refine ⟨[s1, 1000000000 + s2, 10000000000000000000000000000 - s3].getD t.toNat 0, ?_, ?_⟩
    · have a := atI_map [s1, 1000000000 + s2, 10000000000000000000000000000 - s3] t a10 b10
      unfold lstAt at P10
      split at P10
      · rename_i ds zz
        cases P10
        simp only [DD.pyIx, zz, a]
      · cases P10
    · have tc : t = 0 ∨ t = 1 ∨ t = 2 := by omega
      rcases tc with rfl | rfl | rfl
      · show 0 ≤ s1 ∧ s1 ≤ _
        omega
      · show 0 ≤ 1000000000 + s2 ∧ 1000000000 + s2 ≤ _
        omega
      · show 0 ≤ 10000000000000000000000000000 - s3 ∧ 10000000000000000000000000000 - s3 ≤ _
        omega
  have D0 : 0 ≤ dy * (ns.length : Int) := Int.mul_nonneg dy0 (by omega)
  have D1 : dy * (ns.length : Int) ≤ 10000000000000000000000000000 * 24 := Int.mul_le_mul dy1 (by omega) (by omega) (by decide)
  have cm : (ns.length : Int) * dy = dy * (ns.length : Int) := Int.mul_comm _ _
  have kc1 : ∀ g, m_cost [tt ns, .int r1, .int (1 + r2 + dy * (ns.length : Int))] g = .val (.int (Tar.C ns (1 + r2) r1 + dy * ns.sum)) g := fun g => by
    rw [cost_ok T (by omega) (by omega) (by omega) (by omega) g, ← cm, Tar.C_more ns _ _ _ (by omega)]
  have kc2 : ∀ g, m_cost [tt ns, .int (r1 + dy * (ns.length : Int)), .int (1 + r2)] g = .val (.int (Tar.C ns (1 + r2) r1)) g := fun g => by
    rw [cost_ok T (by omega) (by omega) (by omega) (by omega) g, ← cm, Tar.C_period ns _ _ _ (by omega)]
  obtain ⟨g11, f11, p11⟩ := cheapS T (n := 1 + r2 + dy * (ns.length : Int)) (lo := r1) (hi := r1 + r3) (b := b) (by omega) (by omega) (by omega) (by omega) (by omega) o10.s o10.l (by
    rw [← cm]
    exact Tar.first_shift (fun x => Tar.C_more ns _ _ _ (by omega)) F)
  obtain ⟨g12, f12, p12⟩ := cheapS T (by omega) (by omega) (by omega) (by omega) (by omega) p11.s p11.l F
  obtain ⟨g13, f13, p13⟩ := cheapS T (n := 1 + r2) (lo := r1 + dy * (ns.length : Int)) (hi := r1 + r3 + dy * (ns.length : Int)) (b := b + dy * (ns.length : Int)) (by omega) (by omega) (by omega) (by omega) (by omega) p12.s p12.l (by
    rw [← cm]
    exact Tar.first_move (by omega) F)
  obtain ⟨g14, f14, p14⟩ := cheapS T (by omega) (by omega) (by omega) (by omega) (by omega) p13.s p13.l F
  obtain ⟨g15, f15, p15⟩ := cheapS T (n := dy * (ns.length : Int) + (ns.length : Int)) (lo := r1 + dy * (ns.length : Int)) (hi := r1 + r3 + dy * (ns.length : Int) + 100000) (b := r1 + dy * (ns.length : Int)) (by omega) (by omega) (by omega) (by omega) (by omega) p14.s p14.l (by
    have e : dy * (ns.length : Int) + (ns.length : Int) = (ns.length : Int) * (dy + 1) := by rw [Int.mul_add, cm, Int.mul_one]
    rw [e]
    exact Tar.first_const (fun x => Tar.C_whole ns _ x (by omega)) (by omega))
  have R0 : 0 ≤ (1 + r2) % (ns.length : Int) := Int.emod_nonneg _ (by omega)
  have R1 : (1 + r2) % (ns.length : Int) < (ns.length : Int) := Int.emod_lt_of_pos _ (by omega)
  obtain ⟨c, hc⟩ : ∃ c, (0 :: gs).getD ((1 + r2) % (ns.length : Int)).toNat 0 = c := ⟨_, rfl⟩
  have hlt : ((1 + r2) % (ns.length : Int)).toNat < (0 :: gs).length := by omega
  have hc2 : (0 :: gs)[((1 + r2) % (ns.length : Int)).toNat]? = some c := by
    rw [← hc, List.getD_eq_getElem?_getD, List.getElem?_eq_getElem hlt]
    rfl
  have hc3 := gf _ _ hc2
  rw [Int.toNat_of_nonneg R0] at hc3
  have hc4 : IsFirst (Tar.C ns (1 + r2)) 0 ((ns.length : Int) - 1) c := Tar.first_shift (fun x => Tar.C_rest ns (1 + r2) x (by omega)) hc3
  have hc5 : IsFirst (Tar.C ns (1 + r2 + dy * (ns.length : Int))) 0 1000000000000000000000000000000 c := by
    refine Tar.first_day (by omega) (by omega) ?_
    rw [← cm]
    exact Tar.first_shift (fun x => Tar.C_more ns _ _ _ (by omega)) hc4
  obtain ⟨g16, f16, p16⟩ := cheapS T (by omega) (by omega) (by omega) (by omega) (by omega) p15.s p15.l hc5
  obtain ⟨g17, f17, p17⟩ := cheapS T (by omega) (by omega) (by omega) (by omega) (by omega) p16.s p16.l hc4
  have ix : ∀ g, lstAt g P = some ((0 :: gs).map D.int) → DD.pyIx (.ref P) (.int ((1 + r2) % (ns.length : Int))) g = .val (.int c) g := fun g e => by
    have a := atI_map (0 :: gs) _ R0 (by omega)
    rw [hc] at a
    unfold lstAt at e
    split at e
    · rename_i ds zz
      cases e
      simp only [DD.pyIx, zz, a]
    · cases e
  have P10' := o10.k _ _ hP (p9.k _ _ hP (o9.k _ _ hP (o8.k _ _ hP (o7.k _ _ hP P6))))
  have P16 := p16.k _ _ hP (p15.k _ _ hP (p14.k _ _ hP (p13.k _ _ hP (p12.k _ _ hP (p11.k _ _ hP P10')))))
  have ix16 := ix _ P16
  have ix17 := ix _ (p17.k _ _ hP P16)
  refine ⟨g17, ?_, p17.s, p17.l⟩
  have L1 : -18446744073709551616 < (ns.length : Int) := by omega
  have L2 : (ns.length : Int) < 18446744073709551616 := by omega
  have S1 : -18446744073709551616 < ns.sum := by omega
  have S2 : ns.sum < 18446744073709551616 := by omega
  have L0 : 0 < (ns.length : Int) := by omega
  rw [List.map_cons] at P6
  have RP' : ∀ g, DD.pyRepr [D.tup (D.int 0 :: gs.map D.int)] g = .val (.str (PyData.tuple ((0 :: gs).map PyData.int)).shown) g := RP
  have f6' : m_table [tt ns] g5 = .val (D.tup (D.int 0 :: gs.map D.int)) g6 := f6
  clear ix P16 P10' hc hc2 hc3 hc4 hc5 hlt R0 R1 p17 p16 p15 p14 p13 p12 p11 cm D0 D1 dy0 dy1 P10 o10 p9 P9 o9 o8 o7 a7 a8 a9 b7 b8 b9 a10 b10 RP f6 p6 p5 P5 hP p4 m4 n4 gl gf F p3 p2 p1 o3 o2 o1 a1 a2 a3 b1 b2 b3 sl l1 l2 ff fl x h4 hB T
  have z1 : 1 ≤ sizeLine := by decide
  have z2 : 2 ≤ sizeLine := by decide
  have z3 : 3 ≤ sizeLine := by decide
  rw [rangeD_map] at f4
  unfold m_law_right b_law_right
  walk_at "dd"
end LW
set_option Elab.async false
set_option linter.all false
set_option maxRecDepth 100000
set_option maxHeartbeats 4000000
namespace LW
open PySem L2 DD
local macro_rules | `(tactic| walk_at "dd") => `(tactic| simp only [mBody, enOf, sNil, sSeq, sIf, sRet, sRetN, sAsg, sExpr, sPar, sPar3, sAug, gN, gT, gsCons, gsNil, gSubM, toOut, mOr, mAnd, mNot, mTru, mTst, mBin, mUn, mCall, mCons, mNil, mVar, mC, mTup, mLst, mIf, mChain, mOrV, mAndV, mNotV, mSl, moN, moS, mMeth, mDic, pCons, pNil, keysD, keyD, sFor, mEn, enSrc, mLc, lcRun, mIt, srcD, mRng1, mRng2, mYes, Res.bind, Res.bindS, Out.then, DD.pyIsi, tyD, knownT, isiB, pyCmp, DD.pyIs, DD.pyIsNot, isNon, truD, DD.pyAdd, DD.pySub, DD.pyMul, DD.pyDiv, DD.pyMod, DD.pyPow, DD.pyLen, lenD, DD.pyInt, DD.pySlice, DD.pySum, DD.pyTuple, DD.pyMin, DD.pyList, DD.pyEq, DD.pyNe, eqO, seqD, seqL, wipeE, rangeD_map, List.map_cons, List.map_nil, List.length_cons, List.length_nil, List.length_map, List.replicate, List.append_nil, List.nil_append, List.cons_append, List.set_cons_zero, List.set_cons_succ, List.getElem?_cons_zero, List.getElem?_cons_succ, Nat.reduceAdd, Nat.reduceSub, Nat.zero_add, if_true, if_false, Bool.false_eq_true, Bool.not_true, Bool.not_false, decide_true, decide_false, reduceIte, String.reduceBEq, Bool.or_true, Bool.true_or, Bool.or_false, Bool.false_or, Bool.and_true, Bool.and_false, Bool.true_and, Bool.false_and, Bool.and_self, String.reduceBNe, decide_eq_true_eq, reduceCtorEq, intsD_map, and_self, lstAt_last, Int.reducePow, Int.reduceNeg, Int.reduceSub, Int.reduceAdd, Int.reduceLT, Int.reduceLE, na10, na2, Int.reduceToNat, Nat.reducePow, Nat.reduceLT, Nat.reduceLeDiff, true_and, and_true, or_true, true_or, Option.map_some, *])
def chk (f : Int → Int) (lo : Int) (n : Nat) (b : Int) : Bool := decide (lo ≤ b) && decide (b ≤ lo + n) && (List.range (n + 1)).all fun i => decide (f b ≤ f (lo + (i : Int))) && (decide (b ≤ lo + (i : Int)) || decide (f b < f (lo + (i : Int))))
theorem chk_ok {f : Int → Int} {lo hi b : Int} {n : Nat} (e : hi = lo + n) (h : chk f lo n b = true) : IsFirst f lo hi b := by
  subst e
  unfold chk at h
  simp only [Bool.and_eq_true, decide_eq_true_eq, List.all_eq_true, List.mem_range, Bool.or_eq_true] at h
  obtain ⟨⟨h1, h2⟩, h3⟩ := h
  refine ⟨h1, h2, fun c c1 c2 => ?_, fun c c1 c2 => ?_⟩
  · have := (h3 (c - lo).toNat (by omega)).1
    rw [show lo + ((c - lo).toNat : Int) = c by omega] at this
    exact this
  · have := (h3 (c - lo).toNat (by omega)).2
    rw [show lo + ((c - lo).toNat : Int) = c by omega] at this
    rcases this with t | t
    · omega
    · exact t
theorem night : Tf [9, 9, 1, 1, 9] := ⟨by decide, by decide, by decide⟩
theorem night_eq (h : IH) : eqT (h ++ [.lst [.int 28, .int 2, .int 7, .tup [.int 0, .int 2, .int 2, .int 1, .int 0]]] ++ [.lst [.int 28, .int 2, .int 7, .tup [.int 0, .int 2, .int 2, .int 1, .int 0]]]) (.ref h.length) (.ref (h ++ [IO.lst [.int 28, .int 2, .int 7, .tup [.int 0, .int 2, .int 2, .int 1, .int 0]]]).length) = some true := by
  have e1 := lstAt_last (h ++ [.lst [.int 28, .int 2, .int 7, .tup [.int 0, .int 2, .int 2, .int 1, .int 0]]]) [.int 28, .int 2, .int 7, .tup [.int 0, .int 2, .int 2, .int 1, .int 0]]
  have e2 := lstAt_app [.lst [.int 28, .int 2, .int 7, .tup [.int 0, .int 2, .int 2, .int 1, .int 0]]] (lstAt_last h [.int 28, .int 2, .int 7, .tup [.int 0, .int 2, .int 2, .int 1, .int 0]])
  generalize (h ++ [.lst [.int 28, .int 2, .int 7, .tup [.int 0, .int 2, .int 2, .int 1, .int 0]]] ++ [.lst [.int 28, .int 2, .int 7, .tup [.int 0, .int 2, .int 2, .int 1, .int 0]]]) = g at e1 e2
  generalize (h ++ [IO.lst [.int 28, .int 2, .int 7, .tup [.int 0, .int 2, .int 2, .int 1, .int 0]]]).length = m at e1
  generalize h.length = n at e2
  have t1 : toPy 12 g (.ref m) = some (.list [.int 28, .int 2, .int 7, .tuple [.int 0, .int 2, .int 2, .int 1, .int 0]]) := by
    simp only [toPy, e1]
    rfl
  have t2 : toPy 12 g (.ref n) = some (.list [.int 28, .int 2, .int 7, .tuple [.int 0, .int 2, .int 2, .int 1, .int 0]]) := by
    simp only [toPy, e2]
    rfl
  unfold eqT
  rw [t1, t2]
  decide +kernel
theorem Sb.len {h : IH} {B : Nat} (x : Sb h B) : 4 ≤ h.length := by
  obtain ⟨_, _, _, y, _⟩ := x
  have := y.m
  apply Classical.byContradiction
  intro hn
  rw [List.getElem?_eq_none (by omega)] at this
  cases this
theorem law_true : ∀ ns : List Int, ns.length ≤ 63 → ∃ h, m_law [scr ns] [] = .val (.bl true) h := by
  intro ns hn
  obtain ⟨h0, e0, x0⟩ := begun_ok hn
  obtain ⟨N, hN⟩ : ∃ N : Nat, (6 + (if (ns.length : Int) < 12 then (ns.length : Int) else 12)).toNat = N := ⟨_, rfl⟩
  have N1 : N ≤ 18 := by
    rw [← hN]
    split <;> omega
  obtain ⟨e2, h2, LP, i, y, rfl, hi, x2, l2⟩ := forS_inv (t := gN 2) (b := B_law_1) (fun ds env h => ∃ i y, env = [some (scr ns), some (.ref 3), y, none, none] ∧ i + ds.length = 18 ∧ Sb h (i * 37) ∧ 4 ≤ h.length)
    (fun d ds env h ⟨i, y, he, hi, x, l4⟩ => by
      subst he
      rw [List.length_cons] at hi
      obtain ⟨rs, h1, f1, T, x1, l1⟩ := rates_ok x (by omega) l4
      obtain ⟨h2, f2, x2, l2⟩ := right_ok T x1 l1 (by omega)
      refine ⟨[some (scr ns), some (.ref 3), some d, none, none], h, [some (scr ns), some (.ref 3), some d, none, none], h2, rfl, .inl ?_, i + 1, _, rfl, by omega, by rw [show (i + 1) * 37 = i * 37 + 30 + 7 by omega]; exact x2, l2⟩
      unfold B_law_1
      clear x T x1 x2 l1 l2 l4 hi N1 x0 hN hn e0
      walk_at "dd") (rangeD 0 N) [some (scr ns), some (.ref 3), none, none, none] h0 ⟨18 - N, none, rfl, by
        unfold rangeD
        rw [List.length_map, List.length_range]
        omega, x0.mono (by omega), x0.len⟩
  have k1 : ∀ g, m_cost [D.tup [.int 9, .int 9, .int 1, .int 1, .int 9], .int 3, .int 4] g = .val (.int 28) g := fun g => cost_ok night (by decide) (by decide) (by decide) (by decide) g
  obtain ⟨h3, k2, p3⟩ := cheapS night (n := 2) (lo := 0) (hi := 9) (by decide) (by decide) (by decide) (by decide) (by decide) x2 l2 (b := 2) (chk_ok (n := 9) rfl (by decide +kernel))
  obtain ⟨h4, k3, p4⟩ := cheapS night (n := 7) (lo := 3) (hi := 20) (by decide) (by decide) (by decide) (by decide) (by decide) p3.s p3.l (b := 7) (chk_ok (n := 17) rfl (by decide +kernel))
  obtain ⟨fs, q, k4, fl, ff⟩ := table_ok night h4
  cases firsts_one (gs := [0, 2, 2, 1, 0]) fl ff (fun k b hk => by
    match k, hk with
    | 0, hk => cases hk; exact chk_ok (n := 4) rfl (by decide +kernel)
    | 1, hk => cases hk; exact chk_ok (n := 4) rfl (by decide +kernel)
    | 2, hk => cases hk; exact chk_ok (n := 4) rfl (by decide +kernel)
    | 3, hk => cases hk; exact chk_ok (n := 4) rfl (by decide +kernel)
    | 4, hk => cases hk; exact chk_ok (n := 4) rfl (by decide +kernel)
    | k + 5, hk => simp at hk)
  have k2' : m_cheapest [D.tup [.int 9, .int 9, .int 1, .int 1, .int 9], .int 2, .int 0, .int 9] h2 = .val (.int 2) h3 := k2
  have k3' : m_cheapest [D.tup [.int 9, .int 9, .int 1, .int 1, .int 9], .int 7, .int 3, .int 20] h3 = .val (.int 7) h4 := k3
  have k4' : m_table [D.tup [.int 9, .int 9, .int 1, .int 1, .int 9]] h4 = .val (.tup [.int 0, .int 2, .int 2, .int 1, .int 0]) (h4 ++ q) := k4
  have k5 := night_eq (h4 ++ q)
  have z4 : 4 ≤ sizeLine := by decide
  have z5 : 5 ≤ sizeLine := by decide
  rw [rangeD_map] at LP
  refine ⟨h4 ++ q ++ [.lst [.int 28, .int 2, .int 7, .tup [.int 0, .int 2, .int 2, .int 1, .int 0]]] ++ [.lst [.int 28, .int 2, .int 7, .tup [.int 0, .int 2, .int 2, .int 1, .int 0]]], ?_⟩
  unfold m_law b_law
  unfold scr at *
  clear k2 k3 k4 ff fl p3 p4 x2 l2 hi N1 x0 hn
  walk_at "dd"
end LW
set_option Elab.async false
set_option linter.all false
set_option maxRecDepth 100000
set_option maxHeartbeats 0
namespace LW
open PySem PySem.Spec L2 PyProof.Rows DD
/-! ### the head -/
def d_law_begun : He.DefD := ⟨("_law_begun", none), "_law_begun", "_law_begun", defArgs s_law_begun, defBody s_law_begun, defScope s_law_begun, [], []⟩
def d_is_whole : He.DefD := ⟨("is_whole", none), "is_whole", "is_whole", defArgs s_is_whole, defBody s_is_whole, defScope s_is_whole, [], []⟩
def d_need_tariff : He.DefD := ⟨("need_tariff", none), "need_tariff", "need_tariff", defArgs s_need_tariff, defBody s_need_tariff, defScope s_need_tariff, [], []⟩
def d_ahead_of : He.DefD := ⟨("ahead_of", none), "ahead_of", "ahead_of", defArgs s_ahead_of, defBody s_ahead_of, defScope s_ahead_of, [], []⟩
def d_cost_of : He.DefD := ⟨("cost_of", none), "cost_of", "cost_of", defArgs s_cost_of, defBody s_cost_of, defScope s_cost_of, [], []⟩
def d_cost : He.DefD := ⟨("cost", none), "cost", "cost", defArgs s_cost, defBody s_cost, defScope s_cost, [], []⟩
def d_cheapest : He.DefD := ⟨("cheapest", none), "cheapest", "cheapest", defArgs s_cheapest, defBody s_cheapest, defScope s_cheapest, [], []⟩
def d_table : He.DefD := ⟨("table", none), "table", "table", defArgs s_table, defBody s_table, defScope s_table, [], []⟩
def d_law_cost : He.DefD := ⟨("_law_cost", none), "_law_cost", "_law_cost", defArgs s_law_cost, defBody s_law_cost, defScope s_law_cost, [], []⟩
def d_law_first : He.DefD := ⟨("_law_first", none), "_law_first", "_law_first", defArgs s_law_first, defBody s_law_first, defScope s_law_first, [], []⟩
def d_law_mix : He.DefD := ⟨("_law_mix", none), "_law_mix", "_law_mix", defArgs s_law_mix, defBody s_law_mix, defScope s_law_mix, [], []⟩
def d_law_draw : He.DefD := ⟨("_law_draw", none), "_law_draw", "_law_draw", defArgs s_law_draw, defBody s_law_draw, defScope s_law_draw, [], []⟩
def d_law_right : He.DefD := ⟨("_law_right", none), "_law_right", "_law_right", defArgs s_law_right, defBody s_law_right, defScope s_law_right, [], []⟩
def d_law_rates : He.DefD := ⟨("_law_rates", none), "_law_rates", "_law_rates", defArgs s_law_rates, defBody s_law_rates, defScope s_law_rates, [], []⟩
def d_law : He.DefD := ⟨("law", none), "law", "law", defArgs s_law, defBody s_law, defScope s_law, [], []⟩
def fn : List He.DefD := [d_law_begun, d_is_whole, d_need_tariff, d_ahead_of, d_cost_of, d_cost, d_cheapest, d_table, d_law_cost, d_law_first, d_law_mix, d_law_draw, d_law_right, d_law_rates, d_law]
def fa : List He.Fa := [.glo "_law_begun", .glo "is_whole", .glo "need_tariff", .glo "ahead_of", .glo "cost_of", .glo "cost", .glo "cheapest", .glo "table", .glo "_law_cost", .glo "_law_first", .glo "_law_mix", .glo "_law_draw", .glo "_law_right", .glo "_law_rates", .glo "law", .free "bool", .free "enumerate", .free "int", .free "isinstance", .free "len", .free "list", .free "min", .free "range", .free "repr", .free "sum", .free "tuple", .int "MOST_DAY" 24, .int "MOST_PRICE" 1000000, .int "MOST_MOMENT" 1000000000000000000000000000000]
abbrev R : PySem.W.OpenRow := PySem.W.OpenLaw.row PySem.Challenge.rw_faxhouse_k82_whole_tariffs_of_any_length
abbrev hk : PySem.W.Hook := He.hookD 4 fa fn
def ob (s : PySem.W.SharedT) : He.AlD := He.obsDG 4 fa fn (HandSHeadRun.getT s)
theorem ob_eq (s : PySem.W.SharedT) : ob s = hk.obs s.abs := He.obsDG_eq (HandSHeadRun.getT_eq s)
def nm0 : List PySem.Str := ["BadTariff", "OutOfPlace", "is_whole", "MOST_DAY", "MOST_PRICE", "MOST_MOMENT", "need_tariff", "ahead_of", "cost_of", "cost", "cheapest", "table", "_law_mix", "_law_begun", "_law_draw", "_law_cost", "_law_rates", "_law_first", "_law_right"]
def nms : List PySem.Str := nm0
theorem run (w : World) : HandSHeadRun.RunEq R (PySem.W.view R.prog [23]) hk ob 100000 nms w := by
  intro os
  kernel_rfl
theorem facts {P : Program} {w : World} {K : PySem.W.Frag} {h : Heap} {mg : MG} {f : Addr} (X : K.In h) (Gn : h.Ns mainGlobals mg) (hfa : mg ("law" : Str) = some (.ref f)) (c : He.SaysD fa fn K) :
    ∃ fd : FuncData, (∀ (s : Shared) (v : Value), BindsTo s fd ⟨[v], []⟩ [("_law_script", v)]) ∧ ∀ base : Heap, K.In base → base.Ns mainGlobals mg → FnG P w K mg base 5 f fd ["_law_script"] (spM mg K m_law 1) := by
  obtain ⟨fd_law_begun, D_law_begun⟩ := c.def_ 0 (d := d_law_begun) rfl
  have g_law_begun := He.glo_ok X Gn (c.fact 0 (f := .glo "_law_begun") rfl)
  obtain ⟨fd_is_whole, D_is_whole⟩ := c.def_ 1 (d := d_is_whole) rfl
  have g_is_whole := He.glo_ok X Gn (c.fact 1 (f := .glo "is_whole") rfl)
  obtain ⟨fd_need_tariff, D_need_tariff⟩ := c.def_ 2 (d := d_need_tariff) rfl
  have g_need_tariff := He.glo_ok X Gn (c.fact 2 (f := .glo "need_tariff") rfl)
  obtain ⟨fd_ahead_of, D_ahead_of⟩ := c.def_ 3 (d := d_ahead_of) rfl
  have g_ahead_of := He.glo_ok X Gn (c.fact 3 (f := .glo "ahead_of") rfl)
  obtain ⟨fd_cost_of, D_cost_of⟩ := c.def_ 4 (d := d_cost_of) rfl
  have g_cost_of := He.glo_ok X Gn (c.fact 4 (f := .glo "cost_of") rfl)
  obtain ⟨fd_cost, D_cost⟩ := c.def_ 5 (d := d_cost) rfl
  have g_cost := He.glo_ok X Gn (c.fact 5 (f := .glo "cost") rfl)
  obtain ⟨fd_cheapest, D_cheapest⟩ := c.def_ 6 (d := d_cheapest) rfl
  have g_cheapest := He.glo_ok X Gn (c.fact 6 (f := .glo "cheapest") rfl)
  obtain ⟨fd_table, D_table⟩ := c.def_ 7 (d := d_table) rfl
  have g_table := He.glo_ok X Gn (c.fact 7 (f := .glo "table") rfl)
  obtain ⟨fd_law_cost, D_law_cost⟩ := c.def_ 8 (d := d_law_cost) rfl
  have g_law_cost := He.glo_ok X Gn (c.fact 8 (f := .glo "_law_cost") rfl)
  obtain ⟨fd_law_first, D_law_first⟩ := c.def_ 9 (d := d_law_first) rfl
  have g_law_first := He.glo_ok X Gn (c.fact 9 (f := .glo "_law_first") rfl)
  obtain ⟨fd_law_mix, D_law_mix⟩ := c.def_ 10 (d := d_law_mix) rfl
  have g_law_mix := He.glo_ok X Gn (c.fact 10 (f := .glo "_law_mix") rfl)
  obtain ⟨fd_law_draw, D_law_draw⟩ := c.def_ 11 (d := d_law_draw) rfl
  have g_law_draw := He.glo_ok X Gn (c.fact 11 (f := .glo "_law_draw") rfl)
  obtain ⟨fd_law_right, D_law_right⟩ := c.def_ 12 (d := d_law_right) rfl
  have g_law_right := He.glo_ok X Gn (c.fact 12 (f := .glo "_law_right") rfl)
  obtain ⟨fd_law_rates, D_law_rates⟩ := c.def_ 13 (d := d_law_rates) rfl
  have g_law_rates := He.glo_ok X Gn (c.fact 13 (f := .glo "_law_rates") rfl)
  obtain ⟨fd_law, D_law⟩ := c.def_ 14 (d := d_law) rfl
  have g_law := He.glo_ok X Gn (c.fact 14 (f := .glo "law") rfl)
  have G : Gs mg := ⟨He.free_ok X Gn (c.fact 15 (f := .free "bool") rfl),
    He.free_ok X Gn (c.fact 16 (f := .free "enumerate") rfl),
    He.free_ok X Gn (c.fact 17 (f := .free "int") rfl),
    He.free_ok X Gn (c.fact 18 (f := .free "isinstance") rfl),
    He.free_ok X Gn (c.fact 19 (f := .free "len") rfl),
    He.free_ok X Gn (c.fact 20 (f := .free "list") rfl),
    He.free_ok X Gn (c.fact 21 (f := .free "min") rfl),
    He.free_ok X Gn (c.fact 22 (f := .free "range") rfl),
    He.free_ok X Gn (c.fact 23 (f := .free "repr") rfl),
    He.free_ok X Gn (c.fact 24 (f := .free "sum") rfl),
    He.free_ok X Gn (c.fact 25 (f := .free "tuple") rfl),
    He.int_ok X Gn (c.fact 26 (f := .int "MOST_DAY" 24) rfl),
    He.int_ok X Gn (c.fact 27 (f := .int "MOST_PRICE" 1000000) rfl),
    He.int_ok X Gn (c.fact 28 (f := .int "MOST_MOMENT" 1000000000000000000000000000000) rfl)⟩
  have e := hfa.symm.trans g_law
  cases e
  have b := FunD.bindsA (ps := ["_law_script"]) D_law fun _ _ _ _ _ _ us hl => match us, hl with | [_], _ => rfl
  refine ⟨fd_law, fun s v => b s [v] rfl, fun base _ _ => ?_⟩
  have F_law_begun : Fn P w K mg base 1 "_law_begun" m_law_begun 1 := ok_law_begun G D_law_begun g_law_begun 
  have F_is_whole : Fn P w K mg base 1 "is_whole" m_is_whole 3 := ok_is_whole G D_is_whole g_is_whole 
  have F_need_tariff : Fn P w K mg base 2 "need_tariff" m_need_tariff 1 := ok_need_tariff G D_need_tariff g_need_tariff F_is_whole
  have F_ahead_of : Fn P w K mg base 1 "ahead_of" m_ahead_of 2 := ok_ahead_of G D_ahead_of g_ahead_of 
  have F_cost_of : Fn P w K mg base 2 "cost_of" m_cost_of 3 := ok_cost_of G D_cost_of g_cost_of F_ahead_of
  have F_cost : Fn P w K mg base 3 "cost" m_cost 3 := ok_cost G D_cost g_cost F_need_tariff F_cost_of F_is_whole
  have F_cheapest : Fn P w K mg base 3 "cheapest" m_cheapest 4 := ok_cheapest G D_cheapest g_cheapest F_need_tariff F_is_whole F_cost_of
  have F_table : Fn P w K mg base 3 "table" m_table 1 := ok_table G D_table g_table F_need_tariff F_cost_of
  have F_law_cost : Fn P w K mg base 1 "_law_cost" m_law_cost 3 := ok_law_cost G D_law_cost g_law_cost 
  have F_law_first : Fn P w K mg base 2 "_law_first" m_law_first 4 := ok_law_first G D_law_first g_law_first F_law_cost
  have F_law_mix : Fn P w K mg base 1 "_law_mix" m_law_mix 2 := ok_law_mix G D_law_mix g_law_mix 
  have F_law_draw : Fn P w K mg base 2 "_law_draw" m_law_draw 2 := ok_law_draw G D_law_draw g_law_draw F_law_mix
  have F_law_right : Fn P w K mg base 4 "_law_right" m_law_right 2 := ok_law_right G D_law_right g_law_right F_law_first F_cheapest F_law_draw F_cost F_law_cost F_table
  have F_law_rates : Fn P w K mg base 3 "_law_rates" m_law_rates 1 := ok_law_rates G D_law_rates g_law_rates F_law_draw
  exact ok_law G D_law g_law F_law_begun F_cost F_cheapest F_table F_law_right F_law_rates

end LW
open PySem PySem.W PySem.Calls PyProof.Rows
theorem PySem.Challenge.cw_faxhouse_k82_whole_tariffs_of_any_length_holds : PySem.Challenge.rw_faxhouse_k82_whole_tariffs_of_any_length.Holds := by
  w_on; o_law
  refine HandSHeadRun.head_any (r := OpenLaw.row PySem.Challenge.rw_faxhouse_k82_whole_tariffs_of_any_length) (q := view (OpenLaw.row PySem.Challenge.rw_faxhouse_k82_whole_tariffs_of_any_length).prog [23]) (H := LW.hk) (ob := LW.ob) (M := 100000) (loose := LW.nms) (d := HandSHeadRun.topDef (OpenLaw.row PySem.Challenge.rw_faxhouse_k82_whole_tariffs_of_any_length).prog 23) (kwd := []) LW.ob_eq
    (by kernel_rfl) (fun s => by kernel_rfl) LW.run (by kernel_rfl) (by kernel_rfl) (by kernel_rfl) (by rfl) (by first | assumption | decide +kernel) (by decide +kernel) ⟨rfl, rfl, rfl, rfl, rfl, by decide +kernel⟩ ?hw ?hc
  case hw => w_witness2
  case hc =>
    refine DD.walk_G (l := PySem.Challenge.rw_faxhouse_k82_whole_tariffs_of_any_length) (n := 63) (k := 5) (x := "_law_script") rfl (by decide) (by kernel_rfl) ⟨rfl, by decide, by decide⟩ ?F
    intro w mg fa h Y G hmg0
    obtain ⟨K, KX, c⟩ := Y
    have hmg : mg ("law" : PySem.Str) = some (.ref fa) := by
      have e : (HandSHeadRun.topDef (OpenLaw.row PySem.Challenge.rw_faxhouse_k82_whole_tariffs_of_any_length).prog 23).name = ("law" : PySem.Str) := by kernel_rfl
      rw [← e]
      exact hmg0
    obtain ⟨fd, hb, hF⟩ := LW.facts (P := (PySem.Challenge.rw_faxhouse_k82_whole_tariffs_of_any_length).prog) (w := w) KX G hmg c
    exact ⟨K, fd, LW.m_law, KX, hb, LW.law_true, hF⟩
